import PyProof.Rows.All
import Wide.All
import OpenK.AllK
import Wide.FinOn
import HandS.ForMost
import HandS.IsInst
import HandS.Style
import HandS.TupAny
import HandS.Flow
import HandS.Defaults
import HandS.Walk
import HandS.Deep
import HandS.StrMore
import HandS.Wide
import PyProof.ReprReads
import PySem.Challenge.RW_finishable_k02_names_kinds_and_patterns
set_option Elab.async false
set_option linter.all false
set_option maxRecDepth 100000
set_option maxHeartbeats 4000000
namespace Fx
open PySem PySem.Spec PyProof.Rows L2

/-! the data level: values as trees; what may change stands in a map of its own -/
inductive D where
  | non
  | bl (b : Bool)
  | int (i : Int)
  | str (x : Str)
  | tup (ds : List D)
  | lst (ds : List D)
  | slst (ds : List D)
  | dic (kvs : List (Key × D))
  | ref (a : Addr)
  | ty (n : String)

/-- an object that may change -/
inductive MO where
  | lst (ds : List D)
  | dic (kvs : List (Key × D))

abbrev Mp := Addr → Option MO
def updM (M : Mp) (a : Addr) (o : MO) : Mp := fun b => if b = a then some o else M b
def delM (M : Mp) (a : Addr) : Mp := fun b => if b = a then none else M b
theorem updM_same {M : Mp} {a : Addr} {o : MO} : updM M a o a = some o := by unfold updM; rw [if_pos rfl]
theorem updM_ne {M : Mp} {a b : Addr} {o : MO} (h : b ≠ a) : updM M a o b = M b := by unfold updM; rw [if_neg h]
theorem delM_same {M : Mp} {a : Addr} : delM M a a = none := by unfold delM; rw [if_pos rfl]
theorem delM_ne {M : Mp} {a b : Addr} (h : b ≠ a) : delM M a b = M b := by unfold delM; rw [if_neg h]

/-- what never changes -/
def hid (M : Mp) (H : Hp) : Hp := fun a => match M a with
  | some _ => none
  | none => H a
theorem hid_some {M : Mp} {H : Hp} {a : Addr} {o : HO} (h : hid M H a = some o) : M a = none ∧ H a = some o := by
  unfold hid at h
  cases e : M a with
  | none => rw [e] at h; exact ⟨rfl, h⟩
  | some m => rw [e] at h; cases h
theorem hid_of {M : Mp} {H : Hp} {a : Addr} (e : M a = none) : hid M H a = H a := by
  unfold hid; rw [e]
theorem hid_sub {M : Mp} {H : Hp} : Same (hid M H) H := fun _ _ h => (hid_some h).2

mutual
inductive Dt (K : PySem.W.Frag) (G : Hp) : V → D → Prop
  | non : Dt K G .non .non
  | bl (b : Bool) : Dt K G (.bl b) (.bl b)
  | int (i : Int) : Dt K G (.int i) (.int i)
  | str (x : Str) : Dt K G (.str x) (.str x)
  | lst {a : Addr} {xs : List V} {ds : List D} : G a = some (.lst xs) → Dts K G xs ds → Dt K G (.ref a) (.lst ds)
  | slst {a : Addr} {xs : List V} {ds : List D} : SqL K G a xs → Dts K G xs ds → Dt K G (.ref a) (.slst ds)
  | tup {a : Addr} {xs : List V} {ds : List D} : SqT K G a xs → Dts K G xs ds → Dt K G (.ref a) (.tup ds)
  | dic {a : Addr} {xs : List (Key × V)} {ds : List (Key × D)} : G a = some (.dK xs) → Dtk K G xs ds → Dt K G (.ref a) (.dic ds)
  | ref (a : Addr) : Dt K G (.ref a) (.ref a)
  | ty (n : String) : Dt K G (.ty n) (.ty n)
inductive Dts (K : PySem.W.Frag) (G : Hp) : List V → List D → Prop
  | nil : Dts K G [] []
  | cons {v : V} {vs : List V} {d : D} {ds : List D} : Dt K G v d → Dts K G vs ds → Dts K G (v :: vs) (d :: ds)
inductive Dtk (K : PySem.W.Frag) (G : Hp) : List (Key × V) → List (Key × D) → Prop
  | nil : Dtk K G [] []
  | cons {k : Key} {v : V} {vs : List (Key × V)} {d : D} {ds : List (Key × D)} : Dt K G v d → Dtk K G vs ds → Dtk K G ((k, v) :: vs) ((k, d) :: ds)
end

theorem sqT_same {K : PySem.W.Frag} {H H' : Hp} {a : Addr} {xs : List V} (e : Same H H') (h : SqT K H a xs) : SqT K H' a xs := by
  rcases h with (h | ⟨o, h⟩) | h
  · exact .inl (.inl (e _ _ h))
  · exact .inl (.inr ⟨o, e _ _ h⟩)
  · exact .inr h

section
variable {K : PySem.W.Frag} {G G' : Hp}
mutual
theorem Dt.mono (e : Same G G') : ∀ {v : V} {d : D}, Dt K G v d → Dt K G' v d
  | _, _, .non => .non
  | _, _, .bl b => .bl b
  | _, _, .int i => .int i
  | _, _, .str x => .str x
  | _, _, .lst h1 h2 => .lst (e _ _ h1) (Dts.mono e h2)
  | _, _, .slst h1 h2 => .slst (e.seq h1) (Dts.mono e h2)
  | _, _, .tup h1 h2 => .tup (sqT_same e h1) (Dts.mono e h2)
  | _, _, .dic h1 h2 => .dic (e _ _ h1) (Dtk.mono e h2)
  | _, _, .ref a => .ref a
  | _, _, .ty n => .ty n
theorem Dts.mono (e : Same G G') : ∀ {vs : List V} {ds : List D}, Dts K G vs ds → Dts K G' vs ds
  | _, _, .nil => .nil
  | _, _, .cons h1 h2 => .cons (Dt.mono e h1) (Dts.mono e h2)
theorem Dtk.mono (e : Same G G') : ∀ {vs : List (Key × V)} {ds : List (Key × D)}, Dtk K G vs ds → Dtk K G' vs ds
  | _, _, .nil => .nil
  | _, _, .cons h1 h2 => .cons (Dt.mono e h1) (Dtk.mono e h2)
end
theorem Dts.length : ∀ {vs : List V} {ds : List D}, Dts K G vs ds → vs.length = ds.length
  | _, _, .nil => rfl
  | _, _, .cons _ h2 => by rw [List.length_cons, List.length_cons, h2.length]
theorem Dts.get : ∀ {vs : List V} {ds : List D} {i : Nat} {d : D}, Dts K G vs ds → ds[i]? = some d → ∃ v, vs[i]? = some v ∧ Dt K G v d
  | _, _, _, _, .nil, e => by simp at e
  | _, _, 0, _, .cons h1 _, e => by simp at e; subst e; exact ⟨_, rfl, h1⟩
  | _, _, i + 1, _, .cons _ h2, e => by
    obtain ⟨v, h, r⟩ := Dts.get h2 (i := i) (by simpa using e)
    exact ⟨v, by simpa using h, r⟩
theorem Dts.getV : ∀ {vs : List V} {ds : List D} {i : Nat} {v : V}, Dts K G vs ds → vs[i]? = some v → ∃ d, ds[i]? = some d ∧ Dt K G v d
  | _, _, _, _, .nil, e => by simp at e
  | _, _, 0, _, .cons h1 _, e => by simp at e; subst e; exact ⟨_, rfl, h1⟩
  | _, _, i + 1, _, .cons _ h2, e => by
    obtain ⟨v, h, r⟩ := Dts.getV h2 (i := i) (by simpa using e)
    exact ⟨v, by simpa using h, r⟩
theorem Dts.append : ∀ {vs ws : List V} {ds es : List D}, Dts K G vs ds → Dts K G ws es → Dts K G (vs ++ ws) (ds ++ es)
  | _, _, _, _, .nil, h => h
  | _, _, _, _, .cons h1 h2, h => .cons h1 (Dts.append h2 h)
theorem Dts.take : ∀ {vs : List V} {ds : List D} (n : Nat), Dts K G vs ds → Dts K G (vs.take n) (ds.take n)
  | _, _, 0, _ => .nil
  | _, _, _ + 1, .nil => .nil
  | _, _, n + 1, .cons h1 h2 => .cons h1 (Dts.take n h2)
theorem Dts.drop : ∀ {vs : List V} {ds : List D} (n : Nat), Dts K G vs ds → Dts K G (vs.drop n) (ds.drop n)
  | _, _, 0, h => h
  | _, _, _ + 1, .nil => .nil
  | _, _, n + 1, .cons h1 h2 => Dts.drop n h2
theorem Dts.set : ∀ {vs : List V} {ds : List D} {v : V} {d : D} (n : Nat), Dts K G vs ds → Dt K G v d → Dts K G (vs.set n v) (ds.set n d)
  | _, _, _, _, _, .nil, _ => .nil
  | _, _, _, _, 0, .cons _ h2, h => .cons h h2
  | _, _, _, _, n + 1, .cons h1 h2, h => .cons h1 (Dts.set n h2 h)
theorem Dts.rev : ∀ {vs : List V} {ds : List D}, Dts K G vs ds → Dts K G vs.reverse ds.reverse
  | _, _, .nil => .nil
  | _, _, .cons h1 h2 => by
    rw [List.reverse_cons, List.reverse_cons]
    exact Dts.append (Dts.rev h2) (.cons h1 .nil)
theorem Dts.ints (ns : List Int) : Dts K G (ns.map V.int) (ns.map D.int) := by
  induction ns with
  | nil => exact .nil
  | cons n ns ih => exact .cons (.int n) ih
end

/-- what the map tells holds in the heap -/
def MOk (K : PySem.W.Frag) (M : Mp) (H : Hp) (a : Addr) : MO → Prop
  | .lst ds => ∃ xs, H a = some (.lst xs) ∧ Dts K (hid M H) xs ds
  | .dic ds => ∃ xs, H a = some (.dK xs) ∧ Dtk K (hid M H) xs ds
def HpOk (K : PySem.W.Frag) (M : Mp) (H : Hp) : Prop := ∀ a o, M a = some o → MOk K M H a o

/-- later -/
def Lat (M : Mp) (H : Hp) (M' : Mp) (H' : Hp) : Prop := ∀ b o, H b = some o → M b = none → H' b = some o ∧ M' b = none
theorem Lat.refl (M : Mp) (H : Hp) : Lat M H M H := fun _ _ h n => ⟨h, n⟩
theorem Lat.trans {M M1 M2 : Mp} {H H1 H2 : Hp} (a : Lat M H M1 H1) (b : Lat M1 H1 M2 H2) : Lat M H M2 H2 := fun c o h n => b c o (a c o h n).1 (a c o h n).2
theorem Lat.same {M M' : Mp} {H H' : Hp} (l : Lat M H M' H') : Same (hid M H) (hid M' H') := fun b o h => by
  obtain ⟨n, e⟩ := hid_some h
  obtain ⟨e', n'⟩ := l b o e n
  rw [hid_of n']
  exact e'

section
variable {K : PySem.W.Frag} {M M' : Mp} {H H' : Hp}
theorem HpOk.free (h : HpOk K M H) {p : Addr} (n : H p = none) : M p = none := by
  cases e : M p with
  | none => rfl
  | some o =>
    have := h p o e
    cases o with
    | lst ds => obtain ⟨xs, q, _⟩ := this; rw [n] at q; cases q
    | dic ds => obtain ⟨xs, q, _⟩ := this; rw [n] at q; cases q
/-- a new thing that never changes -/
theorem HpOk.lay (h : HpOk K M H) {p : Addr} {o : HO} (n : H p = none) : HpOk K M (upd H p o) ∧ Lat M H M (upd H p o) := by
  have l : Lat M H M (upd H p o) := fun b u e nb => ⟨by rw [upd_ne (ne_of_none e n)]; exact e, nb⟩
  refine ⟨fun a u e => ?_, l⟩
  have q := h a u e
  cases u with
  | lst ds =>
    obtain ⟨xs, e1, e2⟩ := q
    exact ⟨xs, by rw [upd_ne (ne_of_none e1 n)]; exact e1, e2.mono l.same⟩
  | dic ds =>
    obtain ⟨xs, e1, e2⟩ := q
    exact ⟨xs, by rw [upd_ne (ne_of_none e1 n)]; exact e1, e2.mono l.same⟩
theorem HpOk.ofLat (h : HpOk K M H) (l : Lat M H M H') (k : ∀ b o, M b ≠ none → H b = some o → H' b = some o) : HpOk K M H' := fun a u e => by
  have q := h a u e
  cases u with
  | lst ds =>
    obtain ⟨xs, e1, e2⟩ := q
    exact ⟨xs, k _ _ (by rw [e]; simp) e1, e2.mono l.same⟩
  | dic ds =>
    obtain ⟨xs, e1, e2⟩ := q
    exact ⟨xs, k _ _ (by rw [e]; simp) e1, e2.mono l.same⟩
/-- all that is tracked is kept -/
theorem HpOk.ofSame (h : HpOk K M H) (e : Same H H') : HpOk K M H' ∧ Lat M H M H' :=
  have l : Lat M H M H' := fun b o q n => ⟨e b o q, n⟩
  ⟨h.ofLat l fun b o _ q => e b o q, l⟩
/-- what may change is changed, or is new -/
theorem HpOk.put (h : HpOk K M H) {p : Addr} {o : HO} {m : MO} (hp : M p ≠ none ∨ H p = none) (hm : MOk K (updM M p m) (upd H p o) p m) : HpOk K (updM M p m) (upd H p o) ∧ Lat M H (updM M p m) (upd H p o) := by
  have l : Lat M H (updM M p m) (upd H p o) := fun b u e nb => by
    have ne : b ≠ p := fun z => by
      subst z
      rcases hp with q | q
      · exact q nb
      · rw [e] at q; cases q
    exact ⟨by rw [upd_ne ne]; exact e, by rw [updM_ne ne]; exact nb⟩
  refine ⟨fun a u e => ?_, l⟩
  by_cases ea : a = p
  · subst ea
    rw [updM_same] at e
    cases e
    exact hm
  · rw [updM_ne ea] at e
    have q := h a u e
    cases u with
    | lst ds =>
      obtain ⟨xs, e1, e2⟩ := q
      exact ⟨xs, by rw [upd_ne ea]; exact e1, e2.mono l.same⟩
    | dic ds =>
      obtain ⟨xs, e1, e2⟩ := q
      exact ⟨xs, by rw [upd_ne ea]; exact e1, e2.mono l.same⟩
/-- from now on it never changes -/
theorem HpOk.frz (h : HpOk K M H) (p : Addr) : HpOk K (delM M p) H ∧ Lat M H (delM M p) H := by
  have l : Lat M H (delM M p) H := fun b u e nb => ⟨e, by
    unfold delM
    split
    · rfl
    · exact nb⟩
  refine ⟨fun a u e => ?_, l⟩
  have ea : a ≠ p := fun z => by
    subst z
    rw [delM_same] at e
    cases e
  rw [delM_ne ea] at e
  have q := h a u e
  cases u with
  | lst ds =>
    obtain ⟨xs, e1, e2⟩ := q
    exact ⟨xs, e1, e2.mono l.same⟩
  | dic ds =>
    obtain ⟨xs, e1, e2⟩ := q
    exact ⟨xs, e1, e2.mono l.same⟩
end
/-! slots -/
abbrev Ds := List (Option D)
def Env (K : PySem.W.Frag) (M : Mp) (H : Hp) (σ : L2.St) (ds : Ds) : Prop := σ.length = ds.length ∧ ∀ (i : Nat) (d : D), ds[i]? = some (some d) → ∃ v, σ[i]? = some (some v) ∧ Dt K (hid M H) v d
theorem Env.mono {K : PySem.W.Frag} {M M' : Mp} {H H' : Hp} {σ : L2.St} {ds : Ds} (e : Env K M H σ ds) (l : Lat M H M' H') : Env K M' H' σ ds := ⟨e.1, fun i d h => by
  obtain ⟨v, a, b⟩ := e.2 i d h
  exact ⟨v, a, b.mono l.same⟩⟩
theorem Env.set {K : PySem.W.Frag} {M : Mp} {H : Hp} {σ : L2.St} {ds : Ds} {v : V} {d : D} (e : Env K M H σ ds) (i : Nat) (h : Dt K (hid M H) v d) : Env K M H (σ.set i (some v)) (ds.set i (some d)) := by
  refine ⟨by rw [List.length_set, List.length_set]; exact e.1, fun j u hj => ?_⟩
  rw [List.getElem?_set] at hj
  rw [List.getElem?_set]
  by_cases q : i = j
  · rw [if_pos q] at hj
    rw [if_pos q]
    by_cases z : i < ds.length
    · rw [if_pos z] at hj
      cases hj
      rw [if_pos (by rw [e.1]; exact z)]
      exact ⟨v, rfl, h⟩
    · rw [if_neg z] at hj
      cases hj
  · rw [if_neg q] at hj
    rw [if_neg q]
    exact e.2 j u hj
end Fx

namespace Fx
open PySem PySem.Spec PyProof.Rows L2

abbrev DK := D → Mp → Prop
abbrev TEd := Ds → Mp → DK → Prop
abbrev TTd := Ds → Mp → (Bool → Mp → Prop) → Prop
abbrev TAd := Ds → Mp → (List D → Mp → Prop) → Prop
structure Endd where
  nx : Ds → Mp → Prop
  rt : DK
  bk : Ds → Mp → Prop := fun _ _ => False
  ct : Ds → Mp → Prop := fun _ _ => False
abbrev TSd := Endd → Ds → Mp → Prop

/-- two ways -/
def br (b : Bool) (P Q : Prop) : Prop := match b with
  | true => P
  | false => Q
@[simp] theorem br_true {P Q : Prop} : br true P Q = P := rfl
@[simp] theorem br_false {P Q : Prop} : br false P Q = Q := rfl
theorem br_dec {p : Prop} [Decidable p] {P Q : Prop} : br (decide p) P Q = ((p → P) ∧ (¬ p → Q)) := by
  by_cases h : p
  · rw [decide_eq_true h]
    simp [h]
  · rw [decide_eq_false h]
    simp [h]
theorem br_ite {b : Bool} {P Q : Prop} : br b P Q = ((b = true → P) ∧ (b = false → Q)) := by cases b <;> simp
@[simp] theorem br_not {b : Bool} {P Q : Prop} : br (!b) P Q = br b Q P := by cases b <;> rfl
theorem br_and {a b : Bool} {P Q : Prop} : br (a && b) P Q = br a (br b P Q) Q := by cases a <;> rfl
theorem br_or {a b : Bool} {P Q : Prop} : br (a || b) P Q = br a P (br b P Q) := by cases a <;> rfl

/-- behind an expression: from M, H on -/
def AftE (K : PySem.W.Frag) (M : Mp) (H : Hp) (F : DK) (Q : VK) : Prop := ∀ d M', F d M' → ∀ v H', HpOk K M' H' → Dt K (hid M' H') v d → Lat M H M' H' → Q v H'
def emb (K : PySem.W.Frag) (T : TEd) : TE := fun σ H Q => ∃ ds M F, Env K M H σ ds ∧ HpOk K M H ∧ T ds M F ∧ AftE K M H F Q
def embT (K : PySem.W.Frag) (T : TTd) : TT := fun σ H Q => ∃ ds M F, Env K M H σ ds ∧ HpOk K M H ∧ T ds M F ∧ ∀ b M', F b M' → ∀ H', HpOk K M' H' → Lat M H M' H' → Q b H'
def embA (K : PySem.W.Frag) (T : TAd) : TA := fun σ H Q => ∃ ds M F, Env K M H σ ds ∧ HpOk K M H ∧ T ds M F ∧ ∀ xs M', F xs M' → ∀ vs H', HpOk K M' H' → Dts K (hid M' H') vs xs → Lat M H M' H' → Q vs H'
structure AftS (K : PySem.W.Frag) (M : Mp) (H : Hp) (B : Endd) (E : Ends) : Prop where
  nx : ∀ ds' M', B.nx ds' M' → ∀ σ' H', Env K M' H' σ' ds' → HpOk K M' H' → Lat M H M' H' → E.nx σ' H'
  rt : AftE K M H B.rt E.rt
  bk : ∀ ds' M', B.bk ds' M' → ∀ σ' H', Env K M' H' σ' ds' → HpOk K M' H' → Lat M H M' H' → E.bk σ' H'
  ct : ∀ ds' M', B.ct ds' M' → ∀ σ' H', Env K M' H' σ' ds' → HpOk K M' H' → Lat M H M' H' → E.ct σ' H'
def embS (K : PySem.W.Frag) (T : TSd) : TS := fun E σ H => ∃ ds M B, Env K M H σ ds ∧ HpOk K M H ∧ T B ds M ∧ AftS K M H B E

theorem AftE.later {K : PySem.W.Frag} {M M1 : Mp} {H H1 : Hp} {F : DK} {Q : VK} (a : AftE K M H F Q) (l : Lat M H M1 H1) : AftE K M1 H1 F Q := fun d M' f v H' ok dt l' => a d M' f v H' ok dt (l.trans l')
theorem AftS.later {K : PySem.W.Frag} {M M1 : Mp} {H H1 : Hp} {B : Endd} {E : Ends} (a : AftS K M H B E) (l : Lat M H M1 H1) : AftS K M1 H1 B E :=
  ⟨fun ds' M' f σ' H' ev ok l' => a.nx ds' M' f σ' H' ev ok (l.trans l'), a.rt.later l, fun ds' M' f σ' H' ev ok l' => a.bk ds' M' f σ' H' ev ok (l.trans l'), fun ds' M' f σ' H' ev ok l' => a.ct ds' M' f σ' H' ev ok (l.trans l')⟩

abbrev DE (X : Cx) (e : Expr) (T : TEd) : Prop := PE X e (emb X.K T)
abbrev DT (X : Cx) (e : Expr) (T : TTd) : Prop := PT X e (embT X.K T)
abbrev DW (X : Cx) (e : Expr) (T : TTd) : Prop := PW X e (embT X.K T)
abbrev DA (X : Cx) (es : List Expr) (T : TAd) : Prop := PA X es (embA X.K T)
abbrev DQ (X : Cx) (kws : List Keyword) (T : TAd) : Prop := PK X kws (embA X.K T)
abbrev DS (X : Cx) (st : Stmt) (T : TSd) : Prop := PS X st (embS X.K T)
abbrev DSs (X : Cx) (st : List Stmt) (T : TSd) : Prop := PSs X st (embS X.K T)

theorem _root_.L2.PE.fimp {X : Cx} {e : Expr} {t u : TE} (h : PE X e t) (i : ∀ σ H Q, u σ H Q → t σ H Q) : PE X e u := ⟨fun pins s σ H Q I q => h.run pins s σ H Q I (i σ H Q q)⟩
theorem _root_.L2.PT.fimp {X : Cx} {e : Expr} {t u : TT} (h : PT X e t) (i : ∀ σ H Q, u σ H Q → t σ H Q) : PT X e u := ⟨fun pins s σ H Q I q => h.run pins s σ H Q I (i σ H Q q)⟩
theorem _root_.L2.PW.fimp {X : Cx} {e : Expr} {t u : TT} (h : PW X e t) (i : ∀ σ H Q, u σ H Q → t σ H Q) : PW X e u := ⟨fun wh pins s σ H Q I q => h.run wh pins s σ H Q I (i σ H Q q)⟩
theorem _root_.L2.PA.fimp {X : Cx} {es : List Expr} {t u : TA} (h : PA X es t) (i : ∀ σ H Q, u σ H Q → t σ H Q) : PA X es u := ⟨fun p pins s σ H Q I q => h.run p pins s σ H Q I (i σ H Q q)⟩
theorem _root_.L2.PK.fimp {X : Cx} {es : List Keyword} {t u : TA} (h : PK X es t) (i : ∀ σ H Q, u σ H Q → t σ H Q) : PK X es u := ⟨fun p pins s σ H Q I q => h.run p pins s σ H Q I (i σ H Q q)⟩
theorem _root_.L2.PS.fimp {X : Cx} {st : Stmt} {t u : TS} (h : PS X st t) (i : ∀ E σ H, u E σ H → t E σ H) : PS X st u := ⟨fun pins s σ H E I q => h.run pins s σ H E I (i E σ H q)⟩
theorem _root_.L2.PSs.fimp {X : Cx} {st : List Stmt} {t u : TS} (h : PSs X st t) (i : ∀ E σ H, u E σ H → t E σ H) : PSs X st u := ⟨fun pins s σ H E I q => h.run pins s σ H E I (i E σ H q)⟩

/-! promises that know that no repr is under way -/
structure FnG (P : Program) (w : World) (K : PySem.W.Frag) (mg : Str → Option Value) (base : Heap) (CX : CXT) (k : Nat) (f : Addr) (fd : FuncData) (ps : List Str) (sp : Sp) : Prop where
  nlen : ∀ vs H Q E, sp vs H Q E → vs.length = ps.length
  go : ∀ (A : Around) (outer : List PySem.Env) (s : Shared) (H : Hp) (args : Args) (us : List Value) (vs : List V) (Q : VK) (E : XK), A.guards = some [] → Room k A → Env0 P w K mg base A outer s H → BindsTo s fd args (ps.zip us) → Vals vs us → sp vs H Q E →
    codeAny (model P w) A (.call (.ref f) args) (CR CX outer P w H s Q E) s

section
variable {P : Program} {w : World} {K : PySem.W.Frag} {mg : Str → Option Value} {base : Heap} {CX : CXT} {k : Nat} {f : Addr} {fd : FuncData} {ps : List Str} {sp : Sp}
theorem FnG.up {j : Nat} (F : FnG P w K mg base CX j f fd ps sp) (h : j ≤ k) : FnG P w K mg base CX k f fd ps sp :=
  ⟨F.nlen, fun A outer s H args us vs Q E g hr => F.go A outer s H args us vs Q E g (hr.mono h)⟩
theorem guards_deeper {A : Around} {env : PySem.Env} : (A.deeper env).guards = A.guards := by
  first
    | rfl
    | simp [Around.deeper]
/-- a def by its body -/
theorem fng_of {x qual : Str} {st : Stmt} {N : List Str} (Fu : Fun K x qual st f fd) (S : FnScope N ps (defScope st)) (hlen : ∀ vs H Q E, sp vs H Q E → vs.length = ps.length)
    (hb : ∀ (cdv : Value) (A : Around) (outer : List PySem.Env) (s : Shared) (H : Hp) (vs : List V) (Q : VK) (E : XK), (A.deeper (envOfC qual (defScope st) s.heap.objs.size f cdv)).guards = some [] → Room k (A.deeper (envOfC qual (defScope st) s.heap.objs.size f cdv)) → sp vs H Q E →
      ∃ t, PSs (cxOf CX P w K mg base N qual (defScope st) f cdv A outer s H E) (defBody st) t ∧ t { nx := fun _ H' => Q .non H', rt := Q } (start N vs) H) : FnG P w K mg base CX (k + 1) f fd ps sp := by
  obtain ⟨oc, od, kV, doc, pm, an, cdv, ct, osl, rfl, lk, hcd⟩ := Fu.ex
  refine ⟨hlen, fun A outer s H args us vs Q E gA room e0 bi rv wish => ?_⟩
  have KX : K.In s.heap := e0.mod.kin.keeps fun b o q => (e0.bs b o q).1
  have nl : s.heap.NoLimit := e0.mod.nolimit.keeps fun b o q => (e0.bs b o q).1
  have kinds : ∀ y ∈ ps.zip us, (defScope st).names.lookup y.1 = some .local ∨ ((defScope st).names.lookup y.1 = some .cell ∧ ((cellsFrom (s.heap.objs.size + 1) (defScope st).names []).lookup y.1).isSome = true) := by
    rintro ⟨n, v⟩ hy
    exact (S.par n (List.of_mem_zip hy).1).elim .inl fun q => .inr ⟨q, PySem.W.cellsFrom_some _ _ _ (.inl q)⟩
  refine codeAny_call_function room.depth (KX _ _ lk) rfl S.co S.gen rfl (PySem.W.codeRec_of KX hcd) (bi _ _ _ _ (wpAny_newFunctionEnv_cells S.kind kinds fun env he s1 x => ?_))
  subst he
  refine ⟨nl.keeps x.toInCall.keep, codeAny_func ?_⟩
  obtain ⟨t, ht, hq⟩ := hb cdv A outer s H vs Q E (guards_deeper.trans gA) (room.deeper _) wish
  have I : Inv (cxOf CX P w K mg base N qual (defScope st) f cdv A outer s H E) [] (start N vs) H s1 := inv_start S room.hd e0 (hlen _ _ _ _ wish) rv x
  refine wpAny_mono (ht.run [] s1 (start N vs) H _ I hq) (fun fl s' hs => ?_) fun e s' hs => hs
  cases fl with
  | ret u =>
    obtain ⟨v, σ', H', J, rv', q⟩ := hs
    exact ⟨v, H', J.os, J.bare, J.base, J.hok, rv', q⟩
  | next =>
    obtain ⟨σ', H', J, q⟩ := hs
    exact ⟨.non, H', J.os, J.bare, J.base, J.hok, rfl, q⟩
  | brk => exact (hs.elim fun _ z => z.elim fun _ z => z.2 : False).elim
  | cont => exact (hs.elim fun _ z => z.elim fun _ z => z.2 : False).elim
end

section
variable {X : Cx} {CX : CXT} {k : Nat} {f C : Addr} {fd : FuncData} {ps ks : List Str} {sp : Sp} {dvs : List V} {dus : List Value} {E : XK} {x m : Str} {p pos apos : Pos} {e o : Expr} {es : List Expr} {kws : List Keyword} {ta : TE} {t tk : TA}
theorem run_g {pins : List (Addr × Obj)} {σ : L2.St} {H : Hp} {s : Shared} {Q : VK} {us all : List Value} {kw : List (Str × Value)} {vs : List V} (F : FnG X.prog X.w X.K X.mg X.base CX k f fd ps sp) (gd : X.A.guards = some []) (hr : Room k X.A) (hx : Passes CX X E)
    (I : Inv X pins σ H s) (r : Vals vs all) (hb : BindsTo s fd ⟨us, kw⟩ (ps.zip all)) (h : sp vs H Q E) : wpAny (model X.prog X.w) X.A (call (.ref f) us kw) (EP X pins σ Q) X.xe s := by
  refine wpAny_call (codeAny_mono (F.go X.A X.stack s H ⟨us, kw⟩ all vs Q E gd hr I.env0 hb r h) fun res s' hq => ?_)
  match res, hq with
  | .error e, hq => exact hx pins σ H s e s' I hq
  | .ok (.ret u), hq => exact I.after hq
  | .ok .next, hq => exact hq.elim
  | .ok .brk, hq => exact hq.elim
  | .ok .cont, hq => exact hq.elim
/-- f(e, ..) -/
theorem pg_call (F : FnG X.prog X.w X.K X.mg X.base CX k f fd ps sp) (gd : X.A.guards = some []) (hr : Room k X.A) (hg : Gl X x) (hm : X.mg x = some (.ref f)) (hk : PySem.W.keepIn X.K (.ref f) = true) (hb : Binds X.K fd ps dus) (hd : Vals dvs dus) (hx : Passes CX X E)
    (ha : PA X (e :: es) t) (hdb : (x == ("__debug__" : Str)) = false := by decide) (he : starEach (e :: es) X.env = (false, eval e X.env) :: starEach es X.env := by rfl) (hpl : (backTo pos (starEach es X.env)).any (·.1) = false := by rfl) :
    PE X (.Call (.Name x p) (e :: es) [] pos) (tCall sp dvs E t) := ⟨fun pins s σ H Q I h =>
  wpAny_Call_Name_kw (ld_glob I hg hm (PySem.W.callWith_K (h₀ := X.base) I.ok.mod.kin hk (thn (ha.run pos pins s σ H _ I h) fun us s1 ⟨vs, H1, I1, r, q⟩ => ⟨I1.kIn, by
    have r2 : Vals (vs ++ dvs) (us ++ dus) := r.append hd
    exact run_g F gd hr hx I1 r2 (hb s1 us I1.kIn (by rw [← r2.length]; exact F.nlen _ _ _ _ q)) q⟩) he hpl) hdb)⟩
/-- f() -/
theorem pg_call0 (F : FnG X.prog X.w X.K X.mg X.base CX k f fd ps sp) (gd : X.A.guards = some []) (hr : Room k X.A) (hg : Gl X x) (hm : X.mg x = some (.ref f)) (hk : PySem.W.keepIn X.K (.ref f) = true) (hb : Binds X.K fd ps dus) (hd : Vals dvs dus) (hx : Passes CX X E)
    (hdb : (x == ("__debug__" : Str)) = false := by decide) : PE X (.Call (.Name x p) [] [] pos) (tCall sp dvs E tNil) := ⟨fun pins s σ H Q I h =>
  wpAny_Call_Name_kw (ld_glob I hg hm (PySem.W.callWith_K0 I.kIn hk (run_g (us := []) F gd hr hx I hd (hb s [] I.kIn (by rw [List.nil_append, ← hd.length]; exact F.nlen _ _ _ _ h)) h)) hdb)⟩
variable {g : List Value → List Value → List Value} {gV : List V → List V → List V}
/-- f(e, .., k = v, ..) -/
theorem pg_callK (F : FnG X.prog X.w X.K X.mg X.base CX k f fd ps sp) (gd : X.A.guards = some []) (hr : Room k X.A) (hg : Gl X x) (hm : X.mg x = some (.ref f)) (hk : PySem.W.keepIn X.K (.ref f) = true) (hb : KBinds X.K fd ps ks g gV) (hx : Passes CX X E)
    (ha : PA X (e :: es) t) (hkw : PK X kws tk) (hall : (backToKw pos (keywordEach kws X.env)).all (·.1.isSome) = true := by rfl) (hks : (backToKw pos (keywordEach kws X.env)).filterMap (·.1) = ks := by rfl)
    (hdb : (x == ("__debug__" : Str)) = false := by decide) (he : starEach (e :: es) X.env = (false, eval e X.env) :: starEach es X.env := by rfl)
    (hpl : ((backTo pos (starEach (e :: es) X.env)).any (·.1) || (backToKw pos (keywordEach kws X.env)).any (·.1.isNone)) = false := by rfl) :
    PE X (.Call (.Name x p) (e :: es) kws pos) (tCallK sp gV E t tk) := ⟨fun pins s σ H Q I h => by
  refine wpAny_Call_Name_kw (ld_glob I hg hm (PySem.W.callWith_KW (h₀ := X.base) I.ok.mod.kin hk hall (thn (ha.run pos pins s σ H _ I h) fun us s1 ⟨vs, H1, I1, r, q⟩ => thn (hkw.run pos pins s1 σ H1 _ I1 q) fun ws s2 ⟨zs, H2, I2, rz, q2⟩ => ⟨I2.kIn, ?_⟩) hpl he) hdb)
  have r2 := hb.rel r rz
  rw [hks]
  exact run_g F gd hr hx I2 r2 (hb.to s2 us ws I2.kIn (by rw [← r2.length]; exact F.nlen _ _ _ _ q2)) q2⟩
/-- f(k = v, ..) -/
theorem pg_callK0 (F : FnG X.prog X.w X.K X.mg X.base CX k f fd ps sp) (gd : X.A.guards = some []) (hr : Room k X.A) (hg : Gl X x) (hm : X.mg x = some (.ref f)) (hk : PySem.W.keepIn X.K (.ref f) = true) (hb : KBinds X.K fd ps ks g gV) (hx : Passes CX X E)
    (hkw : PK X kws tk) (hall : (backToKw pos (keywordEach kws X.env)).all (·.1.isSome) = true := by rfl) (hks : (backToKw pos (keywordEach kws X.env)).filterMap (·.1) = ks := by rfl)
    (hdb : (x == ("__debug__" : Str)) = false := by decide)
    (hpl : ((backTo pos (starEach [] X.env)).any (·.1) || (backToKw pos (keywordEach kws X.env)).any (·.1.isNone)) = false := by rfl) :
    PE X (.Call (.Name x p) [] kws pos) (tCallK sp gV E tNil tk) := ⟨fun pins s σ H Q I h => by
  refine wpAny_Call_Name_kw (ld_glob I hg hm (PySem.W.callWith_KW0 (h₀ := X.base) I.ok.mod.kin hk hall (thn (hkw.run pos pins s σ H _ I h) fun ws s2 ⟨zs, H2, I2, rz, q2⟩ => ⟨I2.kIn, ?_⟩) hpl) hdb)
  have r2 := hb.rel .nil rz
  rw [hks]
  exact run_g (us := []) F gd hr hx I2 r2 (hb.to s2 [] ws I2.kIn (by rw [← r2.length]; exact F.nlen _ _ _ _ q2)) q2⟩
end

/-! a def's meaning at the data level -/
abbrev RD := List D → Mp → DK → Prop
def SpD (K : PySem.W.Frag) (n : Nat) (R : RD) : Sp := fun vs H Q _ => ∃ ds M F, ds.length = n ∧ Dts K (hid M H) vs ds ∧ HpOk K M H ∧ R ds M F ∧ AftE K M H F Q
def startD (n : Nat) (ds : List D) : Ds := ds.map some ++ List.replicate (n - ds.length) none
theorem env_start {K : PySem.W.Frag} {M : Mp} {H : Hp} {N : List Str} {vs : List V} {ds : List D} (h : Dts K (hid M H) vs ds) : Env K M H (start N vs) (startD N.length ds) := by
  unfold L2.start startD
  refine ⟨by simp [h.length], fun i d e => ?_⟩
  by_cases hi : i < ds.length
  · rw [List.getElem?_append_left (by simpa using hi), List.getElem?_map] at e
    cases q : ds[i]? with
    | none => rw [q] at e; cases e
    | some d' =>
      rw [q] at e
      cases e
      obtain ⟨v, e1, e2⟩ := h.get q
      refine ⟨v, ?_, e2⟩
      rw [List.getElem?_append_left (by simpa [h.length] using hi), List.getElem?_map, e1]
      rfl
  · rw [List.getElem?_append_right (by simpa using hi), List.getElem?_replicate] at e
    split at e <;> cases e
/-- the rule for a def that raises nothing -/
theorem fnd {P : Program} {w : World} {K : PySem.W.Frag} {mg : Str → Option Value} {base : Heap} {k : Nat} {f : Addr} {fd : FuncData} {ps : List Str} {x qual : Str} {st : Stmt} {N : List Str} {R : RD} (Fu : Fun K x qual st f fd) (S : FnScope N ps (defScope st))
    (hb : ∀ (cdv : Value) (A : Around) (outer : List PySem.Env) (s : Shared) (H : Hp) (E : XK), (A.deeper (envOfC qual (defScope st) s.heap.objs.size f cdv)).guards = some [] → Room k (A.deeper (envOfC qual (defScope st) s.heap.objs.size f cdv)) →
      ∃ T : TSd, DSs (cxOf CX0 P w K mg base N qual (defScope st) f cdv A outer s H E).nox (defBody st) T ∧ ∀ ds M F, ds.length = ps.length → R ds M F → T { nx := fun _ M' => F .non M', rt := F } (startD N.length ds) M) : FnG P w K mg base CX0 (k + 1) f fd ps (SpD K ps.length R) := by
  refine fng_of Fu S (fun vs H Q E h => ?_) (fun cdv A outer s H vs Q E g hr h => ?_)
  · obtain ⟨ds, M, F, e, d, _⟩ := h
    rw [d.length, e]
  · obtain ⟨ds, M, F, e, d, ok, r, a⟩ := h
    obtain ⟨T, hT, q⟩ := hb cdv A outer s H E g hr
    exact ⟨_, PSs.nox hT, startD N.length ds, M, _, env_start d, ok, q ds M F e r, ⟨fun ds' M' z σ' H' ev ok' l => a _ _ z _ _ ok' .non l, a, fun _ _ z => z.elim, fun _ _ z => z.elim⟩⟩
/-- a call's reading -/
def callD (R : RD) (ta : TAd) : TEd := fun ds M F => ta ds M fun xs M1 => R xs M1 F
def callKD (R : RD) (gD : List D → List D → List D) (ta tk : TAd) : TEd := fun ds M F => ta ds M fun xs M1 => tk ds M1 fun ys M2 => R (gD xs ys) M2 F
def nilD : TAd := fun _ M F => F [] M
def consD (t : TEd) (u : TAd) : TAd := fun ds M F => t ds M fun d M1 => u ds M1 fun xs M2 => F (d :: xs) M2
section
variable {X : Cx} {k n : Nat} {f : Addr} {fd : FuncData} {ps ks : List Str} {R : RD} {x : Str} {p pos kpos : Pos} {e : Expr} {es : List Expr} {kws : List Keyword} {T : TEd} {U W : TAd} {nm : Option Str}
theorem da_nil : DA X [] nilD := pa_nil.fimp fun σ H Q ⟨ds, M, F, ev, ok, h, a⟩ => a _ _ h _ _ ok .nil (Lat.refl M H)
theorem emb_cons {K : PySem.W.Frag} {σ : L2.St} {H : Hp} {Q : List V → Hp → Prop} (h : embA K (consD T U) σ H Q) : tCons (emb K T) (embA K U) σ H Q := by
  obtain ⟨ds, M, F, ev, ok, h, a⟩ := h
  refine ⟨ds, M, _, ev, ok, h, fun d M1 h1 v H1 ok1 dt1 l1 => ⟨ds, M1, _, ev.mono l1, ok1, h1, fun xs M2 h2 vs H2 ok2 dts l2 => ?_⟩⟩
  exact a _ _ h2 _ _ ok2 (.cons (dt1.mono l2.same) dts) (l1.trans l2)
theorem da_cons (h : DE X e T) (r : DA X es U) (hs : starEach (e :: es) X.env = (false, eval e X.env) :: starEach es X.env := by rfl) : DA X (e :: es) (consD T U) := (pa_cons h r hs).fimp fun _ _ _ q => emb_cons q
theorem dq_nil : DQ X [] nilD := pk_nil.fimp fun σ H Q ⟨ds, M, F, ev, ok, h, a⟩ => a _ _ h _ _ ok .nil (Lat.refl M H)
theorem dq_cons (h : DE X e T) (r : DQ X kws U) : DQ X (⟨nm, e, kpos⟩ :: kws) (consD T U) := (pk_cons h r).fimp fun _ _ _ q => emb_cons q
theorem emb_call {K : PySem.W.Frag} {E : XK} {σ : L2.St} {H : Hp} {Q : VK} (hn : ∀ xs M F, R xs M F → xs.length = n) (h : emb K (callD R U) σ H Q) : tCall (SpD K n R) [] E (embA K U) σ H Q := by
  obtain ⟨ds, M, F, ev, ok, h, a⟩ := h
  refine ⟨ds, M, _, ev, ok, h, fun xs M1 h1 vs H1 ok1 dts l1 => ?_⟩
  show SpD K n R (vs ++ []) H1 Q E
  rw [List.append_nil]
  exact ⟨xs, M1, F, hn _ _ _ h1, dts, ok1, h1, a.later l1⟩
theorem de_call (G : FnG X.prog X.w X.K X.mg X.base CX0 k f fd ps (SpD X.K n R)) (hn : ∀ xs M F, R xs M F → xs.length = n) (gd : X.A.guards = some []) (hr : Room k X.A) (hg : Gl X x) (hm : X.mg x = some (.ref f)) (hk : PySem.W.keepIn X.K (.ref f) = true) (hb : Binds X.K fd ps [])
    (ha : DA X (e :: es) U) (hdb : (x == ("__debug__" : Str)) = false := by decide) (he : starEach (e :: es) X.env = (false, eval e X.env) :: starEach es X.env := by rfl) (hpl : (backTo pos (starEach es X.env)).any (·.1) = false := by rfl) :
    DE X (.Call (.Name x p) (e :: es) [] pos) (callD R U) := (pg_call (E := E0) G gd hr hg hm hk hb .nil pass0 ha hdb he hpl).fimp fun _ _ _ q => emb_call hn q
theorem emb_callK {K : PySem.W.Frag} {E : XK} {σ : L2.St} {H : Hp} {Q : VK} {gV : List V → List V → List V} {gD : List D → List D → List D} {t : TA} (hn : ∀ xs M F, R xs M F → xs.length = n) (hg : ∀ G vs ws xs ys, Dts K G vs xs → Dts K G ws ys → Dts K G (gV vs ws) (gD xs ys))
    (ht : ∀ σ H Q, embA K U σ H Q → t σ H Q) (h : emb K (callKD R gD U W) σ H Q) : tCallK (SpD K n R) gV E t (embA K W) σ H Q := by
  obtain ⟨ds, M, F, ev, ok, h, a⟩ := h
  refine ht _ _ _ ⟨ds, M, _, ev, ok, h, fun xs M1 h1 vs H1 ok1 dts1 l1 => ⟨ds, M1, _, ev.mono l1, ok1, h1, fun ys M2 h2 ws H2 ok2 dts2 l2 => ?_⟩⟩
  exact ⟨_, M2, F, hn _ _ _ h2, hg _ _ _ _ _ (dts1.mono l2.same) dts2, ok2, h2, a.later (l1.trans l2)⟩
variable {g : List Value → List Value → List Value} {gV : List V → List V → List V} {gD : List D → List D → List D}
theorem de_callK (G : FnG X.prog X.w X.K X.mg X.base CX0 k f fd ps (SpD X.K n R)) (hn : ∀ xs M F, R xs M F → xs.length = n) (gd : X.A.guards = some []) (hr : Room k X.A) (hg : Gl X x) (hm : X.mg x = some (.ref f)) (hk : PySem.W.keepIn X.K (.ref f) = true) (hb : KBinds X.K fd ps ks g gV)
    (hgd : ∀ G vs ws xs ys, Dts X.K G vs xs → Dts X.K G ws ys → Dts X.K G (gV vs ws) (gD xs ys)) (ha : DA X (e :: es) U) (hkw : DQ X kws W) (hall : (backToKw pos (keywordEach kws X.env)).all (·.1.isSome) = true := by rfl) (hks : (backToKw pos (keywordEach kws X.env)).filterMap (·.1) = ks := by rfl)
    (hdb : (x == ("__debug__" : Str)) = false := by decide) (he : starEach (e :: es) X.env = (false, eval e X.env) :: starEach es X.env := by rfl)
    (hpl : ((backTo pos (starEach (e :: es) X.env)).any (·.1) || (backToKw pos (keywordEach kws X.env)).any (·.1.isNone)) = false := by rfl) :
    DE X (.Call (.Name x p) (e :: es) kws pos) (callKD R gD U W) := (pg_callK (E := E0) G gd hr hg hm hk hb pass0 ha hkw hall hks hdb he hpl).fimp fun _ _ _ q => emb_callK hn hgd (fun _ _ _ z => z) q
theorem de_callK0 (G : FnG X.prog X.w X.K X.mg X.base CX0 k f fd ps (SpD X.K n R)) (hn : ∀ xs M F, R xs M F → xs.length = n) (gd : X.A.guards = some []) (hr : Room k X.A) (hg : Gl X x) (hm : X.mg x = some (.ref f)) (hk : PySem.W.keepIn X.K (.ref f) = true) (hb : KBinds X.K fd ps ks g gV)
    (hgd : ∀ G vs ws xs ys, Dts X.K G vs xs → Dts X.K G ws ys → Dts X.K G (gV vs ws) (gD xs ys)) (hkw : DQ X kws W) (hall : (backToKw pos (keywordEach kws X.env)).all (·.1.isSome) = true := by rfl) (hks : (backToKw pos (keywordEach kws X.env)).filterMap (·.1) = ks := by rfl)
    (hdb : (x == ("__debug__" : Str)) = false := by decide)
    (hpl : ((backTo pos (starEach [] X.env)).any (·.1) || (backToKw pos (keywordEach kws X.env)).any (·.1.isNone)) = false := by rfl) :
    DE X (.Call (.Name x p) [] kws pos) (callKD R gD nilD W) := (pg_callK0 (E := E0) G gd hr hg hm hk hb pass0 hkw hall hks hdb hpl).fimp fun _ _ _ q => emb_callK (t := tNil) hn hgd (fun _ H _ ⟨ds, M, F, ev, ok, h, a⟩ => a _ _ h _ _ ok .nil (Lat.refl M H)) q
end
end Fx

namespace Fx
open PySem PySem.Spec PyProof.Rows L2

theorem big_le {n : Nat} (h : n ≤ 1000000) : n ≤ sizeLine := Nat.le_trans h (by decide)
theorem big_lt {n : Nat} (h : n < 1000000) : n < sizeLine := Nat.lt_of_lt_of_le h (by decide)

/-! names and constants -/
def vD (i : Nat) : TEd := fun ds M F => match ds[i]? with
  | some (some d) => F d M
  | _ => False
def cD (d : D) : TEd := fun _ M F => F d M
section
variable {X : Cx} {x : Str} {pos : Pos}
theorem dv (i : Nat) (hN : X.N[i]? = some x := by rfl) (hv : Vis X.env.scope x := by first | exact Or.inl rfl | exact Or.inr (Or.inl rfl) | exact Or.inr (Or.inr rfl)) (hd : (x == ("__debug__" : Str)) = false := by decide)
    (hcd : (x == ("__classdict__" : Str)) = false := by decide) : DE X (.Name x pos) (vD i) := (pe_var (i := i) hN hv hd hcd).fimp fun σ H Q ⟨ds, M, F, ev, ok, h, a⟩ => by
  unfold vD at h
  split at h
  · next d e =>
    obtain ⟨v, e1, e2⟩ := ev.2 i d e
    exact ⟨v, e1, a _ _ h _ _ ok e2 (Lat.refl M H)⟩
  · exact h.elim
theorem emb_c {K : PySem.W.Frag} {v : V} {d : D} (hd : ∀ G, Dt K G v d) : ∀ σ H Q, emb K (cD d) σ H Q → tC v σ H Q := fun σ H Q ⟨ds, M, F, ev, ok, h, a⟩ => a _ _ h _ _ ok (hd _) (Lat.refl M H)
theorem de_int {i : Int} {k : Nat} : DE X (.Constant (.int i) k pos) (cD (.int i)) := pe_int.fimp (emb_c fun _ => .int i)
theorem de_str {z : Str} {k : Nat} : DE X (.Constant (.str z) k pos) (cD (.str z)) := pe_str.fimp (emb_c fun _ => .str z)
theorem de_bl {b : Bool} {k : Nat} : DE X (.Constant (.bool b) k pos) (cD (.bl b)) := pe_bl.fimp (emb_c fun _ => .bl b)
theorem de_non {k : Nat} : DE X (.Constant .none k pos) (cD .non) := pe_non.fimp (emb_c fun _ => .non)
/-- a constant of the module -/
theorem de_glob {u : Value} {v : V} {d : D} (hg : Gl X x) (hm : X.mg x = some u) (r : RelV v u) (hd : ∀ G, Dt X.K G v d) (hdb : (x == ("__debug__" : Str)) = false := by decide) : DE X (.Name x pos) (cD d) := (pe_glob hg hm r hdb).fimp (emb_c hd)
end

/-! displays -/
def tupD (U : TAd) : TEd := fun ds M F => U ds M fun xs M1 => xs.length ≤ 1000000 ∧ F (.tup xs) M1
def lstD (U : TAd) : TEd := fun ds M F => U ds M fun xs M1 => xs.length ≤ 1000000 ∧ F (.lst xs) M1
section
variable {X : Cx} {es : List Expr} {U : TAd} {pos : Pos} {k : Nat}
theorem AftE.layT {K : PySem.W.Frag} {M : Mp} {H : Hp} {F : DK} {Q : VK} {vs : List V} {xs : List D} (a : AftE K M H F Q) (ok : HpOk K M H) (d : Dts K (hid M H) vs xs) (f : F (.tup xs) M) : ∀ p, H p = none → Q (.ref p) (upd H p (.tup vs)) := fun p np => by
  obtain ⟨ok2, l2⟩ := ok.lay (p := p) (o := .tup vs) np
  refine a _ _ f _ _ ok2 (.tup (.inl (.inl ?_)) (d.mono l2.same)) l2
  rw [hid_of (ok.free np)]
  exact upd_same
theorem AftE.layL {K : PySem.W.Frag} {M : Mp} {H : Hp} {F : DK} {Q : VK} {vs : List V} {xs : List D} (a : AftE K M H F Q) (ok : HpOk K M H) (d : Dts K (hid M H) vs xs) (f : F (.lst xs) M) : ∀ p, H p = none → Q (.ref p) (upd H p (.lst vs)) := fun p np => by
  obtain ⟨ok2, l2⟩ := ok.lay (p := p) (o := .lst vs) np
  refine a _ _ f _ _ ok2 (.lst ?_ (d.mono l2.same)) l2
  rw [hid_of (ok.free np)]
  exact upd_same
theorem de_tup (h : DA X es U) : DE X (.Tuple es k pos) (tupD U) := (pe_tup h).fimp fun σ H Q ⟨ds, M, F, ev, ok, h, a⟩ =>
  ⟨ds, M, _, ev, ok, h, fun xs M1 h1 vs H1 ok1 dts l1 => ⟨by rw [dts.length]; exact big_le h1.1, (a.later l1).layT ok1 dts h1.2⟩⟩
theorem de_lst (h : DA X es U) : DE X (.List es pos) (lstD U) := (pe_lst h).fimp fun σ H Q ⟨ds, M, F, ev, ok, h, a⟩ =>
  ⟨ds, M, _, ev, ok, h, fun xs M1 h1 vs H1 ok1 dts l1 => ⟨by rw [dts.length]; exact big_le h1.1, (a.later l1).layL ok1 dts h1.2⟩⟩
end

/-! two-place operations -/
abbrev R2d := D → D → Mp → DK → Prop
def opD (r : R2d) (T U : TEd) : TEd := fun ds M F => T ds M fun a M1 => U ds M1 fun b M2 => r a b M2 F
def up2 (K : PySem.W.Frag) (r : R2d) : R2 := fun x y H Q => ∃ a b M F, Dt K (hid M H) x a ∧ Dt K (hid M H) y b ∧ HpOk K M H ∧ r a b M F ∧ AftE K M H F Q
section
variable {X : Cx} {e e' : Expr} {op : Operator} {cop : CmpOp} {r : R2d} {T U : TEd} {pos : Pos}
theorem emb_op {K : PySem.W.Frag} : ∀ σ H Q, emb K (opD r T U) σ H Q → tOp (up2 K r) (emb K T) (emb K U) σ H Q := fun σ H Q ⟨ds, M, F, ev, ok, h, a⟩ =>
  ⟨ds, M, _, ev, ok, h, fun d M1 h1 v H1 ok1 dt1 l1 => ⟨ds, M1, _, ev.mono l1, ok1, h1, fun d2 M2 h2 v2 H2 ok2 dt2 l2 => ⟨d, d2, M2, F, dt1.mono l2.same, dt2, ok2, h2, a.later (l1.trans l2)⟩⟩⟩
theorem de_op (ho : OpR X (binaryOp op) (up2 X.K r)) (ha : DE X e T) (hb : DE X e' U) : DE X (.BinOp e op e' pos) (opD r T U) := (pe_op ho ha hb).fimp emb_op
theorem de_cmp (ho : OpR X (compareOp cop) (up2 X.K r)) (ha : DE X e T) (hb : DE X e' U) (hm : behindInMarks cop e' = false) : DE X (.Compare e [cop] [e'] pos) (opD r T U) := (pe_cmpR ho ha hb hm).fimp emb_op
theorem de_ix (ho : IxR X (up2 X.K r)) (ha : DE X e T) (hb : DE X e' U) (hs : PlainIx e') : DE X (.Subscript e e' pos) (opD r T U) := (pe_ix ho ha hb hs).fimp emb_op
end

def addR : R2d
  | .int i, .int j, M, F => F (.int (i + j)) M
  | .str x, .str y, M, F => x.length + y.length ≤ 1000000 ∧ F (.str (x ++ y)) M
  | .tup xs, .tup ys, M, F => xs.length + ys.length ≤ 1000000 ∧ F (.tup (xs ++ ys)) M
  | .lst xs, .lst ys, M, F => xs.length + ys.length ≤ 1000000 ∧ F (.lst (xs ++ ys)) M
  | _, _, _, _ => False
def subR : R2d
  | .int i, .int j, M, F => F (.int (i - j)) M
  | _, _, _, _ => False
def mulR : R2d
  | .int i, .int j, M, F => ((-(2 ^ 64) < i ∧ i < 2 ^ 64) ∨ (-(2 ^ 64) < j ∧ j < 2 ^ 64)) ∧ F (.int (i * j)) M
  | .lst xs, .int k, M, F => 0 ≤ k ∧ k ≤ 1000000 ∧ xs.length * k.toNat ≤ 1000000 ∧ F (.lst (List.replicate k.toNat xs).flatten) M
  | _, _, _, _ => False
def fdivR : R2d
  | .int i, .int j, M, F => (0 < j ∧ j < 1073741824) ∧ F (.int (i / j)) M
  | _, _, _, _ => False
def modR : R2d
  | .int i, .int j, M, F => 0 < j ∧ F (.int (i % j)) M
  | _, _, _, _ => False
def powR : R2d
  | .int i, .int j, M, F => (0 ≤ j ∧ j ≤ 1000000 ∧ i.natAbs < 2 ^ 64) ∧ F (.int (i ^ j.toNat)) M
  | _, _, _, _ => False
section
variable {X : Cx}
theorem Dts.flat {K : PySem.W.Frag} {G : Hp} {vs : List V} {ds : List D} (h : Dts K G vs ds) : ∀ n : Nat, Dts K G (List.replicate n vs).flatten (List.replicate n ds).flatten
  | 0 => .nil
  | n + 1 => by
    rw [List.replicate_succ, List.replicate_succ, List.flatten_cons, List.flatten_cons]
    exact h.append (Dts.flat h n)
theorem or_add : OpR X (binaryOp .Add) (up2 X.K addR) := by
  intro pins s σ H x y v u Q I rx ry h
  obtain ⟨a, b, M, F, da, db, ok, h, af⟩ := h
  cases da <;> cases db <;> first | exact h.elim | skip
  · exact op_add pins s σ H _ _ v u Q I rx ry ⟨_, _, rfl, rfl, af _ _ h _ _ ok (.int _) (Lat.refl _ _)⟩
  · exact op_add_str pins s σ H _ _ v u Q I rx ry ⟨_, _, rfl, rfl, big_le h.1, af _ _ h.2 _ _ ok (.str _) (Lat.refl _ _)⟩
  · next h1 d1 _ _ _ h2 d2 =>
    exact op_cat pins s σ H _ _ v u Q I rx ry ⟨_, _, _, _, rfl, rfl, hid_sub _ _ h1, hid_sub _ _ h2, by rw [d1.length, d2.length]; exact big_le h.1, af.layL ok (d1.append d2) h.2⟩
  · next h1 d1 _ _ _ h2 d2 =>
    refine op_catA pins s σ H _ _ v u Q I rx ry ⟨_, _, _, _, rfl, rfl, sqT_same hid_sub h1, sqT_same hid_sub h2, by rw [d1.length, d2.length]; exact big_le h.1, fun e => ?_, fun _ e => ?_, fun _ _ => af.layT ok (d1.append d2) h.2⟩
    · subst e
      cases d1
      exact af _ _ h.2 _ _ ok (.tup h2 d2) (Lat.refl _ _)
    · subst e
      cases d2
      have h3 := h.2
      rw [List.append_nil] at h3
      exact af _ _ h3 _ _ ok (.tup h1 d1) (Lat.refl _ _)
theorem or_sub : OpR X (binaryOp .Sub) (up2 X.K subR) := by
  intro pins s σ H x y v u Q I rx ry h
  obtain ⟨a, b, M, F, da, db, ok, h, af⟩ := h
  cases da <;> cases db <;> first | exact h.elim | skip
  exact op_sub pins s σ H _ _ v u Q I rx ry ⟨_, _, rfl, rfl, af _ _ h _ _ ok (.int _) (Lat.refl _ _)⟩
theorem or_mul : OpR X (binaryOp .Mult) (up2 X.K mulR) := by
  intro pins s σ H x y v u Q I rx ry h
  obtain ⟨a, b, M, F, da, db, ok, h, af⟩ := h
  cases da <;> cases db <;> first | exact h.elim | skip
  · exact op_mul pins s σ H _ _ v u Q I rx ry ⟨_, _, rfl, rfl, h.1, af _ _ h.2 _ _ ok (.int _) (Lat.refl _ _)⟩
  · next h1 d1 k =>
    obtain ⟨k0, k1, k2, h⟩ := h
    exact op_rep pins s σ H _ _ v u Q I rx ry ⟨_, _, _, rfl, rfl, hid_sub _ _ h1, by omega, by omega, by rw [d1.length]; exact big_le k2, af.layL ok (d1.flat _) h⟩
theorem or_fdiv : OpR X (binaryOp .FloorDiv) (up2 X.K fdivR) := by
  intro pins s σ H x y v u Q I rx ry h
  obtain ⟨a, b, M, F, da, db, ok, h, af⟩ := h
  cases da <;> cases db <;> first | exact h.elim | skip
  exact op_fdiv pins s σ H _ _ v u Q I rx ry ⟨_, _, rfl, rfl, h.1, af _ _ h.2 _ _ ok (.int _) (Lat.refl _ _)⟩
theorem or_mod : OpR X (binaryOp .Mod) (up2 X.K modR) := by
  intro pins s σ H x y v u Q I rx ry h
  obtain ⟨a, b, M, F, da, db, ok, h, af⟩ := h
  cases da <;> cases db <;> first | exact h.elim | skip
  exact op_mod pins s σ H _ _ v u Q I rx ry ⟨_, _, rfl, rfl, h.1, af _ _ h.2 _ _ ok (.int _) (Lat.refl _ _)⟩
theorem or_pow : OpR X (binaryOp .Pow) (up2 X.K powR) := by
  intro pins s σ H x y v u Q I rx ry h
  obtain ⟨a, b, M, F, da, db, ok, h, af⟩ := h
  cases da <;> cases db <;> first | exact h.elim | skip
  exact op_pow pins s σ H _ _ v u Q I rx ry ⟨_, _, rfl, rfl, h.1, af _ _ h.2 _ _ ok (.int _) (Lat.refl _ _)⟩
end

/-! order of ints -/
def ltR (p : Int → Int → Bool) : R2d
  | .int i, .int j, M, F => F (.bl (p i j)) M
  | _, _, _, _ => False
section
variable {X : Cx} {p : Int → Int → Bool} {cop : CmpOp}
theorem or_cmpI (ho : OpR X (compareOp cop) (rI0 fun i j => .bl (p i j))) : OpR X (compareOp cop) (up2 X.K (ltR p)) := by
  intro pins s σ H x y v u Q I rx ry h
  obtain ⟨a, b, M, F, da, db, ok, h, af⟩ := h
  cases da <;> cases db <;> first | exact h.elim | skip
  exact ho pins s σ H _ _ v u Q I rx ry ⟨_, _, rfl, rfl, af _ _ h _ _ ok (.bl _) (Lat.refl _ _)⟩
theorem or_lt : OpR X (compareOp .Lt) (up2 X.K (ltR fun i j => decide (i < j))) := or_cmpI op_lt
theorem or_le : OpR X (compareOp .LtE) (up2 X.K (ltR fun i j => decide (i ≤ j))) := or_cmpI op_le
theorem or_gt : OpR X (compareOp .Gt) (up2 X.K (ltR fun i j => decide (j < i))) := or_cmpI op_gt
theorem or_ge : OpR X (compareOp .GtE) (up2 X.K (ltR fun i j => decide (j ≤ i))) := or_cmpI op_ge
end

/-! data as the kit's own -/
mutual
def py : D → PyData
  | .non => .none
  | .bl b => .bool b
  | .int i => .int i
  | .str x => .str x
  | .tup ds => .tuple (pys ds)
  | .lst ds => .list (pys ds)
  | .slst ds => .list (pys ds)
  | .dic kvs => .dict (pyk kvs)
  | .ref _ => .none
  | .ty _ => .none
def pys : List D → List PyData
  | [] => []
  | d :: ds => py d :: pys ds
def pyk : List (Key × D) → List (PyData × PyData)
  | [] => []
  | (.inl i, d) :: ds => (.int i, py d) :: pyk ds
  | (.inr x, d) :: ds => (.str x, py d) :: pyk ds
end
mutual
/-- no address within, no dict -/
def flat : D → Bool
  | .tup ds => flats ds
  | .lst ds => flats ds
  | .slst ds => flats ds
  | .dic _ | .ref _ | .ty _ => false
  | _ => true
def flats : List D → Bool
  | [] => true
  | d :: ds => flat d && flats ds
end
section
variable {K : PySem.W.Frag} {M : Mp} {H : Hp}
mutual
theorem Dt.dp : ∀ {v : V} {d : D}, Dt K (hid M H) v d → flat d = true → Dp K H v (py d)
  | _, _, .non, _ => .non
  | _, _, .bl b, _ => .bl b
  | _, _, .int i, _ => .int i
  | _, _, .str x, _ => .str x
  | _, _, .lst h1 h2, f => .lst (.inl (.inl (hid_sub _ _ h1))) (Dts.dp h2 (by simpa [flat] using f))
  | _, _, .slst h1 h2, f => .lst (Same.seq hid_sub h1) (Dts.dp h2 (by simpa [flat] using f))
  | _, _, .tup h1 h2, f => .tup (sqT_same hid_sub h1) (Dts.dp h2 (by simpa [flat] using f))
  | _, _, .dic _ _, f => by simp [flat] at f
  | _, _, .ref _, f => by simp [flat] at f
  | _, _, .ty _, f => by simp [flat] at f
theorem Dts.dp : ∀ {vs : List V} {ds : List D}, Dts K (hid M H) vs ds → flats ds = true → DpAll K H vs (pys ds)
  | _, _, .nil, _ => .nil
  | _, _, .cons (d := d) (ds := ds) h1 h2, f => by
    have f' : flat d = true ∧ flats ds = true := by simpa [flats] using f
    rw [pys]
    exact .cons (Dt.dp h1 f'.1) (Dts.dp h2 f'.2)
end
end

/-! == and != -/
def okD (d : D) : Bool := flat d && SeqAt.shaped (py d)
def eqD (a b : D) : Bool := PyData.eqv (py a) (py b)
def eqR : R2d
  | .lst xs, .lst [], M, F => F (.bl xs.isEmpty) M
  | .int i, .int j, M, F => F (.bl (decide (i = j))) M
  | .str x, .str y, M, F => F (.bl (decide (x = y))) M
  | .tup xs, .tup [], M, F => F (.bl xs.isEmpty) M
  | .ref p, .lst [], M, F => match M p with
    | some (.lst xs) => F (.bl xs.isEmpty) M
    | _ => False
  | a, b, M, F => (okD a && okD b) = true ∧ F (.bl (eqD a b)) M
def neR : R2d
  | .lst xs, .lst [], M, F => F (.bl (!xs.isEmpty)) M
  | .int i, .int j, M, F => F (.bl (!decide (i = j))) M
  | .str x, .str y, M, F => F (.bl (!decide (x = y))) M
  | .tup xs, .tup [], M, F => F (.bl (!xs.isEmpty)) M
  | .ref p, .lst [], M, F => match M p with
    | some (.lst xs) => F (.bl (!xs.isEmpty)) M
    | _ => False
  | a, b, M, F => (okD a && okD b) = true ∧ F (.bl (!eqD a b)) M
section
variable {X : Cx} {pins : List (Addr × Obj)} {s : Shared} {σ : L2.St} {H : Hp} {Q : VK}
theorem eq_emp_t {l b : Addr} {xs : List V} (I : Inv X pins σ H s) (hu : X.A.units < cLine) (hl : SqT X.K H l xs) (hb : SqT X.K H b []) (q : Q (.bl xs.isEmpty) H) : wpAny (model X.prog X.w) X.A (compareOp .Eq (.ref l) (.ref b)) (EP X pins σ Q) X.xe s := by
  obtain ⟨its, rv, tl, _⟩ := I.tuple hl
  obtain ⟨its2, rv2, tl2, _⟩ := I.tuple hb
  cases rv2
  refine SeqAt.eq_tupleAt (e := fun _ => true) tl tl2 hu (fun j _ h2 => by simp at h2) ⟨.bl xs.isEmpty, H, I, ?_, q⟩
  show Value.bool _ = Value.bool _
  have e := rv.length
  cases xs <;> cases its <;> simp at e ⊢
theorem ne_emp_t {l b : Addr} {xs : List V} (I : Inv X pins σ H s) (hu : X.A.units < cLine) (hl : SqT X.K H l xs) (hb : SqT X.K H b []) (q : Q (.bl (!xs.isEmpty)) H) : wpAny (model X.prog X.w) X.A (compareOp .NotEq (.ref l) (.ref b)) (EP X pins σ Q) X.xe s := by
  obtain ⟨its, rv, tl, _⟩ := I.tuple hl
  obtain ⟨its2, rv2, tl2, _⟩ := I.tuple hb
  cases rv2
  refine SeqAt.RcNeAt.tuples (e := fun _ => true) tl tl2 hu (fun j _ h2 => by simp at h2) _ _ _ _ ⟨.bl (!xs.isEmpty), H, I, ?_, q⟩
  show Value.bool _ = Value.bool _
  have e := rv.length
  cases xs <;> cases its <;> simp at e ⊢
theorem eq_emp_l {l b : Addr} {xs : List V} (I : Inv X pins σ H s) (hu : X.A.units < cLine) (hl : SqL X.K H l xs) (hb : SqL X.K H b []) (q : Q (.bl xs.isEmpty) H) : wpAny (model X.prog X.w) X.A (compareOp .Eq (.ref l) (.ref b)) (EP X pins σ Q) X.xe s := by
  obtain ⟨its, rv, tl, _⟩ := I.list hl
  obtain ⟨its2, rv2, tl2, _⟩ := I.list hb
  cases rv2
  have e := rv.length
  cases xs with
  | nil =>
    cases its with
    | nil => exact SeqAt.eq_listAt (e := fun _ => true) tl.isList tl2.isList rfl hu (fun j _ h2 => by simp at h2) ⟨.bl true, H, I, rfl, q⟩
    | cons => simp at e
  | cons x xs =>
    cases its with
    | nil => simp at e
    | cons y its => exact SeqAt.eq_list_lengthsAt tl.isList tl2.isList (by simp) hu ⟨.bl false, H, I, rfl, q⟩
theorem ne_emp_l {l b : Addr} {xs : List V} (I : Inv X pins σ H s) (hu : X.A.units < cLine) (hl : SqL X.K H l xs) (hb : SqL X.K H b []) (q : Q (.bl (!xs.isEmpty)) H) : wpAny (model X.prog X.w) X.A (compareOp .NotEq (.ref l) (.ref b)) (EP X pins σ Q) X.xe s := by
  obtain ⟨its, rv, tl, _⟩ := I.list hl
  obtain ⟨its2, rv2, tl2, _⟩ := I.list hb
  cases rv2
  have e := rv.length
  cases xs with
  | nil =>
    cases its with
    | nil => exact SeqAt.RcNeAt.lists (e := fun _ => true) tl.isList tl2.isList rfl hu (fun j _ h2 => by simp at h2) _ _ _ _ ⟨.bl false, H, I, rfl, q⟩
    | cons => simp at e
  | cons x xs =>
    cases its with
    | nil => simp at e
    | cons y its => exact SeqAt.RcNeAt.lists_lengths tl.isList tl2.isList (by simp) hu _ _ _ _ ⟨.bl true, H, I, rfl, q⟩
theorem okD_and {a b : D} (h : (okD a && okD b) = true) : flat a = true ∧ flat b = true ∧ SeqAt.shaped (py a) = true ∧ SeqAt.shaped (py b) = true := by
  unfold okD at h
  simp only [Bool.and_eq_true] at h
  exact ⟨h.1.1, h.2.1, h.1.2, h.2.2⟩
theorem or_eq (hu : X.A.units + 64 < cLine) : OpR X (compareOp .Eq) (up2 X.K eqR) := by
  intro pins s σ H x y v u Q I rx ry h
  obtain ⟨a, b, M, F, da, db, ok, h, af⟩ := h
  unfold eqR at h
  split at h
  · cases da with
    | lst h1 d1 =>
      cases db with
      | lst h2 d2 =>
        cases d2
        cases rx
        cases ry
        refine eq_emp_l I (by omega) (.inl (.inl (hid_sub _ _ h1))) (.inl (.inl (hid_sub _ _ h2))) ?_
        refine af _ _ h _ _ ok ?_ (Lat.refl _ _)
        cases d1 with
        | nil => exact .bl true
        | cons => exact .bl false
  · cases da
    cases db
    refine op_eq pins s σ H _ _ v u Q I rx ry ⟨rfl, af _ _ h _ _ ok ?_ (Lat.refl _ _)⟩
    simp only [V.int.injEq]
    exact .bl _
  · cases da
    cases db
    refine op_eq pins s σ H _ _ v u Q I rx ry ⟨rfl, af _ _ h _ _ ok ?_ (Lat.refl _ _)⟩
    simp only [V.str.injEq]
    exact .bl _
  · cases da with
    | tup h1 d1 =>
      cases db with
      | tup h2 d2 =>
        cases d2
        cases rx
        cases ry
        refine eq_emp_t I (by omega) (sqT_same hid_sub h1) (sqT_same hid_sub h2) ?_
        have e := d1.length
        refine af _ _ h _ _ ok ?_ (Lat.refl _ _)
        rename_i xs' _ _
        cases d1 with
        | nil => exact .bl true
        | cons => exact .bl false
  · split at h
    · next e =>
      cases da
      obtain ⟨ys, e1, d1⟩ := ok _ _ e
      cases db with
      | lst h2 d2 =>
        cases d2
        cases rx
        cases ry
        refine eq_emp_l I (by omega) (.inl (.inl e1)) (.inl (.inl (hid_sub _ _ h2))) ?_
        refine af _ _ h _ _ ok ?_ (Lat.refl _ _)
        cases d1 with
        | nil => exact .bl true
        | cons => exact .bl false
    · exact h.elim
  · obtain ⟨h0, h⟩ := h
    obtain ⟨f1, f2, s1, s2⟩ := okD_and h0
    exact op_eqD hu pins s σ H x y v u Q I rx ry ⟨py a, py b, da.dp f1, db.dp f2, s1, s2, af _ _ h _ _ ok (.bl _) (Lat.refl _ _)⟩
theorem or_ne (hu : X.A.units + 64 < cLine) : OpR X (compareOp .NotEq) (up2 X.K neR) := by
  intro pins s σ H x y v u Q I rx ry h
  obtain ⟨a, b, M, F, da, db, ok, h, af⟩ := h
  unfold neR at h
  split at h
  · cases da with
    | lst h1 d1 =>
      cases db with
      | lst h2 d2 =>
        cases d2
        cases rx
        cases ry
        refine ne_emp_l I (by omega) (.inl (.inl (hid_sub _ _ h1))) (.inl (.inl (hid_sub _ _ h2))) ?_
        refine af _ _ h _ _ ok ?_ (Lat.refl _ _)
        cases d1 with
        | nil => exact .bl false
        | cons => exact .bl true
  · cases da
    cases db
    refine op_ne pins s σ H _ _ v u Q I rx ry ⟨rfl, af _ _ h _ _ ok ?_ (Lat.refl _ _)⟩
    simp only [V.int.injEq]
    exact .bl _
  · cases da
    cases db
    refine op_ne pins s σ H _ _ v u Q I rx ry ⟨rfl, af _ _ h _ _ ok ?_ (Lat.refl _ _)⟩
    simp only [V.str.injEq]
    exact .bl _
  · cases da with
    | tup h1 d1 =>
      cases db with
      | tup h2 d2 =>
        cases d2
        cases rx
        cases ry
        refine ne_emp_t I (by omega) (sqT_same hid_sub h1) (sqT_same hid_sub h2) ?_
        refine af _ _ h _ _ ok ?_ (Lat.refl _ _)
        cases d1 with
        | nil => exact .bl false
        | cons => exact .bl true
  · split at h
    · next e =>
      cases da
      obtain ⟨ys, e1, d1⟩ := ok _ _ e
      cases db with
      | lst h2 d2 =>
        cases d2
        cases rx
        cases ry
        refine ne_emp_l I (by omega) (.inl (.inl e1)) (.inl (.inl (hid_sub _ _ h2))) ?_
        refine af _ _ h _ _ ok ?_ (Lat.refl _ _)
        cases d1 with
        | nil => exact .bl false
        | cons => exact .bl true
    · exact h.elim
  · obtain ⟨h0, h⟩ := h
    obtain ⟨f1, f2, s1, s2⟩ := okD_and h0
    exact op_neD hu pins s σ H x y v u Q I rx ry ⟨py a, py b, da.dp f1, db.dp f2, s1, s2, af _ _ h _ _ ok (.bl _) (Lat.refl _ _)⟩
end
end Fx

namespace Fx
open PySem PySem.Spec PyProof.Rows L2

/-! tests -/
def tstD (T : TEd) : TTd := fun ds M F => T ds M fun d M1 => match d with
  | .bl b => F b M1
  | _ => False
/-- by truth: a bool, a list, a tuple, None, an int -/
def truD (T : TEd) : TTd := fun ds M F => T ds M fun d M1 => match d with
  | .bl b => F b M1
  | .non => F false M1
  | .int i => F (i != 0) M1
  | .tup xs => F (!xs.isEmpty) M1
  | .lst xs => F (!xs.isEmpty) M1
  | _ => False
def andT (T U : TTd) : TTd := fun ds M F => T ds M fun b M1 => br b (U ds M1 F) (F false M1)
def orT (T U : TTd) : TTd := fun ds M F => T ds M fun b M1 => br b (F true M1) (U ds M1 F)
def notT (T : TTd) : TTd := fun ds M F => T ds M fun b M1 => F (!b) M1
def andV (T U : TEd) : TEd := fun ds M F => T ds M fun d M1 => match d with
  | .bl b => br b (U ds M1 F) (F (.bl false) M1)
  | _ => False
def orV (T U : TEd) : TEd := fun ds M F => T ds M fun d M1 => match d with
  | .bl b => br b (F (.bl true) M1) (U ds M1 F)
  | _ => False
def notV (T : TEd) : TEd := fun ds M F => T ds M fun d M1 => match d with
  | .bl b => F (.bl (!b)) M1
  | _ => False
def ifE (C : TTd) (T U : TEd) : TEd := fun ds M F => C ds M fun b M1 => br b (T ds M1 F) (U ds M1 F)
section
variable {X : Cx} {e a b c : Expr} {rest : List Expr} {T U : TEd} {A B C : TTd} {pos : Pos}
theorem dt_val (h : DE X e T) (he : ∀ whole, isTrue e X.env whole = (do let v ← whole; standAt e.pos; holding [v] (truthy v)) := by intro _; rfl) : DT X e (tstD T) := (pt_val h he).fimp fun σ H Q ⟨ds, M, F, ev, ok, h, af⟩ =>
  ⟨ds, M, _, ev, ok, h, fun d M1 h1 v H1 ok1 dt l1 => by
    cases d with
    | bl k =>
      cases dt
      exact ⟨k, rfl, af k M1 h1 H1 ok1 l1⟩
    | _ => exact h1.elim⟩
theorem dt_tru (h : DE X e T) (he : ∀ whole, isTrue e X.env whole = (do let v ← whole; standAt e.pos; holding [v] (truthy v)) := by intro _; rfl) : DT X e (truD T) := (pt_truth h he).fimp fun σ H Q ⟨ds, M, F, ev, ok, h, af⟩ =>
  ⟨ds, M, _, ev, ok, h, fun d M1 h1 v H1 ok1 dt l1 => by
    cases dt with
    | bl k => exact ⟨k, rfl, af _ M1 h1 H1 ok1 l1⟩
    | non => exact ⟨false, rfl, af _ M1 h1 H1 ok1 l1⟩
    | int i => exact ⟨_, rfl, af _ M1 h1 H1 ok1 l1⟩
    | tup q dd =>
      refine ⟨_, .inr (.inl ⟨_, sqT_same hid_sub q, rfl⟩), af _ M1 ?_ H1 ok1 l1⟩
      cases dd <;> exact h1
    | lst q dd =>
      refine ⟨_, .inl ⟨_, .inl (.inl (hid_sub _ _ q)), rfl⟩, af _ M1 ?_ H1 ok1 l1⟩
      cases dd <;> exact h1
    | _ => exact h1.elim⟩
theorem emb_andT {K : PySem.W.Frag} : ∀ σ H Q, embT K (andT A B) σ H Q → tAnd (embT K A) (embT K B) σ H Q := fun σ H Q ⟨ds, M, F, ev, ok, h, af⟩ =>
  ⟨ds, M, _, ev, ok, h, fun k M1 h1 H1 ok1 l1 => by
    cases k with
    | true => exact iteT ⟨ds, M1, F, ev.mono l1, ok1, h1, fun k M2 h2 H2 ok2 l2 => af k M2 h2 H2 ok2 (l1.trans l2)⟩
    | false => exact iteF (af _ M1 h1 H1 ok1 l1)⟩
theorem emb_orT {K : PySem.W.Frag} : ∀ σ H Q, embT K (orT A B) σ H Q → tOr (embT K A) (embT K B) σ H Q := fun σ H Q ⟨ds, M, F, ev, ok, h, af⟩ =>
  ⟨ds, M, _, ev, ok, h, fun k M1 h1 H1 ok1 l1 => by
    cases k with
    | false => exact iteF ⟨ds, M1, F, ev.mono l1, ok1, h1, fun k M2 h2 H2 ok2 l2 => af k M2 h2 H2 ok2 (l1.trans l2)⟩
    | true => exact iteT (af _ M1 h1 H1 ok1 l1)⟩
theorem dw_and1 (h : DT X a A) : DW X (.BoolOp .And [a] pos) A := pw_and1 h
theorem dw_or1 (h : DT X a A) : DW X (.BoolOp .Or [a] pos) A := pw_or1 h
theorem dw_and (h : DT X a A) (r : DW X (.BoolOp .And (b :: rest) pos) B) : DW X (.BoolOp .And (a :: b :: rest) pos) (andT A B) := (pw_and h r).fimp emb_andT
theorem dw_or (h : DT X a A) (r : DW X (.BoolOp .Or (b :: rest) pos) B) : DW X (.BoolOp .Or (a :: b :: rest) pos) (orT A B) := (pw_or h r).fimp emb_orT
theorem dt_w (h : DW X e A) : DT X e A := h.pt
theorem dt_not (h : DT X a A) : DT X (.UnaryOp .Not a pos) (notT A) := (pt_not h).fimp fun σ H Q ⟨ds, M, F, ev, ok, h, af⟩ => ⟨ds, M, _, ev, ok, h, fun k M1 h1 H1 ok1 l1 => af _ M1 h1 H1 ok1 l1⟩
theorem de_one {op : BoolOp} (h : DE X a T) : DE X (.BoolOp op [a] pos) T := pe_one h
theorem de_and (h : DE X a T) (r : DE X (.BoolOp .And (b :: rest) pos) U) : DE X (.BoolOp .And (a :: b :: rest) pos) (andV T U) := (pe_and h r).fimp fun σ H Q ⟨ds, M, F, ev, ok, h, af⟩ =>
  ⟨ds, M, _, ev, ok, h, fun d M1 h1 v H1 ok1 dt l1 => by
    cases dt with
    | bl k =>
      cases k with
      | true => exact ⟨true, rfl, iteT ⟨ds, M1, F, ev.mono l1, ok1, h1, af.later l1⟩⟩
      | false => exact ⟨false, rfl, iteF (af _ M1 h1 _ H1 ok1 (.bl false) l1)⟩
    | _ => exact h1.elim⟩
theorem de_or (h : DE X a T) (r : DE X (.BoolOp .Or (b :: rest) pos) U) : DE X (.BoolOp .Or (a :: b :: rest) pos) (orV T U) := (pe_or h r).fimp fun σ H Q ⟨ds, M, F, ev, ok, h, af⟩ =>
  ⟨ds, M, _, ev, ok, h, fun d M1 h1 v H1 ok1 dt l1 => by
    cases dt with
    | bl k =>
      cases k with
      | false => exact ⟨false, rfl, iteF ⟨ds, M1, F, ev.mono l1, ok1, h1, af.later l1⟩⟩
      | true => exact ⟨true, rfl, iteT (af _ M1 h1 _ H1 ok1 (.bl true) l1)⟩
    | _ => exact h1.elim⟩
theorem de_not (h : DE X a T) : DE X (.UnaryOp .Not a pos) (notV T) := (pe_not h).fimp fun σ H Q ⟨ds, M, F, ev, ok, h, af⟩ =>
  ⟨ds, M, _, ev, ok, h, fun d M1 h1 v H1 ok1 dt l1 => by
    cases dt with
    | bl k => exact ⟨k, rfl, af _ M1 h1 _ H1 ok1 (.bl _) l1⟩
    | _ => exact h1.elim⟩
theorem de_if (hc : DT X c C) (ha : DE X a T) (hb : DE X b U) : DE X (.IfExp c a b pos) (ifE C T U) := (pe_ifExp hc ha hb).fimp fun σ H Q ⟨ds, M, F, ev, ok, h, af⟩ =>
  ⟨ds, M, _, ev, ok, h, fun k M1 h1 H1 ok1 l1 => by
    cases k with
    | true => exact iteT ⟨ds, M1, F, ev.mono l1, ok1, h1, af.later l1⟩
    | false => exact iteF ⟨ds, M1, F, ev.mono l1, ok1, h1, af.later l1⟩⟩
end

/-! targets -/
inductive Tg where
  | nm (j : Nat)
  | tp (ts : List Tg)
mutual
def gV (K : PySem.W.Frag) : Tg → TG
  | .nm j => gName j
  | .tp ts => gTup K ts.length (gsV K ts)
def gsV (K : PySem.W.Frag) : List Tg → TGs
  | [] => gNil
  | t :: ts => gCons (gV K t) (gsV K ts)
end
mutual
def gD : Tg → D → Ds → (Ds → Prop) → Prop
  | .nm j, d, ds, F => F (ds.set j (some d))
  | .tp ts, .tup xs, ds, F => gsD ts xs ds F
  | .tp _, _, _, _ => False
def gsD : List Tg → List D → Ds → (Ds → Prop) → Prop
  | [], [], ds, F => F ds
  | t :: ts, x :: xs, ds, F => gD t x ds fun ds1 => gsD ts xs ds1 F
  | _, _, _, _ => False
end
mutual
def slots : Tg → List Nat
  | .nm j => [j]
  | .tp ts => slotss ts
def slotss : List Tg → List Nat
  | [] => []
  | t :: ts => slots t ++ slotss ts
end
theorem wipe_set {σ : L2.St} {j : Nat} {o : Option V} : ∀ {vs : List Nat}, j ∈ vs → wipe (σ.set j o) vs = wipe σ vs
  | [], h => by cases h
  | v :: vs, h => by
    unfold wipe
    by_cases e : j ∈ vs
    · rw [wipe_set e]
    · have e2 : j = v := by
        rcases List.mem_cons.mp h with z | z
        · exact z
        · exact absurd z e
      subst e2
      have : ∀ (ws : List Nat), j ∉ ws → wipe (σ.set j o) ws = (wipe σ ws).set j o := by
        intro ws
        induction ws with
        | nil => intro _; rfl
        | cons w ws ih =>
          intro hw
          unfold wipe
          rw [ih fun z => hw (List.mem_cons_of_mem _ z), List.set_comm]
          intro z
          exact hw (by rw [z]; exact List.mem_cons_self)
      rw [this vs e, List.set_set]
section
variable {K : PySem.W.Frag} {M : Mp} {H : Hp}
mutual
theorem gD_ok : ∀ (t : Tg) {d : D} {ds : Ds} {F : Ds → Prop} {v : V} {σ : L2.St} {Q : L2.St → Hp → Prop}, Dt K (hid M H) v d → Env K M H σ ds → gD t d ds F →
    (∀ ds' σ', F ds' → Env K M H σ' ds' → (∀ vs, (∀ j ∈ slots t, j ∈ vs) → wipe σ' vs = wipe σ vs) → Q σ' H) → gV K t v σ H Q
  | .nm j, d, ds, F, v, σ, Q, dt, ev, g, q => by
    unfold gV
    unfold gD at g
    exact q _ _ g (ev.set j dt) fun vs hv => wipe_set (hv j (by simp [slots]))
  | .tp ts, d, ds, F, v, σ, Q, dt, ev, g, q => by
    unfold gV
    cases dt <;> (unfold gD at g; first | exact g.elim | skip)
    next h1 d1 =>
      refine ⟨_, _, rfl, sqT_same hid_sub h1, ?_, gsD_ok ts d1 ev g fun ds' σ' f ev' w => q ds' σ' f ev' fun vs hv => w vs (by simpa [slots] using hv)⟩
      rw [d1.length]
      exact gsD_len ts _ g
theorem gsD_ok : ∀ (ts : List Tg) {xs : List D} {ds : Ds} {F : Ds → Prop} {vs : List V} {σ : L2.St} {Q : L2.St → Hp → Prop}, Dts K (hid M H) vs xs → Env K M H σ ds → gsD ts xs ds F →
    (∀ ds' σ', F ds' → Env K M H σ' ds' → (∀ ws, (∀ j ∈ slotss ts, j ∈ ws) → wipe σ' ws = wipe σ ws) → Q σ' H) → gsV K ts vs σ H Q
  | [], xs, ds, F, vs, σ, Q, dt, ev, g, q => by
    cases dt with
    | nil =>
      unfold gsV
      unfold gsD at g
      exact ⟨rfl, q ds σ g ev fun _ _ => rfl⟩
    | cons _ _ => unfold gsD at g; exact g.elim
  | t :: ts, xs, ds, F, vs, σ, Q, dt, ev, g, q => by
    cases dt with
    | nil => unfold gsD at g; exact g.elim
    | cons h1 h2 =>
      unfold gsV
      unfold gsD at g
      refine ⟨_, _, rfl, gD_ok t h1 ev g fun ds1 σ1 f1 ev1 w1 => gsD_ok ts h2 ev1 f1 fun ds2 σ2 f2 ev2 w2 => q ds2 σ2 f2 ev2 fun ws hw => ?_⟩
      rw [w2 ws fun j hj => hw j (by rw [slotss]; exact List.mem_append_right _ hj), w1 ws fun j hj => hw j (by rw [slotss]; exact List.mem_append_left _ hj)]
theorem gsD_len : ∀ (ts : List Tg) {ds : Ds} {F : Ds → Prop} (xs : List D), gsD ts xs ds F → xs.length = ts.length
  | [], _, _, [], _ => rfl
  | [], _, _, _ :: _, g => by unfold gsD at g; exact g.elim
  | _ :: _, _, _, [], g => by unfold gsD at g; exact g.elim
  | t :: ts, ds, F, x :: xs, g => by
    unfold gsD at g
    obtain ⟨ds', g'⟩ := gD_some t g
    rw [List.length_cons, List.length_cons, gsD_len ts xs g']
theorem gD_some : ∀ (t : Tg) {d : D} {ds : Ds} {F : Ds → Prop}, gD t d ds F → ∃ ds', F ds'
  | .nm j, d, ds, F, g => by
    unfold gD at g
    exact ⟨_, g⟩
  | .tp ts, .tup xs, ds, F, g => by
    unfold gD at g
    exact gsD_some ts g
  | .tp ts, .non, ds, F, g => by unfold gD at g; exact g.elim
  | .tp ts, .bl _, ds, F, g => by unfold gD at g; exact g.elim
  | .tp ts, .int _, ds, F, g => by unfold gD at g; exact g.elim
  | .tp ts, .str _, ds, F, g => by unfold gD at g; exact g.elim
  | .tp ts, .lst _, ds, F, g => by unfold gD at g; exact g.elim
  | .tp ts, .slst _, ds, F, g => by unfold gD at g; exact g.elim
  | .tp ts, .dic _, ds, F, g => by unfold gD at g; exact g.elim
  | .tp ts, .ref _, ds, F, g => by unfold gD at g; exact g.elim
  | .tp ts, .ty _, ds, F, g => by unfold gD at g; exact g.elim
theorem gsD_some : ∀ (ts : List Tg) {xs : List D} {ds : Ds} {F : Ds → Prop}, gsD ts xs ds F → ∃ ds', F ds'
  | [], [], ds, F, g => by
    unfold gsD at g
    exact ⟨_, g⟩
  | [], _ :: _, _, _, g => by unfold gsD at g; exact g.elim
  | _ :: _, [], _, _, g => by unfold gsD at g; exact g.elim
  | t :: ts, x :: xs, ds, F, g => by
    unfold gsD at g
    obtain ⟨ds', g'⟩ := gD_some t g
    exact gsD_some ts g'
end
end

/-! statements -/
def nextD : TSd := fun B ds M => B.nx ds M
def seqD (T U : TSd) : TSd := fun B ds M => T { B with nx := U B } ds M
def asgD (T : TEd) (t : Tg) : TSd := fun B ds M => T ds M fun d M1 => gD t d ds fun ds1 => B.nx ds1 M1
def dropD (T : TEd) : TSd := fun B ds M => T ds M fun _ M1 => B.nx ds M1
def retD (T : TEd) : TSd := fun B ds M => T ds M B.rt
def retN : TSd := fun B _ M => B.rt .non M
def ifS (C : TTd) (T U : TSd) : TSd := fun B ds M => C ds M fun b M1 => br b (T B ds M1) (U B ds M1)
section
variable {X : Cx} {st : Stmt} {rest sa sb : List Stmt} {e c tg : Expr} {T : TEd} {C : TTd} {S U : TSd} {t : Tg} {pos : Pos}
theorem dss_nil : DSs X [] nextD := pss_nil.fimp fun E σ H ⟨ds, M, B, ev, ok, h, a⟩ => a.nx _ _ h _ _ ev ok (Lat.refl M H)
theorem dss_one (h : DS X st S) : DSs X [st] S := pss_one h
theorem dss_cons (h : DS X st S) (r : DSs X rest U) : DSs X (st :: rest) (seqD S U) := (pss_cons h r).fimp fun E σ H ⟨ds, M, B, ev, ok, h, a⟩ =>
  ⟨ds, M, _, ev, ok, h, ⟨fun ds' M' h' σ' H' ev' ok' l => ⟨ds', M', B, ev', ok', h', a.later l⟩, a.rt, a.bk, a.ct⟩⟩
theorem ds_set {x : Str} {pos' : Pos} (i : Nat) (hN : X.N.Nodup) (he : DE X e T) (hi : X.N[i]? = some x := by rfl) (hx : Loc X.env.scope x := by first | exact Or.inl rfl | exact Or.inr rfl) (hs : swapsWith e (some (.Name x pos')) pos.line X.env = pure false := by rfl) (hf : X.fn x = true ∨ X.env.scope.names.lookup x = some .local := by first | exact .inl rfl | exact .inr rfl | assumption) :
    DS X (.Assign [.Name x pos'] e pos) (asgD T (.nm i)) := (ps_set hN hi hx he hs hf).fimp fun E σ H ⟨ds, M, B, ev, ok, h, a⟩ =>
  ⟨ds, M, _, ev, ok, h, fun d M1 h1 v H1 ok1 dt l1 => a.nx _ _ h1 _ _ ((ev.mono l1).set i dt) ok1 l1⟩
theorem ds_asg (he : DE X e T) (hg : PG X tg (gV X.K t)) (hs : swapsWithSole [tg] e pos.line X.env = pure false := by rfl) (hw : swappedStores [tg] e X.env = pure none := by rfl)
    (h1 : (assignEach [tg] X.env).map (·.2) = [assign tg X.env] := by rfl) : DS X (.Assign [tg] e pos) (asgD T t) := (ps_asg he hg hs hw h1).fimp fun E σ H ⟨ds, M, B, ev, ok, h, a⟩ =>
  ⟨ds, M, _, ev, ok, h, fun d M1 h1 v H1 ok1 dt l1 => gD_ok t dt (ev.mono l1) h1 fun ds' σ' f ev' _ => a.nx _ _ f _ _ ev' ok1 l1⟩
theorem ds_expr (he : DE X e T) (hs : swapsWith e none pos.line X.env = pure false := by rfl) : DS X (.Expr e pos) (dropD T) := (ps_expr he hs).fimp fun E σ H ⟨ds, M, B, ev, ok, h, a⟩ =>
  ⟨ds, M, _, ev, ok, h, fun d M1 h1 v H1 ok1 dt l1 => a.nx _ _ h1 _ _ (ev.mono l1) ok1 l1⟩
theorem ds_ret (he : DE X e T) : DS X (.Return (some e) pos) (retD T) := (ps_ret he).fimp fun E σ H ⟨ds, M, B, ev, ok, h, a⟩ => ⟨ds, M, _, ev, ok, h, a.rt⟩
theorem ds_retN : DS X (.Return none pos) retN := ps_retN.fimp fun E σ H ⟨ds, M, B, ev, ok, h, a⟩ => a.rt _ _ h _ _ ok .non (Lat.refl M H)
theorem ds_pass : DS X (.Pass pos) nextD := ps_pass.fimp fun E σ H ⟨ds, M, B, ev, ok, h, a⟩ => a.nx _ _ h _ _ ev ok (Lat.refl M H)
theorem ds_if (hc : DT X c C) (ha : DSs X sa S) (hb : DSs X sb U) : DS X (.If c sa sb pos) (ifS C S U) := (ps_if hc ha hb).fimp fun E σ H ⟨ds, M, B, ev, ok, h, a⟩ =>
  ⟨ds, M, _, ev, ok, h, fun k M1 h1 H1 ok1 l1 => by
    cases k with
    | true => exact iteT ⟨ds, M1, B, ev.mono l1, ok1, h1, a.later l1⟩
    | false => exact iteF ⟨ds, M1, B, ev.mono l1, ok1, h1, a.later l1⟩⟩
/-- a, b = e1, e2 -/
def parD (i j : Nat) (U : TAd) : TSd := fun B ds M => U ds M fun xs M1 => match xs with
  | [a, b] => B.nx ((ds.set i (some a)).set j (some b)) M1
  | _ => False
theorem ds_par {x y : Str} {a b : Expr} {U : TAd} {px py pt : Pos} {kt k2 : Nat} {pt2 : Pos} (i j : Nat) (hc : X.calm = true) (hN : X.N.Nodup) (hij : i ≠ j) (ha : DA X [a, b] U) (hi : X.N[i]? = some x := by rfl) (hj : X.N[j]? = some y := by rfl)
    (hx : X.env.scope.names.lookup x = some .local := by rfl) (hy : X.env.scope.names.lookup y = some .local := by rfl)
    (hw : swappedStores [.Tuple [.Name x px, .Name y py] kt pt] (.Tuple [a, b] k2 pt2) X.env = pure (some [x, y]) := by rfl)
    (hs : swapsWithSole [.Tuple [.Name x px, .Name y py] kt pt] (.Tuple [a, b] k2 pt2) pos.line X.env = pure false := by rfl) :
    DS X (.Assign [.Tuple [.Name x px, .Name y py] kt pt] (.Tuple [a, b] k2 pt2) pos) (parD i j U) := (ps_par hc hN hi hj hij hx hy ha hw hs).fimp fun E σ H ⟨ds, M, B, ev, ok, h, af⟩ =>
  ⟨ds, M, _, ev, ok, h, fun xs M1 h1 vs H1 ok1 dts l1 => by
    match xs, vs, dts, h1 with
    | [d1, d2], [v1, v2], .cons e1 (.cons e2 .nil), h1 => exact ⟨v1, v2, rfl, af.nx _ _ h1 _ _ (((ev.mono l1).set i e1).set j e2) ok1 l1⟩
    | [], _, _, h1 => exact h1.elim
    | [_], _, _, h1 => exact h1.elim
    | _ :: _ :: _ :: _, _, _, h1 => exact h1.elim⟩
end
section
variable {X : Cx} {e : Expr} {es : List Expr} {x : Str} {pos : Pos} {k : Nat} {t : Tg} {ts : List Tg}
theorem dg_nm (j : Nat) (hN : X.N.Nodup) (hi : X.N[j]? = some x := by rfl) (hx : Loc X.env.scope x := by first | exact Or.inl rfl | exact Or.inr rfl) (hf : X.fn x = true ∨ X.env.scope.names.lookup x = some .local := by first | exact .inl rfl | exact .inr rfl | assumption) : PG X (.Name x pos) (gV X.K (.nm j)) := by
  unfold gV
  exact pg_name hN hi hx hf
theorem dgs_nil : PGs X [] (gsV X.K []) := by unfold gsV; exact pgs_nil
theorem dgs_cons (h1 : PG X e (gV X.K t)) (h2 : PGs X es (gsV X.K ts)) (hs : (assignEach (e :: es) X.env).map (·.2) = assign e X.env :: (assignEach es X.env).map (·.2) := by rfl) : PGs X (e :: es) (gsV X.K (t :: ts)) := by
  unfold gsV
  exact pgs_cons h1 h2 hs
theorem dg_tp (hc : X.calm = true) (h : PGs X es (gsV X.K ts)) (hn : (assignEach es X.env).length = ts.length := by rfl) (hst : (assignEach es X.env).findIdx? (·.1) = none := by rfl) : PG X (.Tuple es k pos) (gV X.K (.tp ts)) := by
  unfold gV
  exact pg_tup hc h hn hst
end

/-! what is walked: its items are known ahead -/
abbrev TId := Ds → Mp → (List D → Mp → Prop) → Prop
def Walks (K : PySem.W.Frag) (J : It) (xs : List D) (M0 : Mp) (H0 : Hp) : Prop := ∀ (i : Nat) (M : Mp) (H : Hp), HpOk K M H → Lat M0 H0 M H →
  (∀ d, xs[i]? = some d → J.go i H ∧ ∀ x H', J.yld i H x H' → Dt K (hid M H') x d ∧ HpOk K M H' ∧ Lat M H M H') ∧ (i = xs.length → J.stop i H)
def embI (K : PySem.W.Frag) (T : TId) : TI := fun σ H R => ∃ ds M F, Env K M H σ ds ∧ HpOk K M H ∧ T ds M F ∧ ∀ xs M', F xs M' → ∀ H' J, HpOk K M' H' → Lat M H M' H' → Walks K J xs M' H' → R J H'
abbrev DI (X : Cx) (tg iter : Expr) (T : TId) : Prop := PI X tg iter (embI X.K T)
theorem _root_.L2.PI.fimp {X : Cx} {tg iter : Expr} {t u : TI} (h : PI X tg iter t) (i : ∀ σ H R, u σ H R → t σ H R) : PI X tg iter u := ⟨fun pins s σ H R I q => h.run pins s σ H R I (i σ H R q)⟩

def forD (T : TId) (t : Tg) (S : TSd) : TSd := fun B ds M => T ds M fun xs M1 => ∃ W : Nat → Ds → Mp → Prop, W 0 ds M1 ∧
  (∀ i d ds' M', xs[i]? = some d → W i ds' M' → gD t d ds' fun ds2 => S { B with nx := W (i + 1), ct := W (i + 1), bk := B.nx } ds2 M') ∧ ∀ ds' M', W xs.length ds' M' → B.nx ds' M'
theorem emb_for {K : PySem.W.Frag} {T : TId} {t : Tg} {S : TSd} : ∀ E σ H, embS K (forD T t S) E σ H → tFor (embI K T) (gV K t) (embS K S) E σ H := fun E σ H ⟨ds, M, B, ev, ok, h, a⟩ =>
  ⟨ds, M, _, ev, ok, h, fun xs M1 ⟨W, w0, wt, wd⟩ H1 J ok1 l1 wk =>
    ⟨fun i m σ' H' => m = xs.length - i ∧ i ≤ xs.length ∧ ∃ ds' M', W i ds' M' ∧ Env K M' H' σ' ds' ∧ HpOk K M' H' ∧ Lat M1 H1 M' H', ⟨xs.length, by simp, Nat.zero_le _, ds, M1, w0, ev.mono l1, ok1, Lat.refl _ _⟩, fun i m σ' H' ⟨em, hi, ds', M', w', ev', ok', l'⟩ => by
      obtain ⟨wgo, wstop⟩ := wk i M' H' ok' l'
      by_cases hlt : i < xs.length
      · obtain ⟨go, yl⟩ := wgo xs[i] (by simp [hlt])
        refine .inr ⟨go, fun σ2 H2 => ∃ ds2 M2, W (i + 1) ds2 M2 ∧ Env K M2 H2 σ2 ds2 ∧ HpOk K M2 H2 ∧ Lat M1 H1 M2 H2, fun σ2 H2 ⟨ds2, M2, w2, ev2, ok2, l2⟩ => ⟨xs.length - (i + 1), by omega, rfl, hlt, ds2, M2, w2, ev2, ok2, l2⟩, fun x H2 y => ?_⟩
        obtain ⟨dt, ok2, l2⟩ := yl x H2 y
        refine gD_ok t dt (ev'.mono l2) (wt i xs[i] ds' M' (by simp [hlt]) w') fun ds3 σ3 f3 ev3 _ => ⟨ds3, M', _, ev3, ok2, f3, ?_⟩
        have lt : Lat M1 H1 M' H2 := l'.trans l2
        exact ⟨fun ds4 M4 w4 σ4 H4 ev4 ok4 l4 => ⟨ds4, M4, w4, ev4, ok4, lt.trans l4⟩, a.rt.later (l1.trans lt), fun ds4 M4 b4 σ4 H4 ev4 ok4 l4 => a.nx _ _ b4 _ _ ev4 ok4 ((l1.trans lt).trans l4), fun ds4 M4 w4 σ4 H4 ev4 ok4 l4 => ⟨ds4, M4, w4, ev4, ok4, lt.trans l4⟩⟩
      · have e : i = xs.length := by omega
        subst e
        exact .inl ⟨wstop rfl, a.nx _ _ (wd _ _ w') _ _ ev' ok' (l1.trans l')⟩⟩⟩
theorem ds_for {X : Cx} {tg iter : Expr} {body : List Stmt} {T : TId} {t : Tg} {S : TSd} {pos : Pos} (hp : PassesOwn (model X.prog X.w) X.A X.env X.xe) (hc : X.calm = true) (hi : DI X tg iter T) (hg : PG X tg (gV X.K t)) (hb : DSs X body S)
    (hs : ∀ x, foldedSetIterable iter X.env x = pure x := by intro _; rfl) : DS X (.For tg iter body [] pos) (forD T t S) := (ps_for hp hc hi hg hb hs).fimp emb_for

/-! while: W by a measure -/
def whileD (C : TTd) (S : TSd) : TSd := fun B ds M => ∃ W : Nat → Ds → Mp → Prop, (∃ m, W m ds M) ∧ ∀ m ds' M', W m ds' M' → C ds' M' fun b M1 => br b
  (S { B with nx := fun ds2 M2 => ∃ m', m' < m ∧ W m' ds2 M2, ct := fun ds2 M2 => ∃ m', m' < m ∧ W m' ds2 M2, bk := B.nx } ds' M1)
  (B.nx ds' M1)
theorem ds_while {X : Cx} {c : Expr} {body : List Stmt} {C : TTd} {S : TSd} {pos : Pos} (hp : PassesOwn (model X.prog X.w) X.A X.env X.xe) (hc : DT X c C) (hb : DSs X body S) : DS X (.While c body [] pos) (whileD C S) := (ps_while hp hc hb).fimp fun E σ H ⟨ds, M, B, ev, ok, ⟨W, ⟨m0, w0⟩, wt⟩, a⟩ =>
  ⟨fun m σ' H' => ∃ ds' M', W m ds' M' ∧ Env X.K M' H' σ' ds' ∧ HpOk X.K M' H' ∧ Lat M H M' H', ⟨m0, ds, M, w0, ev, ok, Lat.refl _ _⟩, fun m σ' H' ⟨ds', M', w', ev', ok', l'⟩ =>
    ⟨ds', M', _, ev', ok', wt m ds' M' w', fun b M1 h1 H1 ok1 l1 => by
      have lt := l'.trans l1
      cases b with
      | true =>
        refine iteT ⟨fun σ2 H2 => ∃ ds2 M2, (∃ m', m' < m ∧ W m' ds2 M2) ∧ Env X.K M2 H2 σ2 ds2 ∧ HpOk X.K M2 H2 ∧ Lat M H M2 H2, fun σ2 H2 ⟨ds2, M2, ⟨m', hm, w2⟩, ev2, ok2, l2⟩ => ⟨m', hm, ds2, M2, w2, ev2, ok2, l2⟩, ds', M1, _, ev'.mono l1, ok1, h1, ?_⟩
        exact ⟨fun ds4 M4 w4 σ4 H4 ev4 ok4 l4 => ⟨ds4, M4, w4, ev4, ok4, lt.trans l4⟩, a.rt.later lt, fun ds4 M4 b4 σ4 H4 ev4 ok4 l4 => a.nx _ _ b4 _ _ ev4 ok4 (lt.trans l4), fun ds4 M4 w4 σ4 H4 ev4 ok4 l4 => ⟨ds4, M4, w4, ev4, ok4, lt.trans l4⟩⟩
      | false => exact iteF (a.nx _ _ h1 _ _ (ev'.mono l1) ok1 lt)⟩⟩
end Fx

namespace Fx
open PySem PySem.Spec PyProof.Rows L2

/-! items of a text -/
def signs (z : Str) : List D := z.cps.toList.map fun c => D.str ⟨#[c]⟩
/-- for x in e: a list, a tuple, a text -/
def seqI (T : TEd) : TId := fun ds M F => T ds M fun d M1 => match d with
  | .lst xs => F xs M1
  | .slst xs => F xs M1
  | .tup xs => F xs M1
  | .str z => F (signs z) M1
  | _ => False
def rngI (U : TAd) : TId := fun ds M F => U ds M fun xs M1 => match xs with
  | [.int n] => (-1000000 ≤ n ∧ n ≤ 1000000) ∧ F ((List.range n.toNat).map fun i => D.int (i : Nat)) M1
  | _ => False
def rng2I (U : TAd) : TId := fun ds M F => U ds M fun xs M1 => match xs with
  | [.int a, .int b] => (-1000000 ≤ a ∧ a ≤ 1000000 ∧ -1000000 ≤ b ∧ b ≤ 1000000) ∧ F ((List.range (b - a).toNat).map fun i => D.int (a + (i : Nat))) M1
  | _ => False
def enumL (k : Nat) : List D → List D
  | [] => []
  | d :: ds => .tup [.int (k : Nat), d] :: enumL (k + 1) ds
def enumI (U : TAd) : TId := fun ds M F => U ds M fun xs M1 => match xs with
  | [.lst xs] => F (enumL 0 xs) M1
  | [.slst xs] => F (enumL 0 xs) M1
  | _ => False
def zipL : List D → List D → List D
  | x :: xs, y :: ys => .tup [x, y] :: zipL xs ys
  | _, _ => []
def zipI (U : TAd) : TId := fun ds M F => U ds M fun xs M1 => match xs with
  | [.lst xs, .lst ys] => F (zipL xs ys) M1
  | _ => False
theorem enumL_get : ∀ (xs : List D) (k i : Nat), (enumL k xs)[i]? = (xs[i]?).map fun d => D.tup [.int ((k + i : Nat) : Int), d]
  | [], _, _ => by simp [enumL]
  | x :: xs, k, 0 => by simp [enumL]
  | x :: xs, k, i + 1 => by
    have := enumL_get xs (k + 1) i
    simp only [enumL, List.getElem?_cons_succ, this]
    congr 1
    funext d
    have e : k + 1 + i = k + (i + 1) := by omega
    rw [e]
theorem enumL_len : ∀ (xs : List D) (k : Nat), (enumL k xs).length = xs.length
  | [], _ => rfl
  | x :: xs, k => by simp [enumL, enumL_len xs]
theorem zipL_get : ∀ (xs ys : List D) (i : Nat) (d : D), (zipL xs ys)[i]? = some d → ∃ x y, xs[i]? = some x ∧ ys[i]? = some y ∧ d = .tup [x, y]
  | [], _, _, _, h => by simp [zipL] at h
  | _ :: _, [], _, _, h => by simp [zipL] at h
  | x :: xs, y :: ys, 0, d, h => by
    simp [zipL] at h
    exact ⟨x, y, rfl, rfl, h.symm⟩
  | x :: xs, y :: ys, i + 1, d, h => by
    simp only [zipL, List.getElem?_cons_succ] at h ⊢
    exact zipL_get xs ys i d h
theorem zipL_len : ∀ (xs ys : List D), (zipL xs ys).length = min xs.length ys.length
  | [], ys => by simp [zipL]
  | _ :: _, [] => by simp [zipL]
  | x :: xs, y :: ys => by simp [zipL, zipL_len xs ys]

section
variable {K : PySem.W.Frag}
theorem walks_l {a : Addr} {vs : List V} {xs : List D} {M0 : Mp} {H0 : Hp} (h : SqL K (hid M0 H0) a vs) (d : Dts K (hid M0 H0) vs xs) : Walks K (Itl K a) xs M0 H0 := fun i M H ok l => by
  have hq : SqL K H a vs := Same.seq hid_sub (Same.seq l.same h)
  refine ⟨fun x hx => ?_, fun e => ⟨vs, hq, by rw [d.length]; omega⟩⟩
  obtain ⟨v, e1, e2⟩ := d.get hx
  refine ⟨⟨vs, v, hq, e1⟩, fun y H' ⟨e, q⟩ => ?_⟩
  subst e
  have e3 := q vs hq
  rw [e1] at e3
  cases e3
  exact ⟨e2.mono l.same, ok, Lat.refl _ _⟩
theorem walks_t {a : Addr} {vs : List V} {xs : List D} {M0 : Mp} {H0 : Hp} (h : SqT K (hid M0 H0) a vs) (d : Dts K (hid M0 H0) vs xs) : Walks K (Itt K a) xs M0 H0 := fun i M H ok l => by
  have hq : SqT K H a vs := sqT_same hid_sub (sqT_same l.same h)
  refine ⟨fun x hx => ?_, fun e => ⟨vs, hq, by rw [d.length]; omega⟩⟩
  obtain ⟨v, e1, e2⟩ := d.get hx
  refine ⟨⟨vs, v, hq, e1⟩, fun y H' ⟨e, q⟩ => ?_⟩
  subst e
  have e3 := q vs hq
  rw [e1] at e3
  cases e3
  exact ⟨e2.mono l.same, ok, Lat.refl _ _⟩
theorem walks_s {z : Str} {M0 : Mp} {H0 : Hp} : Walks K (Its z) (signs z) M0 H0 := fun i M H ok l => by
  refine ⟨fun x hx => ?_, fun e => ?_⟩
  · unfold signs at hx
    rw [List.getElem?_map] at hx
    cases q : z.cps.toList[i]? with
    | none => rw [q] at hx; cases hx
    | some c =>
      rw [q] at hx
      cases hx
      have hi : i < z.cps.size := by
        have := (List.getElem?_eq_some_iff.mp q).1
        simpa using this
      refine ⟨hi, fun y H' ⟨e, c', hc, ey⟩ => ?_⟩
      subst e
      subst ey
      have e2 : z.cps.toList[i]? = some c' := by simpa using hc
      rw [q] at e2
      cases e2
      exact ⟨.str _, ok, Lat.refl _ _⟩
  · subst e
    show z.cps.size ≤ _
    unfold signs
    simp
theorem walks_r {lo : Int} {n : Nat} {M0 : Mp} {H0 : Hp} : Walks K (Itr lo n) ((List.range n).map fun i => D.int (lo + (i : Nat))) M0 H0 := fun i M H ok l => by
  refine ⟨fun x hx => ?_, fun e => ?_⟩
  · rw [List.getElem?_map] at hx
    cases q : (List.range n)[i]? with
    | none => rw [q] at hx; cases hx
    | some c =>
      rw [q] at hx
      obtain ⟨h1, h2⟩ := List.getElem?_eq_some_iff.mp q
      rw [List.getElem_range] at h2
      subst h2
      cases hx
      rw [List.length_range] at h1
      refine ⟨h1, fun y H' ⟨e, ey⟩ => ?_⟩
      subst e
      subst ey
      exact ⟨.int _, ok, Lat.refl _ _⟩
  · show n ≤ i
    rw [List.length_map, List.length_range] at e
    omega
theorem walks_e {a : Addr} {vs : List V} {xs : List D} {M0 : Mp} {H0 : Hp} (h : SqL K (hid M0 H0) a vs) (d : Dts K (hid M0 H0) vs xs) : Walks K (Ite K a) (enumL 0 xs) M0 H0 := fun i M H ok l => by
  have hq : SqL K H a vs := Same.seq hid_sub (Same.seq l.same h)
  refine ⟨fun x hx => ?_, fun e => ⟨vs, hq, by rw [enumL_len] at e; rw [d.length]; omega⟩⟩
  rw [enumL_get] at hx
  cases q : xs[i]? with
  | none => rw [q] at hx; cases hx
  | some x' =>
    rw [q] at hx
    cases hx
    obtain ⟨v, e1, e2⟩ := d.get q
    refine ⟨⟨vs, v, hq, e1⟩, fun y H' ⟨T, z, ey, nT, eH, hz⟩ => ?_⟩
    subst ey
    subst eH
    have e3 := hz vs hq
    rw [e1] at e3
    cases e3
    obtain ⟨ok2, l2⟩ := ok.lay (p := T) (o := .tup [.int (i : Nat), v]) nT
    refine ⟨.tup (xs := [.int (i : Nat), v]) (.inl (.inl ?_)) (.cons ?_ (.cons ((e2.mono l.same).mono l2.same) .nil)), ok2, l2⟩
    · rw [hid_of (ok.free nT)]
      exact upd_same
    · rw [Nat.zero_add]
      exact .int _
theorem walks_z {a b : Addr} {vs ws : List V} {xs ys : List D} {M0 : Mp} {H0 : Hp} (h : SqL K (hid M0 H0) a vs) (d : Dts K (hid M0 H0) vs xs) (h' : SqL K (hid M0 H0) b ws) (d' : Dts K (hid M0 H0) ws ys) : Walks K (Itz K a b) (zipL xs ys) M0 H0 := fun i M H ok l => by
  have hq : SqL K H a vs := Same.seq hid_sub (Same.seq l.same h)
  have hq' : SqL K H b ws := Same.seq hid_sub (Same.seq l.same h')
  refine ⟨fun x hx => ?_, fun e => ⟨vs, ws, hq, hq', by rw [zipL_len] at e; rw [d.length, d'.length]; omega⟩⟩
  obtain ⟨x1, y1, g1, g2, rfl⟩ := zipL_get _ _ _ _ hx
  obtain ⟨v, e1, e2⟩ := d.get g1
  obtain ⟨w, f1, f2⟩ := d'.get g2
  refine ⟨⟨vs, ws, v, w, hq, hq', e1, f1⟩, fun y H' ⟨T, z, z', ey, nT, eH, hz, hz'⟩ => ?_⟩
  subst ey
  subst eH
  have e3 := hz vs hq
  rw [e1] at e3
  cases e3
  have e4 := hz' ws hq'
  rw [f1] at e4
  cases e4
  obtain ⟨ok2, l2⟩ := ok.lay (p := T) (o := .tup [v, w]) nT
  refine ⟨.tup (.inl (.inl ?_)) (.cons ((e2.mono l.same).mono l2.same) (.cons ((f2.mono l.same).mono l2.same) .nil)), ok2, l2⟩
  rw [hid_of (ok.free nT)]
  exact upd_same
end

section
variable {X : Cx} {tg e e2 : Expr} {T : TEd} {U : TAd} {p pos tpos : Pos} {elts : List Expr} {kk : Nat}
theorem di_seq (he : DE X e T) : DI X tg e (seqI T) := ⟨fun pins s σ H R I ⟨ds, M, F, ev, ok, h, af⟩ =>
  thn (he.run pins s σ H (fun x H1 => (∃ a, x = .ref a ∧ (∃ xs, SqL X.K H1 a xs) ∧ R (Itl X.K a) H1) ∨ (∃ a, x = .ref a ∧ (∃ xs, SqT X.K H1 a xs) ∧ R (Itt X.K a) H1) ∨ ∃ z, x = .str z ∧ R (Its z) H1) I
      ⟨ds, M, _, ev, ok, h, fun d M1 h1 v H1 ok1 dt l1 => by
        cases dt with
        | lst q dd => exact .inl ⟨_, rfl, ⟨_, .inl (.inl (hid_sub _ _ q))⟩, af _ M1 h1 H1 _ ok1 l1 (walks_l (.inl (.inl q)) dd)⟩
        | slst q dd => exact .inl ⟨_, rfl, ⟨_, Same.seq hid_sub q⟩, af _ M1 h1 H1 _ ok1 l1 (walks_l q dd)⟩
        | tup q dd => exact .inr (.inl ⟨_, rfl, ⟨_, sqT_same hid_sub q⟩, af _ M1 h1 H1 _ ok1 l1 (walks_t q dd)⟩)
        | str z => exact .inr (.inr ⟨z, rfl, af _ M1 h1 H1 _ ok1 l1 walks_s⟩)
        | _ => exact h1.elim⟩) fun v s1 ⟨x, H1, I1, r1, q1⟩ => by
    rcases q1 with ⟨a, rfl, ⟨xs, hq⟩, q⟩ | ⟨a, rfl, ⟨xs, hq⟩, q⟩ | ⟨z, rfl, q⟩
    · cases r1
      obtain ⟨its, rv, pl, hz⟩ := I1.list hq
      exact wpAny_pyIter_list pl.isList (pi_one (tk := s1.toks) I1 _ (turn_list a _) ⟨_, Heap.get?_push_size _ rfl, rfl, rfl⟩ q)
    · cases r1
      obtain ⟨its, rv, pl, hz⟩ := I1.tuple hq
      exact wpAny_pyIter_tuple (show s1.heap.IsTuple a its.toArray from pl) (pi_one (tk := s1.toks) I1 _ (turn_tuple a _) ⟨_, Heap.get?_push_size _ rfl, rfl, rfl⟩ q)
    · obtain ⟨t, rfl⟩ := r1
      cases ha : z.cps.all (· < 128)
      · exact wpAny_pyIter_wide ha (pi_one (tk := s1.toks) I1 _ (turn_str _ z t "str_iterator" (.inr rfl)) ⟨_, Heap.get?_push_size _ rfl, rfl, rfl⟩ q)
      · exact wpAny_pyIter_ascii ha (pi_one (tk := s1.toks) I1 _ (turn_str _ z t "str_ascii_iterator" (.inl rfl)) ⟨_, Heap.get?_push_size _ rfl, rfl, rfl⟩ q)⟩
theorem di_rng1 (hg : Gl X "range") (hm : X.mg "range" = none) (ha : DA X [e] U) (hs : starEach [e] X.env = [(false, eval e X.env)] := by rfl) : DI X tg (.Call (.Name "range" p) [e] [] pos) (rngI U) := (pi_range1 hg hm ha hs).fimp fun σ H R ⟨ds, M, F, ev, ok, h, af⟩ =>
  ⟨ds, M, _, ev, ok, h, fun xs M1 h1 vs H1 ok1 dts l1 => by
    split at h1
    · next n =>
      cases dts with
      | cons d1 d2 =>
        cases d2
        cases d1
        refine ⟨n, rfl, by omega, by omega, af _ M1 h1.2 H1 _ ok1 l1 ?_⟩
        have := walks_r (K := X.K) (lo := 0) (n := n.toNat) (M0 := M1) (H0 := H1)
        simpa using this
    · exact h1.elim⟩
theorem di_rng2 (hg : Gl X "range") (hm : X.mg "range" = none) (ha : DA X [e, e2] U) (hs : starEach [e, e2] X.env = [(false, eval e X.env), (false, eval e2 X.env)] := by rfl) (hs2 : starEach [e2] X.env = [(false, eval e2 X.env)] := by rfl) :
    DI X tg (.Call (.Name "range" p) [e, e2] [] pos) (rng2I U) := (pi_range2 hg hm ha hs hs2).fimp fun σ H R ⟨ds, M, F, ev, ok, h, af⟩ =>
  ⟨ds, M, _, ev, ok, h, fun xs M1 h1 vs H1 ok1 dts l1 => by
    split at h1
    · next n m =>
      cases dts with
      | cons d1 d2 =>
        cases d2 with
        | cons d2 d3 =>
          cases d3
          cases d1
          cases d2
          exact ⟨n, m, rfl, ⟨by omega, by omega, by omega, by omega⟩, af _ M1 h1.2 H1 _ ok1 l1 walks_r⟩
    · exact h1.elim⟩
theorem di_enum (hg : Gl X "enumerate") (hm : X.mg "enumerate" = none) (ha : DA X [e] U) (hs : starEach [e] X.env = [(false, eval e X.env)] := by rfl) : DI X (.Tuple elts kk tpos) (.Call (.Name "enumerate" p) [e] [] pos) (enumI U) := (pi_enum hg hm ha hs).fimp fun σ H R ⟨ds, M, F, ev, ok, h, af⟩ =>
  ⟨ds, M, _, ev, ok, h, fun xs M1 h1 vs H1 ok1 dts l1 => by
    split at h1
    · cases dts with
      | cons d1 d2 =>
        cases d2
        cases d1 with
        | lst q dd => exact ⟨_, _, rfl, .inl (.inl (hid_sub _ _ q)), af _ M1 h1 H1 _ ok1 l1 (walks_e (.inl (.inl q)) dd)⟩
    · cases dts with
      | cons d1 d2 =>
        cases d2
        cases d1 with
        | slst q dd => exact ⟨_, _, rfl, Same.seq hid_sub q, af _ M1 h1 H1 _ ok1 l1 (walks_e q dd)⟩
    · exact h1.elim⟩
theorem di_zip (hg : Gl X "zip") (hm : X.mg "zip" = none) (ha : DA X [e, e2] U) (hs : starEach [e, e2] X.env = (false, eval e X.env) :: starEach [e2] X.env := by rfl) (hpl : (backTo pos (starEach [e2] X.env)).any (·.1) = false := by rfl) :
    DI X (.Tuple elts kk tpos) (.Call (.Name "zip" p) [e, e2] [] pos) (zipI U) := (pi_zip hg hm ha hs hpl).fimp fun σ H R ⟨ds, M, F, ev, ok, h, af⟩ =>
  ⟨ds, M, _, ev, ok, h, fun xs M1 h1 vs H1 ok1 dts l1 => by
    split at h1
    · cases dts with
      | cons d1 d2 =>
        cases d2 with
        | cons d2 d3 =>
          cases d3
          cases d1 with
          | lst q dd =>
            cases d2 with
            | lst q' dd' => exact ⟨_, _, _, _, rfl, .inl (.inl (hid_sub _ _ q)), .inl (.inl (hid_sub _ _ q')), af _ M1 h1 H1 _ ok1 l1 (walks_z (.inl (.inl q)) dd (.inl (.inl q')) dd')⟩
    · exact h1.elim⟩
end

/-! list comprehensions -/
def wipeD (ds : Ds) : List Nat → Ds
  | [] => ds
  | v :: vs => (wipeD ds vs).set v none
def yesD : TTd := fun _ M F => F true M
def lcD (T : TId) (t : Tg) (C : TTd) (E : TEd) (vs : List Nat) : TEd := fun ds M F => T ds M fun xs M1 => ∀ L, M1 L = none → ∃ W : Nat → List D → Mp → Prop, W 0 [] (updM M1 L (.lst [])) ∧
  (∀ i d acc M', xs[i]? = some d → W i acc M' → acc.length < 1000000 ∧ gD t d (wipeD ds vs) fun ds2 => C ds2 M' fun b M2 => br b
    (E ds2 M2 fun y M3 => M3 L = some (.lst acc) ∧ W (i + 1) (acc ++ [y]) (updM M3 L (.lst (acc ++ [y]))))
    (W (i + 1) acc M2)) ∧ ∀ acc M', W xs.length acc M' → M' L = some (.lst acc) ∧ F (.lst acc) (delM M' L)
theorem env_wipe {K : PySem.W.Frag} {M : Mp} {H : Hp} {σ : L2.St} {ds : Ds} (h : Env K M H σ ds) : ∀ vs : List Nat, Env K M H (wipe σ vs) (wipeD ds vs)
  | [] => h
  | v :: vs => by
    have ih := env_wipe h vs
    unfold wipe wipeD
    refine ⟨by rw [List.length_set, List.length_set]; exact ih.1, fun j u hj => ?_⟩
    rw [List.getElem?_set] at hj
    rw [List.getElem?_set]
    by_cases q : v = j
    · rw [if_pos q] at hj
      split at hj <;> cases hj
    · rw [if_neg q] at hj
      rw [if_neg q]
      exact ih.2 j u hj
abbrev DTs (X : Cx) (ifs : List Expr) (C : TTd) : Prop := PTs X ifs (embT X.K C)
theorem dts_nil {X : Cx} : DTs X [] yesD := ⟨fun pins s σ H Q I ⟨ds, M, F, ev, ok, h, af⟩ => pts_nil.run pins s σ H Q I (af _ _ h _ ok (Lat.refl _ _))⟩
theorem dts_one {X : Cx} {c : Expr} {C : TTd} (h : DT X c C) : DTs X [c] C := pts_one h

theorem emb_lc {K : PySem.W.Frag} {T : TId} {t : Tg} {C : TTd} {E : TEd} {vs : List Nat} (hv : ∀ j ∈ slots t, j ∈ vs) : ∀ σ H Q, emb K (lcD T t C E vs) σ H Q → tLc (embI K T) (gV K t) (embT K C) (emb K E) vs σ H Q := fun σ H Q ⟨ds, M, F, ev, ok, h, af⟩ =>
  ⟨ds, M, _, ev, ok, h, fun xs M1 h1 H1 J ok1 l1 wk L hL => by
    obtain ⟨W, w0, wt, wd⟩ := h1 L (ok1.free hL)
    obtain ⟨ok2, l2⟩ := ok1.put (p := L) (o := .lst []) (m := .lst []) (.inr hL) ⟨[], upd_same, .nil⟩
    refine ⟨fun i m H' => m = xs.length - i ∧ i ≤ xs.length ∧ ∃ acc M', W i acc M' ∧ HpOk K M' H' ∧ Lat M1 H1 M' H', ⟨xs.length, by simp, Nat.zero_le _, [], _, w0, ok2, l2⟩, fun i m H' ⟨em, hi, acc, M', w', ok', l'⟩ => ?_⟩
    obtain ⟨wgo, wstop⟩ := wk i M' H' ok' l'
    by_cases hlt : i < xs.length
    · obtain ⟨go, yl⟩ := wgo xs[i] (by simp [hlt])
      obtain ⟨hz, wt'⟩ := wt i xs[i] acc M' (by simp [hlt]) w'
      refine .inr ⟨go, fun H2 => ∃ acc2 M2, W (i + 1) acc2 M2 ∧ HpOk K M2 H2 ∧ Lat M1 H1 M2 H2, fun H2 ⟨acc2, M2, w2, ok2, l2⟩ => ⟨xs.length - (i + 1), by omega, rfl, hlt, acc2, M2, w2, ok2, l2⟩, fun x H2 y => ?_⟩
      obtain ⟨dt, ok3, l3⟩ := yl x H2 y
      have lt : Lat M1 H1 M' H2 := l'.trans l3
      refine gD_ok t dt (env_wipe (ev.mono (l1.trans lt)) vs) wt' fun ds3 σ3 f3 ev3 hw => ⟨?_, ds3, M', _, ev3, ok3, f3, fun b M3 h3 H3 ok4 l4 => ?_⟩
      · rw [hw vs hv]
        clear hw f3 ev3 dt y yl
        have : ∀ ws : List Nat, (∀ j ∈ ws, j ∈ vs) → wipe (wipe σ vs) ws = wipe σ vs := by
          intro ws
          induction ws with
          | nil => intro _; rfl
          | cons w ws ih =>
            intro hsub
            show (wipe (wipe σ vs) ws).set w none = wipe σ vs
            rw [ih fun j hj => hsub j (List.mem_cons_of_mem _ hj)]
            have hwm := hsub w List.mem_cons_self
            have key : ∀ us : List Nat, w ∈ us → (wipe σ us).set w none = wipe σ us := by
              intro us
              induction us with
              | nil => intro z; cases z
              | cons u us ih2 =>
                intro hu
                unfold wipe
                by_cases e : w = u
                · subst e
                  rw [List.set_set]
                · rw [List.set_comm _ _ (Ne.symm e), ih2 ((List.mem_cons.mp hu).resolve_left e)]
            exact key vs hwm
        exact this vs fun _ z => z
      · cases b with
        | true =>
          refine iteT ⟨ds3, M3, _, ev3.mono l4, ok4, h3, fun y M4 ⟨eL, w4⟩ v H4 ok5 dt5 l5 => ?_⟩
          obtain ⟨av, e1, e2⟩ := ok5 _ _ eL
          obtain ⟨ok6, l6⟩ := ok5.put (p := L) (o := .lst (av ++ [v])) (m := .lst (acc ++ [y])) (.inl (by rw [eL]; simp)) ⟨av ++ [v], upd_same, by
            have q : Same (hid M4 H4) (hid (updM M4 L (.lst (acc ++ [y]))) (upd H4 L (.lst (av ++ [v])))) := fun b o hb => by
              obtain ⟨n, e⟩ := hid_some hb
              have nb : b ≠ L := fun z => by rw [z, eL] at n; cases n
              rw [hid_of (by rw [updM_ne nb]; exact n), upd_ne nb]
              exact e
            exact (e2.append (.cons dt5 .nil)).mono q⟩
          exact ⟨av, e1, by rw [e2.length]; exact big_lt hz, _, _, w4, ok6, ((lt.trans l4).trans l5).trans l6⟩
        | false => exact iteF ⟨acc, M3, h3, ok4, lt.trans l4⟩
    · have e : i = xs.length := by omega
      subst e
      obtain ⟨eL, f⟩ := wd _ _ w'
      obtain ⟨av, e1, e2⟩ := ok' _ _ eL
      obtain ⟨ok3, l3⟩ := ok'.frz L
      refine .inl ⟨wstop rfl, af _ _ f _ _ ok3 (.lst ?_ (e2.mono l3.same)) ((l1.trans l').trans l3)⟩
      rw [hid_of delM_same]
      exact e1⟩
section
variable {X : Cx} {elt tg iter : Expr} {ifs : List Expr} {scope : Scope} {own : List (Str × Nat)} {pos : Pos} {T : TId} {t : Tg} {C : TTd} {E : TEd}
theorem de_lc (vs : List Nat) (hc : X.calm = true) (hN : X.N.Nodup) (hi : DI X tg iter T) (ok : BlkOk X.N X.env.scope scope own) (hv : ∀ j ∈ slots t, j ∈ own.map (·.2))
    (hg : ∀ (s : Shared) (H : Hp) (Ca : Addr) (cl : List (Str × Addr)) (fp : List Addr), PG (X.blk s H scope (compEnvC scope cl Ca X.env) fp) tg (gV X.K t)) (ht : ∀ (s : Shared) (H : Hp) (Ca : Addr) (cl : List (Str × Addr)) (fp : List Addr), DTs (X.blk s H scope (compEnvC scope cl Ca X.env) fp) ifs C)
    (he : ∀ (s : Shared) (H : Hp) (Ca : Addr) (cl : List (Str × Addr)) (fp : List Addr), DE (X.blk s H scope (compEnvC scope cl Ca X.env) fp) elt E) (hs : ∀ x, foldedSetIterable iter X.env x = pure x := by intro _; rfl) (hvs : own.map (·.2) = vs := by rfl) :
    DE X (.ListComp elt [⟨tg, iter, ifs, 0⟩] scope pos) (lcD T t C E vs) := by
  subst hvs
  exact (pe_lc hc hN hi ok hg ht he hs).fimp (emb_lc hv)
theorem ds_setLc {y : Str} {py spos : Pos} (vs : List Nat) (i : Nat) (hc : X.calm = true) (hN : X.N.Nodup) (hi : DI X tg iter T) (ok : BlkOk X.N X.env.scope scope own) (hv : ∀ j ∈ slots t, j ∈ own.map (·.2))
    (hg : ∀ (s : Shared) (H : Hp) (Ca : Addr) (cl : List (Str × Addr)) (fp : List Addr), PG (X.blk s H scope (compEnvC scope cl Ca X.env) fp) tg (gV X.K t)) (ht : ∀ (s : Shared) (H : Hp) (Ca : Addr) (cl : List (Str × Addr)) (fp : List Addr), DTs (X.blk s H scope (compEnvC scope cl Ca X.env) fp) ifs C)
    (he : ∀ (s : Shared) (H : Hp) (Ca : Addr) (cl : List (Str × Addr)) (fp : List Addr), DE (X.blk s H scope (compEnvC scope cl Ca X.env) fp) elt E) (hsw : swapsWith (.ListComp elt [⟨tg, iter, ifs, 0⟩] scope pos) (some (.Name y py)) spos.line X.env = pure true) (hy : X.N[i]? = some y := by rfl) (hyl : X.env.scope.names.lookup y = some .local := by rfl)
    (hs : ∀ x, foldedSetIterable iter X.env x = pure x := by intro _; rfl) (hvs : own.map (·.2) = vs := by rfl) :
    DS X (.Assign [.Name y py] (.ListComp elt [⟨tg, iter, ifs, 0⟩] scope pos) spos) (asgD (lcD T t C E vs) (.nm i)) := by
  subst hvs
  exact (ps_setLc hc hN hy hyl hsw hi ok hg ht he hs).fimp fun Z σ H ⟨ds, M, B, ev, ok, h, a⟩ => emb_lc hv σ H _ ⟨ds, M, _, ev, ok, h, fun d M1 h1 v H1 ok1 dt l1 => a.nx _ _ h1 _ _ ((ev.mono l1).set i dt) ok1 l1⟩
end
mutual
theorem gD_mono : ∀ (t : Tg) {d : D} {ds : Ds} {F F' : Ds → Prop}, (∀ x, F x → F' x) → gD t d ds F → gD t d ds F'
  | .nm j, d, ds, F, F', h, g => by
    unfold gD at g ⊢
    exact h _ g
  | .tp ts, .tup xs, ds, F, F', h, g => by
    unfold gD at g ⊢
    exact gsD_mono ts h g
  | .tp ts, .non, ds, F, F', h, g => by unfold gD at g; exact g.elim
  | .tp ts, .bl _, ds, F, F', h, g => by unfold gD at g; exact g.elim
  | .tp ts, .int _, ds, F, F', h, g => by unfold gD at g; exact g.elim
  | .tp ts, .str _, ds, F, F', h, g => by unfold gD at g; exact g.elim
  | .tp ts, .lst _, ds, F, F', h, g => by unfold gD at g; exact g.elim
  | .tp ts, .slst _, ds, F, F', h, g => by unfold gD at g; exact g.elim
  | .tp ts, .dic _, ds, F, F', h, g => by unfold gD at g; exact g.elim
  | .tp ts, .ref _, ds, F, F', h, g => by unfold gD at g; exact g.elim
  | .tp ts, .ty _, ds, F, F', h, g => by unfold gD at g; exact g.elim
theorem gsD_mono : ∀ (ts : List Tg) {xs : List D} {ds : Ds} {F F' : Ds → Prop}, (∀ x, F x → F' x) → gsD ts xs ds F → gsD ts xs ds F'
  | [], [], ds, F, F', h, g => by
    unfold gsD at g ⊢
    exact h _ g
  | [], _ :: _, _, _, _, _, g => by unfold gsD at g; exact g.elim
  | _ :: _, [], _, _, _, _, g => by unfold gsD at g; exact g.elim
  | t :: ts, x :: xs, ds, F, F', h, g => by
    unfold gsD at g ⊢
    exact gD_mono t (fun ds1 g1 => gsD_mono ts h g1) g
end
/-- where neither the test nor the element changes anything -/
theorem lc_pure {T : TId} {t : Tg} {C : TTd} {E : TEd} {vs : List Nat} {ds : Ds} {M : Mp} {F : DK} {xs : List D} (keep : D → Bool) (v : D → D) (hl : xs.length ≤ 1000000) (hT : ∀ G : List D → Mp → Prop, G xs M → T ds M G)
    (he : ∀ d ∈ xs, gD t d (wipeD ds vs) fun ds2 => (∀ M' (G : Bool → Mp → Prop), G (keep d) M' → C ds2 M' G) ∧ (keep d = true → ∀ M' (G : DK), G (v d) M' → E ds2 M' G))
    (hF : F (.lst ((xs.filter keep).map v)) M) : lcD T t C E vs ds M F := by
  refine hT _ fun L hL => ⟨fun i acc M' => acc = ((xs.take i).filter keep).map v ∧ M' = updM M L (.lst acc), ⟨rfl, rfl⟩, fun i d acc M' hd ⟨e1, e2⟩ => ?_, fun acc M' ⟨e1, e2⟩ => ?_⟩
  · have hi : i < xs.length := (List.getElem?_eq_some_iff.mp hd).1
    have hlen : acc.length < 1000000 := by
      rw [e1, List.length_map]
      have h1 := List.length_filter_le keep (xs.take i)
      have h2 : (xs.take i).length ≤ i := by rw [List.length_take]; exact Nat.min_le_left _ _
      omega
    refine ⟨hlen, gD_mono t (fun ds2 ⟨hc, hE⟩ => hc M' _ ?_) (he d (List.mem_of_getElem? hd))⟩
    have et : xs.take (i + 1) = xs.take i ++ [d] := by rw [List.take_add_one, hd]; rfl
    cases hk : keep d with
    | true =>
      refine hE hk M' _ ⟨by rw [e2]; exact updM_same, ?_, ?_⟩
      · rw [et, List.filter_append, List.map_append, ← e1, List.filter_cons, if_pos hk]
        rfl
      · rw [e2]
        funext b
        unfold updM
        split <;> rfl
    | false =>
      refine ⟨?_, e2⟩
      rw [et, List.filter_append, List.map_append, ← e1, List.filter_cons, if_neg (by rw [hk]; decide)]
      show _ = _ ++ []
      rw [List.append_nil]
  · rw [List.take_length] at e1
    refine ⟨by rw [e2]; exact updM_same, ?_⟩
    have em : delM M' L = M := by
      rw [e2]
      funext b
      unfold delM updM
      by_cases z : b = L
      · rw [if_pos z, z, hL]
      · rw [if_neg z, if_neg z]
    rw [em, e1]
    exact hF
end Fx

namespace Fx
open PySem PySem.Spec PyProof.Rows L2

/-! dicts by keys -/
def valD (kvs : List (Key × D)) (k : Key) : Option D := (kvs.find? fun kv => decide (kv.1 = k)).map (·.2)
def putD (kvs : List (Key × D)) (k : Key) (v : D) : List (Key × D) :=
  if (kvs.any fun kv => decide (kv.1 = k)) = true then kvs.map (fun kv => if kv.1 = k then (kv.1, v) else kv) else kvs ++ [(k, v)]
section
variable {K : PySem.W.Frag} {G : Hp}
theorem Dtk.val : ∀ {xs : List (Key × V)} {ds : List (Key × D)} {k : Key} {d : D}, Dtk K G xs ds → valD ds k = some d → ∃ v, valV xs k = some v ∧ Dt K G v d
  | _, _, _, _, .nil, e => by simp [valD] at e
  | _, _, k, d, .cons (k := k') (v := v) (d := d') h1 h2, e => by
    unfold valD at e
    unfold valV
    rw [List.find?_cons] at e ⊢
    by_cases q : k' = k
    · simp only [q, decide_true] at e ⊢
      cases e
      exact ⟨v, rfl, h1⟩
    · simp only [q, decide_false] at e ⊢
      exact Dtk.val h2 e
theorem Dtk.any : ∀ {xs : List (Key × V)} {ds : List (Key × D)} {k : Key}, Dtk K G xs ds → (xs.any fun kv => decide (kv.1 = k)) = (ds.any fun kv => decide (kv.1 = k))
  | _, _, _, .nil => rfl
  | _, _, k, .cons h1 h2 => by
    rw [List.any_cons, List.any_cons, Dtk.any h2]
theorem Dtk.map : ∀ {xs : List (Key × V)} {ds : List (Key × D)} {k : Key} {v : V} {d : D}, Dtk K G xs ds → Dt K G v d → Dtk K G (xs.map fun kv => if kv.1 = k then (kv.1, v) else kv) (ds.map fun kv => if kv.1 = k then (kv.1, d) else kv)
  | _, _, _, _, _, .nil, _ => .nil
  | _, _, k, v, d, .cons (k := k') h1 h2, h => by
    rw [List.map_cons, List.map_cons]
    by_cases q : k' = k
    · simp only [q, if_true]
      exact .cons h (Dtk.map h2 h)
    · simp only [q, if_false]
      exact .cons h1 (Dtk.map h2 h)
theorem Dtk.append : ∀ {xs ys : List (Key × V)} {ds es : List (Key × D)}, Dtk K G xs ds → Dtk K G ys es → Dtk K G (xs ++ ys) (ds ++ es)
  | _, _, _, _, .nil, h => h
  | _, _, _, _, .cons h1 h2, h => .cons h1 (Dtk.append h2 h)
theorem Dtk.put {xs : List (Key × V)} {ds : List (Key × D)} {k : Key} {v : V} {d : D} (h : Dtk K G xs ds) (e : Dt K G v d) : Dtk K G (putK xs k v) (putD ds k d) := by
  unfold putK putD
  rw [h.any]
  split
  · exact h.map e
  · exact h.append (.cons e .nil)
theorem Dtk.length : ∀ {xs : List (Key × V)} {ds : List (Key × D)}, Dtk K G xs ds → xs.length = ds.length
  | _, _, .nil => rfl
  | _, _, .cons _ h2 => by rw [List.length_cons, List.length_cons, h2.length]
end

/-! e[i] -/
def atD (xs : List D) (i : Int) (F : D → Prop) : Prop := match atI xs i with
  | some d => F d
  | none => False
def keyD (kvs : List (Key × D)) (k : Key) (F : D → Prop) : Prop := match valD kvs k with
  | some d => F d
  | none => False
def ixR : R2d
  | .lst xs, .int i, M, F => atD xs i fun d => F d M
  | .tup xs, .int i, M, F => atD xs i fun d => F d M
  | .str z, .int i, M, F => z.length ≤ 1000000 ∧ match atI z.cps.toList i with
    | some c => F (.str ⟨#[c]⟩) M
    | none => False
  | .ref a, .int i, M, F => match M a with
    | some (.lst xs) => atD xs i fun d => F d M
    | _ => False
  | .ref a, .str k, M, F => match M a with
    | some (.dic kvs) => keyD kvs (.inr k) fun d => F d M
    | _ => False
  | _, _, _, _ => False
theorem Dts.atI {K : PySem.W.Frag} {G : Hp} {vs : List V} {ds : List D} {i : Int} {d : D} (h : Dts K G vs ds) (e : atI ds i = some d) : ∃ v, L2.atI vs i = some v ∧ Dt K G v d := by
  unfold L2.atI at e ⊢
  rw [h.length]
  cases q : ixN ds.length i with
  | none => rw [q] at e; cases e
  | some j =>
    rw [q] at e
    exact h.get e
section
variable {X : Cx}
theorem ix_dict (hu : X.A.units + 1 < cLine) : IxR X (fun x y H Q => ∃ a v, x = .ref a ∧ DGet H a y (some v) ∧ Q v H) := by
  intro value slice pins s σ H x y v u Q I rx ry h hs
  obtain ⟨a, z, rfl, g, q⟩ := h
  cases rx
  exact tail_any (dict_typeIs I g) PySem.F.slot_dict_getitem.lookup (d_getItem hu I g ry fun w' s3 I3 r3 => ⟨z, H, I3, r3, q⟩) hs
theorem or_ix (hu : X.A.units + 1 < cLine) : IxR X (up2 X.K ixR) := by
  intro value slice pins s σ H x y v u Q I rx ry h hs
  obtain ⟨a, b, M, F, da, db, ok, h, af⟩ := h
  cases da <;> cases db <;> first | exact h.elim | skip
  · next z i =>
    obtain ⟨hz, h⟩ := h
    split at h
    · next c e => exact ix_str value slice pins s σ H _ _ v u Q I rx ry ⟨z, i, c, rfl, rfl, big_le hz, e, af _ _ h _ _ ok (.str _) (Lat.refl _ _)⟩ hs
    · exact h.elim
  · next h1 d1 i =>
    replace h : atD _ _ _ := h
    unfold atD at h
    split at h
    · next e =>
      obtain ⟨w, e1, e2⟩ := d1.atI e
      exact ix_list value slice pins s σ H _ _ v u Q I rx ry ⟨_, _, _, w, rfl, rfl, .inl (.inl (hid_sub _ _ h1)), e1, af _ _ h _ _ ok e2 (Lat.refl _ _)⟩ hs
    · exact h.elim
  · next h1 d1 i =>
    replace h : atD _ _ _ := h
    unfold atD at h
    split at h
    · next e =>
      obtain ⟨w, e1, e2⟩ := d1.atI e
      exact ix_tup value slice pins s σ H _ _ v u Q I rx ry ⟨_, _, _, w, rfl, rfl, sqT_same hid_sub h1, e1, af _ _ h _ _ ok e2 (Lat.refl _ _)⟩ hs
    · exact h.elim
  · next a i =>
    simp only [ixR] at h
    split at h
    · next e =>
      obtain ⟨ys, e1, d1⟩ := ok _ _ e
      unfold atD at h
      split at h
      · next e3 =>
        obtain ⟨w, e4, e5⟩ := d1.atI e3
        exact ix_list value slice pins s σ H _ _ v u Q I rx ry ⟨_, _, _, w, rfl, rfl, .inl (.inl e1), e4, af _ _ h _ _ ok e5 (Lat.refl _ _)⟩ hs
      · exact h.elim
    · exact h.elim
  · next a k =>
    simp only [ixR] at h
    split at h
    · next e =>
      obtain ⟨ys, e1, d1⟩ := ok _ _ e
      unfold keyD at h
      split at h
      · next e3 =>
        obtain ⟨w, e4, e5⟩ := d1.val e3
        exact ix_dict hu value slice pins s σ H _ _ v u Q I rx ry ⟨a, w, rfl, by
          have g := DGet.k (k := .inr k) e1
          rw [e4] at g
          exact g, af _ _ h _ _ ok e5 (Lat.refl _ _)⟩ hs
      · exact h.elim
    · exact h.elim
end

/-! slices -/
def cutL {α : Type} (xs : List α) (lo hi : Option Int) : List α := (xs.drop (HT.sIx xs.length 0 lo)).take (HT.sIx xs.length xs.length hi - HT.sIx xs.length 0 lo)
theorem Dts.cut {K : PySem.W.Frag} {G : Hp} {vs : List V} {ds : List D} (lo hi : Option Int) (h : Dts K G vs ds) : Dts K G (cutV vs lo hi) (cutL ds lo hi) := by
  unfold cutV cutL
  rw [h.length]
  exact (h.drop _).take _
abbrev TOd := Ds → Mp → (Option Int → Mp → Prop) → Prop
def noO : TOd := fun _ M F => F none M
def someO (T : TEd) : TOd := fun ds M F => T ds M fun d M1 => match d with
  | .int i => F (some i) M1
  | _ => False
def slR : D → Option Int → Option Int → Mp → DK → Prop
  | .lst xs, lo, hi, M, F => F (.lst (cutL xs lo hi)) M
  | .slst xs, lo, hi, M, F => F (.lst (cutL xs lo hi)) M
  | .tup xs, lo, hi, M, F => F (.tup (cutL xs lo hi)) M
  | .str z, lo, hi, M, F => z.length ≤ 1000000 ∧ F (.str (cutS z lo hi)) M
  | _, _, _, _, _ => False
def sliD (T : TEd) (A B : TOd) : TEd := fun ds M F => T ds M fun d M1 => A ds M1 fun lo M2 => B ds M2 fun hi M3 => slR d lo hi M3 F
def embO (K : PySem.W.Frag) (T : TOd) : TO := fun σ H Q => ∃ ds M F, Env K M H σ ds ∧ HpOk K M H ∧ T ds M F ∧ ∀ b M', F b M' → ∀ H', HpOk K M' H' → Lat M H M' H' → Q b H'
abbrev DO (X : Cx) (e : Option Expr) (T : TOd) : Prop := PO X e (embO X.K T)
section
variable {X : Cx} {e : Expr} {lo hi : Option Expr} {T : TEd} {A B : TOd} {p2 pos : Pos}
theorem do_none : DO X none noO := ⟨fun pins s σ H Q I ⟨ds, M, F, ev, ok, h, af⟩ => po_none.run pins s σ H Q I (af _ _ h _ ok (Lat.refl _ _))⟩
theorem do_some (h : DE X e T) : DO X (some e) (someO T) := ⟨fun pins s σ H Q I ⟨ds, M, F, ev, ok, hh, af⟩ => (po_some h).run pins s σ H Q I ⟨ds, M, _, ev, ok, hh, fun d M1 h1 v H1 ok1 dt l1 => by
  cases dt with
  | int i => exact ⟨i, rfl, af _ _ h1 _ ok1 l1⟩
  | _ => exact h1.elim⟩⟩
theorem cut_all {α : Type} {xs : List α} {lo hi : Option Int} (h1 : HT.sIx xs.length 0 lo = 0) (h2 : HT.sIx xs.length xs.length hi = xs.length) : cutL xs lo hi = xs := by
  unfold cutL
  rw [h1, h2]
  simp
def rSl (K : PySem.W.Frag) : V → Option Int → Option Int → Hp → VK → Prop := fun x lo hi H Q => ∃ d M F, Dt K (hid M H) x d ∧ HpOk K M H ∧ slR d lo hi M F ∧ AftE K M H F Q
theorem sl_d : SlR X (rSl X.K) := by
  intro pins s σ H x v vl vu lo hi sl Q I rx hs pl pu h
  obtain ⟨d, M, F, dt, ok, h, af⟩ := h
  cases dt with
  | lst h1 d1 => exact sl_list pins s σ H _ v vl vu lo hi sl Q I rx hs pl pu ⟨_, _, rfl, .inl (.inl (hid_sub _ _ h1)), af.layL ok (d1.cut lo hi) h⟩
  | slst h1 d1 => exact sl_list pins s σ H _ v vl vu lo hi sl Q I rx hs pl pu ⟨_, _, rfl, Same.seq hid_sub h1, af.layL ok (d1.cut lo hi) h⟩
  | tup h1 d1 =>
    refine sl_tupA pins s σ H _ v vl vu lo hi sl Q I rx hs pl pu ⟨_, _, rfl, sqT_same hid_sub h1, fun ⟨z1, z2⟩ => ?_, fun _ => af.layT ok (d1.cut lo hi) h⟩
    rw [d1.length] at z1 z2
    have h2 := h
    simp only [slR] at h2
    rw [cut_all z1 z2] at h2
    exact af _ _ h2 _ _ ok (.tup h1 d1) (Lat.refl _ _)
  | str z => exact sl_str pins s σ H _ v vl vu lo hi sl Q I rx hs pl pu ⟨z, rfl, big_le h.1, af _ _ h.2 _ _ ok (.str _) (Lat.refl _ _)⟩
  | _ => exact h.elim
theorem de_sli (he : DE X e T) (ha : DO X lo A) (hb : DO X hi B) : DE X (.Subscript e (.Slice lo hi none p2) pos) (sliD T A B) := (pe_slice sl_d he ha hb).fimp fun σ H Q ⟨ds, M, F, ev, ok, h, af⟩ =>
  ⟨ds, M, _, ev, ok, h, fun d M1 h1 v H1 ok1 dt l1 => ⟨ds, M1, _, ev.mono l1, ok1, h1, fun o M2 h2 H2 ok2 l2 => ⟨ds, M2, _, (ev.mono l1).mono l2, ok2, h2, fun o2 M3 h3 H3 ok3 l3 => ⟨d, M3, F, (dt.mono l2.same).mono l3.same, ok3, h3, af.later ((l1.trans l2).trans l3)⟩⟩⟩⟩
/-- e[::-1] -/
def revD (T : TEd) : TEd := fun ds M F => T ds M fun d M1 => match d with
  | .lst xs => F (.lst xs.reverse) M1
  | .slst xs => F (.lst xs.reverse) M1
  | _ => False
/-- the same, as a list that may change -/
def revM (T : TEd) : TEd := fun ds M F => T ds M fun d M1 => match d with
  | .lst xs => ∀ p, M1 p = none → F (.ref p) (updM M1 p (.lst xs.reverse))
  | _ => False
theorem de_rev {k : Nat} {p1 p2 p3 : Pos} (he : DE X e T) : DE X (.Subscript e (.Slice none none (some (.UnaryOp .USub (.Constant (.int 1) k p1) p2)) p3) pos) (revD T) := (pe_revL he).fimp fun σ H Q ⟨ds, M, F, ev, ok, h, af⟩ =>
  ⟨ds, M, _, ev, ok, h, fun d M1 h1 v H1 ok1 dt l1 => by
    cases dt with
    | lst q dd => exact ⟨_, _, rfl, .inl (.inl (hid_sub _ _ q)), (af.later l1).layL ok1 dd.rev h1⟩
    | slst q dd => exact ⟨_, _, rfl, Same.seq hid_sub q, (af.later l1).layL ok1 dd.rev h1⟩
    | _ => exact h1.elim⟩
theorem AftE.layM {K : PySem.W.Frag} {M : Mp} {H : Hp} {F : DK} {Q : VK} {vs : List V} {xs : List D} (a : AftE K M H F Q) (ok : HpOk K M H) (d : Dts K (hid M H) vs xs) (f : ∀ p, M p = none → F (.ref p) (updM M p (.lst xs))) : ∀ p, H p = none → Q (.ref p) (upd H p (.lst vs)) := fun p np => by
  have e : Same (hid M H) (hid (updM M p (.lst xs)) (upd H p (.lst vs))) := fun b o hb => by
    obtain ⟨n, e⟩ := hid_some hb
    have nb : b ≠ p := ne_of_none e np
    rw [hid_of (by rw [updM_ne nb]; exact n), upd_ne nb]
    exact e
  obtain ⟨ok2, l2⟩ := ok.put (p := p) (o := .lst vs) (m := .lst xs) (.inr np) ⟨vs, upd_same, d.mono e⟩
  exact a _ _ (f p (ok.free np)) _ _ ok2 (.ref p) l2
theorem de_revM {k : Nat} {p1 p2 p3 : Pos} (he : DE X e T) : DE X (.Subscript e (.Slice none none (some (.UnaryOp .USub (.Constant (.int 1) k p1) p2)) p3) pos) (revM T) := (pe_revL he).fimp fun σ H Q ⟨ds, M, F, ev, ok, h, af⟩ =>
  ⟨ds, M, _, ev, ok, h, fun d M1 h1 v H1 ok1 dt l1 => by
    cases dt with
    | lst q dd => exact ⟨_, _, rfl, .inl (.inl (hid_sub _ _ q)), (af.later l1).layM ok1 dd.rev h1⟩
    | _ => exact h1.elim⟩
end

/-! built-in calls -/
abbrev RB := List D → Mp → DK → Prop
def bltD (r : RB) (U : TAd) : TEd := fun ds M F => U ds M fun xs M1 => r xs M1 F
def upC (K : PySem.W.Frag) (r : RB) : List V → Hp → VK → Prop := fun vs H Q => ∃ xs M F, Dts K (hid M H) vs xs ∧ HpOk K M H ∧ r xs M F ∧ AftE K M H F Q
section
variable {X : Cx} {x : Str} {p pos : Pos} {e : Expr} {es : List Expr} {U : TAd} {r : RB} {id T : String}
theorem emb_blt {K : PySem.W.Frag} : ∀ σ H Q, emb K (bltD r U) σ H Q → tCB (upC K r) (embA K U) σ H Q := fun σ H Q ⟨ds, M, F, ev, ok, h, af⟩ =>
  ⟨ds, M, _, ev, ok, h, fun xs M1 h1 vs H1 ok1 dts l1 => ⟨xs, M1, F, dts, ok1, h1, af.later l1⟩⟩
theorem de_blt (hc : CallR X (.builtin id) (upC X.K r)) (hg : Gl X x) (hm : X.mg x = none) (hv : bootBuiltins x = some (.builtin id)) (ha : DA X (e :: es) U) (hn : x ≠ "__name__" := by decide) (hdb : (x == ("__debug__" : Str)) = false := by decide)
    (he : starEach (e :: es) X.env = (false, eval e X.env) :: starEach es X.env := by rfl) (hpl : (backTo pos (starEach es X.env)).any (·.1) = false := by rfl) : DE X (.Call (.Name x p) (e :: es) [] pos) (bltD r U) := (pe_callB hc hg hm hv ha hn hdb he hpl).fimp emb_blt
theorem de_bltTy (hc : CallR X (.type T) (upC X.K r)) (hg : Gl X x) (hm : X.mg x = none) (hv : bootBuiltins x = some (.type T)) (ha : DA X (e :: es) U) (hn : x ≠ "__name__" := by decide) (hdb : (x == ("__debug__" : Str)) = false := by decide)
    (he : starEach (e :: es) X.env = (false, eval e X.env) :: starEach es X.env := by rfl) (hpl : (backTo pos (starEach es X.env)).any (·.1) = false := by rfl) : DE X (.Call (.Name x p) (e :: es) [] pos) (bltD r U) := (pe_callTy hc hg hm hv ha hn hdb he hpl).fimp emb_blt
/-- a built-in class by its name -/
theorem de_ty {n : String} (hg : Gl X x) (hm : X.mg x = none) (hv : bootBuiltins x = some (.type n)) (hn : x ≠ "__name__" := by decide) (hdb : (x == ("__debug__" : Str)) = false := by decide) : DE X (.Name x pos) (cD (.ty n)) := (pe_bltn (v := .ty n) hg hm hv rfl hn hdb).fimp (emb_c fun _ => .ty n)
end
theorem one_of {K : PySem.W.Frag} {G : Hp} {vs : List V} {d : D} (h : Dts K G vs [d]) : ∃ v, vs = [v] ∧ Dt K G v d := by
  cases h with
  | cons h1 h2 => cases h2; exact ⟨_, rfl, h1⟩
theorem two_of {K : PySem.W.Frag} {G : Hp} {vs : List V} {d e : D} (h : Dts K G vs [d, e]) : ∃ v w, vs = [v, w] ∧ Dt K G v d ∧ Dt K G w e := by
  cases h with
  | cons h1 h2 =>
    obtain ⟨w, rfl, h3⟩ := one_of h2
    exact ⟨_, w, rfl, h1, h3⟩
def lenR : RB
  | [.lst xs], M, F => F (.int xs.length) M
  | [.slst xs], M, F => F (.int xs.length) M
  | [.tup xs], M, F => F (.int xs.length) M
  | [.str z], M, F => z.length ≤ 1000000 ∧ F (.int z.length) M
  | [.ref a], M, F => match M a with
    | some (.lst xs) => F (.int xs.length) M
    | _ => False
  | _, _, _ => False
inductive Ty6 where
  | str | tup | int | bool | lst | dict
def Ty6.name : Ty6 → String
  | .str => "str"
  | .tup => "tuple"
  | .int => "int"
  | .bool => "bool"
  | .lst => "list"
  | .dict => "dict"
def isT : Ty6 → D → Option Bool
  | c, .non => some false
  | c, .bl _ => some (match c with | .bool => true | .int => true | _ => false)
  | c, .int _ => some (match c with | .int => true | _ => false)
  | c, .str _ => some (match c with | .str => true | _ => false)
  | c, .tup _ => some (match c with | .tup => true | _ => false)
  | c, .lst _ => some (match c with | .lst => true | _ => false)
  | c, .dic _ => some (match c with | .dict => true | _ => false)
  | _, _ => none
def isiR (c : Ty6) : RB
  | [d, .ty _], M, F => match isT c d with
    | some b => F (.bl b) M
    | none => False
  | _, _, _ => False
def isBl : D → Bool
  | .bl _ => true
  | _ => false
def getBl : D → Bool
  | .bl b => b
  | _ => false
def allR : RB
  | [.lst xs], M, F => xs.all isBl = true ∧ F (.bl (xs.all getBl)) M
  | _, _, _ => False
def anyR : RB
  | [.lst xs], M, F => xs.all isBl = true ∧ F (.bl (xs.any getBl)) M
  | _, _, _ => False
def tupleR : RB
  | [.lst xs], M, F => F (.tup xs) M
  | [.slst xs], M, F => F (.tup xs) M
  | [.tup xs], M, F => F (.tup xs) M
  | [.ref a], M, F => match M a with
    | some (.lst xs) => F (.tup xs) M
    | _ => False
  | _, _, _ => False
def listR : RB
  | [.lst xs], M, F => F (.lst xs) M
  | [.slst xs], M, F => F (.lst xs) M
  | [.tup xs], M, F => F (.lst xs) M
  | [.ref a], M, F => match M a with
    | some (.lst xs) => F (.lst xs) M
    | _ => False
  | _, _, _ => False
def ordR : RB
  | [.str z], M, F => match z.cps.toList with
    | [c] => F (.int (c : Nat)) M
    | _ => False
  | _, _, _ => False
theorem bls_of {K : PySem.W.Frag} {G : Hp} : ∀ {vs : List V} {xs : List D}, Dts K G vs xs → xs.all isBl = true → vs = (xs.map getBl).map V.bl
  | _, _, .nil, _ => rfl
  | _, _, .cons h1 h2, h => by
    rw [List.all_cons, Bool.and_eq_true] at h
    rw [List.map_cons, List.map_cons, ← bls_of h2 h.2]
    cases h1 <;> first | rfl | (exact absurd h.1 (by simp [isBl]))
section
variable {X : Cx}
theorem cb_len : CallR X (.builtin "len") (upC X.K lenR) := by
  intro pins s σ H vs us Q I rv h
  obtain ⟨xs, M, F, dts, ok, h, af⟩ := h
  unfold lenR at h
  split at h
  · obtain ⟨v, rfl, dt⟩ := one_of dts
    cases dt with
    | lst q dd => exact call_len pins s σ H _ us Q I rv ⟨_, _, rfl, .inl ⟨_, .inl (.inl (hid_sub _ _ q)), rfl⟩, by rw [dd.length]; exact af _ _ h _ _ ok (.int _) (Lat.refl _ _)⟩
  · obtain ⟨v, rfl, dt⟩ := one_of dts
    cases dt with
    | slst q dd => exact call_len pins s σ H _ us Q I rv ⟨_, _, rfl, .inl ⟨_, Same.seq hid_sub q, rfl⟩, by rw [dd.length]; exact af _ _ h _ _ ok (.int _) (Lat.refl _ _)⟩
  · obtain ⟨v, rfl, dt⟩ := one_of dts
    cases dt with
    | tup q dd => exact call_len pins s σ H _ us Q I rv ⟨_, _, rfl, .inr ⟨_, sqT_same hid_sub q, rfl⟩, by rw [dd.length]; exact af _ _ h _ _ ok (.int _) (Lat.refl _ _)⟩
  · obtain ⟨v, rfl, dt⟩ := one_of dts
    cases dt
    exact call_len pins s σ H _ us Q I rv ⟨_, _, rfl, ⟨big_le h.1, rfl⟩, af _ _ h.2 _ _ ok (.int _) (Lat.refl _ _)⟩
  · split at h
    · next e =>
      obtain ⟨v, rfl, dt⟩ := one_of dts
      cases dt
      obtain ⟨ys, e1, d1⟩ := ok _ _ e
      exact call_len pins s σ H _ us Q I rv ⟨_, _, rfl, .inl ⟨_, .inl (.inl e1), rfl⟩, by rw [d1.length]; exact af _ _ h _ _ ok (.int _) (Lat.refl _ _)⟩
    · exact h.elim
  · exact h.elim
theorem tyx_t {K : PySem.W.Frag} {H : Hp} {a : Addr} {xs : List V} (h : SqT K H a xs) : TyX K H (.ref a) (.type "tuple") := by
  rcases h with (h | ⟨o, h⟩) | ⟨o, _, _, h, c, _⟩
  · exact .base (.tup h)
  · exact .fTuple h
  · exact .kTuple h c
theorem cb_isi (c : Ty6) : CallR X (.builtin "isinstance") (fun vs H Q => ∃ v d M F, vs = [v, .ty c.name] ∧ Dt X.K (hid M H) v d ∧ HpOk X.K M H ∧ (match isT c d with | some b => F (.bl b) M | none => False) ∧ AftE X.K M H F Q) := by
  intro pins s σ H vs us Q I rv h
  obtain ⟨v, d, M, F, rfl, dt, ok, h, af⟩ := h
  have key : ∀ (t : String) (b : Bool), TyX X.K H v (.type t) → kitB t c.name = some b → F (.bl b) M → wpAny (model X.prog X.w) X.A (call (.builtin "isinstance") us) (EP X pins σ Q) X.xe s := fun t b ty e f =>
    call_isi pins s σ H _ us Q I rv ⟨_, _, .type t, .type c.name, b, rfl, .ty _, ty, kit_ty e, af _ _ f _ _ ok (.bl b) (Lat.refl _ _)⟩
  cases dt with
  | non => exact key "NoneType" _ (.base .non) (by cases c <;> decide +kernel) h
  | bl b => cases c <;> exact key "bool" _ (.base (.bl b)) (by decide +kernel) h
  | int i => cases c <;> exact key "int" _ (.base (.int i)) (by decide +kernel) h
  | str z => cases c <;> exact key "str" _ (.base (.str z)) (by decide +kernel) h
  | tup q dd => cases c <;> exact key "tuple" _ (tyx_t (sqT_same hid_sub q)) (by decide +kernel) h
  | lst q dd => cases c <;> exact key "list" _ (.base (.lst (hid_sub _ _ q))) (by decide +kernel) h
  | dic q dd => cases c <;> exact key "dict" _ (.base (.dK (hid_sub _ _ q))) (by decide +kernel) h
  | _ => exact h.elim
end
end Fx

namespace Fx
open PySem PySem.Spec PyProof.Rows L2

def isiD (c : Ty6) (T : TEd) : TEd := fun ds M F => T ds M fun d M1 => match isT c d with
  | some b => F (.bl b) M1
  | none => False
section
variable {X : Cx} {x : Str} {p p2 pos : Pos} {e : Expr} {T : TEd}
theorem de_isi (c : Ty6) (hx : DE X e T) (hg : Gl X "isinstance") (hm : X.mg "isinstance" = none) (hg2 : Gl X x) (hm2 : X.mg x = none) (hv2 : bootBuiltins x = some (.type c.name)) (hn2 : x ≠ "__name__" := by decide) (hdb2 : (x == ("__debug__" : Str)) = false := by decide)
    (he : starEach [e, .Name x p2] X.env = (false, eval e X.env) :: starEach [.Name x p2] X.env := by rfl) (hpl : (backTo pos (starEach [.Name x p2] X.env)).any (·.1) = false := by rfl) (hs2 : starEach [.Name x p2] X.env = (false, eval (.Name x p2) X.env) :: starEach [] X.env := by rfl) :
    DE X (.Call (.Name "isinstance" p) [e, .Name x p2] [] pos) (isiD c T) := (pe_callB (cb_isi c) hg hm boot_isinstance (pa_cons hx (pa_cons (pe_bltn (v := .ty c.name) hg2 hm2 hv2 rfl hn2 hdb2) pa_nil hs2) he) (by decide) (by decide) he hpl).fimp fun σ H Q ⟨ds, M, F, ev, ok, h, af⟩ =>
  ⟨ds, M, _, ev, ok, h, fun d M1 h1 v H1 ok1 dt l1 => ⟨v, d, M1, F, rfl, dt, ok1, h1, af.later l1⟩⟩
theorem cb_all (hc : X.calm = true) : CallR X (.builtin "all") (upC X.K allR) := by
  intro pins s σ H vs us Q I rv h
  obtain ⟨xs, M, F, dts, ok, h, af⟩ := h
  unfold allR at h
  split at h
  · obtain ⟨v, rfl, dt⟩ := one_of dts
    cases dt with
    | lst q dd =>
      have e := bls_of dd h.1
      subst e
      refine cr_all hc pins s σ H _ us Q I rv ⟨_, _, rfl, .inl (.inl (hid_sub _ _ q)), af _ _ h.2 _ _ ok ?_ (Lat.refl _ _)⟩
      rw [List.all_map]
      exact .bl _
  · exact h.elim
theorem cb_any (hc : X.calm = true) : CallR X (.builtin "any") (upC X.K anyR) := by
  intro pins s σ H vs us Q I rv h
  obtain ⟨xs, M, F, dts, ok, h, af⟩ := h
  unfold anyR at h
  split at h
  · obtain ⟨v, rfl, dt⟩ := one_of dts
    cases dt with
    | lst q dd =>
      have e := bls_of dd h.1
      subst e
      refine cr_any hc pins s σ H _ us Q I rv ⟨_, _, rfl, .inl (.inl (hid_sub _ _ q)), af _ _ h.2 _ _ ok ?_ (Lat.refl _ _)⟩
      rw [List.any_map]
      exact .bl _
  · exact h.elim
theorem cb_tuple : CallR X (.type "tuple") (upC X.K tupleR) := by
  intro pins s σ H vs us Q I rv h
  obtain ⟨xs, M, F, dts, ok, h, af⟩ := h
  unfold tupleR at h
  split at h
  · obtain ⟨v, rfl, dt⟩ := one_of dts
    cases dt with
    | lst q dd => exact call_tuple_of pins s σ H _ us Q I rv ⟨_, _, rfl, .inl ⟨.inl (.inl (hid_sub _ _ q)), af.layT ok dd h⟩⟩
  · obtain ⟨v, rfl, dt⟩ := one_of dts
    cases dt with
    | slst q dd => exact call_tuple_of pins s σ H _ us Q I rv ⟨_, _, rfl, .inl ⟨Same.seq hid_sub q, af.layT ok dd h⟩⟩
  · obtain ⟨v, rfl, dt⟩ := one_of dts
    cases dt with
    | tup q dd => exact call_tuple_of pins s σ H _ us Q I rv ⟨_, _, rfl, .inr ⟨sqT_same hid_sub q, af _ _ h _ _ ok (.tup q dd) (Lat.refl _ _)⟩⟩
  · split at h
    · next e =>
      obtain ⟨v, rfl, dt⟩ := one_of dts
      cases dt
      obtain ⟨ys, e1, d1⟩ := ok _ _ e
      exact call_tuple_of pins s σ H _ us Q I rv ⟨_, _, rfl, .inl ⟨.inl (.inl e1), af.layT ok d1 h⟩⟩
    · exact h.elim
  · exact h.elim
theorem cb_list : CallR X (.type "list") (upC X.K listR) := by
  intro pins s σ H vs us Q I rv h
  obtain ⟨xs, M, F, dts, ok, h, af⟩ := h
  unfold listR at h
  split at h
  · obtain ⟨v, rfl, dt⟩ := one_of dts
    cases dt with
    | lst q dd => exact call_list_of pins s σ H _ us Q I rv ⟨_, _, rfl, .inl (.inl (.inl (hid_sub _ _ q))), af.layL ok dd h⟩
  · obtain ⟨v, rfl, dt⟩ := one_of dts
    cases dt with
    | slst q dd => exact call_list_of pins s σ H _ us Q I rv ⟨_, _, rfl, .inl (Same.seq hid_sub q), af.layL ok dd h⟩
  · obtain ⟨v, rfl, dt⟩ := one_of dts
    cases dt with
    | tup q dd => exact call_list_of pins s σ H _ us Q I rv ⟨_, _, rfl, .inr (sqT_same hid_sub q), af.layL ok dd h⟩
  · split at h
    · next e =>
      obtain ⟨v, rfl, dt⟩ := one_of dts
      cases dt
      obtain ⟨ys, e1, d1⟩ := ok _ _ e
      exact call_list_of pins s σ H _ us Q I rv ⟨_, _, rfl, .inl (.inl (.inl e1)), af.layL ok d1 h⟩
    · exact h.elim
  · exact h.elim
theorem cb_ord : CallR X (.builtin "ord") (upC X.K ordR) := by
  intro pins s σ H vs us Q I rv h
  obtain ⟨xs, M, F, dts, ok, h, af⟩ := h
  unfold ordR at h
  split at h
  · next z =>
    split at h
    · next c e =>
      obtain ⟨v, rfl, dt⟩ := one_of dts
      cases dt
      obtain ⟨⟨l⟩⟩ := z
      simp only at e
      subst e
      exact call_ord pins s σ H _ us Q I rv ⟨_, rfl, rfl, af _ _ h _ _ ok (.int _) (Lat.refl _ _)⟩
    · exact h.elim
  · exact h.elim
end

/-! repr -/
mutual
/-- no address within; texts and ints of a size -/
def shOk : D → Bool
  | .non => true
  | .bl _ => true
  | .int i => decide (i.natAbs.log2 < 1920)
  | .str x => x.cps.toList.all (fun c => decide (c < 1114112))
  | .tup ds => shOks ds
  | .lst ds => shOks ds
  | .slst ds => shOks ds
  | .dic kvs => shOkk kvs
  | .ref _ => false
  | .ty _ => false
def shOks : List D → Bool
  | [] => true
  | d :: ds => shOk d && shOks ds
def shOkk : List (Key × D) → Bool
  | [] => true
  | (.inl i, d) :: ds => decide (i.natAbs.log2 < 1920) && shOk d && shOkk ds
  | (.inr x, d) :: ds => x.cps.toList.all (fun c => decide (c < 1114112)) && shOk d && shOkk ds
end
mutual
/-- no less than the signs of its repr -/
def cst : D → Nat
  | .int _ => 2000
  | .str x => 10 * x.length + 4
  | .tup ds => csts ds + 3
  | .lst ds => csts ds + 3
  | .slst ds => csts ds + 3
  | .dic kvs => cstk kvs + 3
  | _ => 5
def csts : List D → Nat
  | [] => 0
  | d :: ds => cst d + 2 + csts ds
def cstk : List (Key × D) → Nat
  | [] => 0
  | (.inl _, d) :: ds => 2000 + 2 + cst d + 2 + cstk ds
  | (.inr x, d) :: ds => 10 * x.length + 4 + 2 + cst d + 2 + cstk ds
end
mutual
def dep : D → Nat
  | .tup ds => deps ds + 1
  | .lst ds => deps ds + 1
  | .slst ds => deps ds + 1
  | .dic kvs => depk kvs + 1
  | _ => 0
def deps : List D → Nat
  | [] => 0
  | d :: ds => max (dep d) (deps ds)
def depk : List (Key × D) → Nat
  | [] => 0
  | (_, d) :: ds => max (dep d) (depk ds)
end
def shw (d : D) : Str := (py d).shown
theorem tupleText_len (ts : List Str) : (tupleText ts).length ≤ piled ts + 3 := by
  have e3 : (((if ts.length == 1 then ",)" else ")" : String) : Str)).length ≤ 2 := by split <;> decide +kernel
  have e1 : ((("(" : String) : Str)).length = 1 := rfl
  unfold tupleText
  rw [strLen_append, strLen_append, e1]
  cases ts with
  | nil =>
    have : (Str.join ", " ([] : List Str)).length = 0 := rfl
    omega
  | cons t ts =>
    have := join_length_add (t :: ts) (by simp)
    omega
theorem dictText_len (ts : List Str) : (dictText ts).length ≤ piled ts + 3 := by
  have e1 : ((("{" : String) : Str)).length = 1 := rfl
  have e2 : ((("}" : String) : Str)).length = 1 := rfl
  unfold dictText
  rw [strLen_append, strLen_append, e1, e2]
  cases ts with
  | nil =>
    have : (Str.join ", " ([] : List Str)).length = 0 := rfl
    omega
  | cons t ts =>
    have := join_length_add (t :: ts) (by simp)
    omega
theorem listText_len (ts : List Str) : (listText ts).length ≤ piled ts + 3 := by
  have e2 : ((("]" : String) : Str)).length = 1 := rfl
  unfold listText
  rw [strLen_append, e2]
  cases ts with
  | nil =>
    have : (textFrom 0 "[" ([] : List Str)).length = 1 := rfl
    omega
  | cons t ts =>
    have e : textFrom 0 "[" (t :: ts) = textFrom 1 ((("[" : Str) ++ (if 0 > 0 then ", " else "" : String)) ++ t) ts := rfl
    have l : (((("[" : Str) ++ (if 0 > 0 then ", " else "" : String)) ++ t : Str)).length = 1 + t.length := by
      rw [strLen_append, strLen_append]
      rfl
    rw [e, textFrom_length_pos ts 1 _ (by decide), l, piled_cons]
    omega
theorem rlen (x : Str) (h : x.cps.toList.all (fun c => decide (c < 1114112)) = true) : (reprText x).length ≤ 10 * x.length + 4 := by
  have := StrLaws.reprText_len x fun c hc => by
    have q : c < 1114112 := by simpa using List.all_eq_true.mp h c hc
    exact Nat.lt_trans q (by decide)
  omega
theorem ilen {i : Int} (h : i.natAbs.log2 < 1920) : (Str.ofString (toString i)).length ≤ 2000 := by
  have e := int_text_length_le (k := 1920) (by decide) h
  rw [PySem.ofString_length]
  omega
mutual
theorem shw_len : ∀ d : D, shOk d = true → (py d).shown.length ≤ cst d
  | .non, _ => by simp only [py, PyData.shown, cst]; decide
  | .bl b, _ => by cases b <;> (simp only [py, PyData.shown, cst]; decide)
  | .int i, h => by
    simp only [py, PyData.shown, cst]
    exact ilen (by simpa [shOk] using h)
  | .str x, h => by
    simp only [py, PyData.shown, cst]
    exact rlen x (by simpa [shOk] using h)
  | .tup ds, h => by
    simp only [py, PyData.shown, cst]
    have h1 := tupleText_len (PyData.shownAll (pys ds))
    have h2 := shw_lens ds (by simpa [shOk] using h)
    omega
  | .lst ds, h => by
    simp only [py, PyData.shown, cst]
    have h1 := listText_len (PyData.shownAll (pys ds))
    have h2 := shw_lens ds (by simpa [shOk] using h)
    omega
  | .slst ds, h => by
    simp only [py, PyData.shown, cst]
    have h1 := listText_len (PyData.shownAll (pys ds))
    have h2 := shw_lens ds (by simpa [shOk] using h)
    omega
  | .dic kvs, h => by
    simp only [py, PyData.shown, cst]
    have h1 := dictText_len (PyData.shownKv (pyk kvs))
    have h2 := shw_lenk kvs (by simpa [shOk] using h)
    omega
  | .ref _, h => by simp [shOk] at h
  | .ty _, h => by simp [shOk] at h
theorem shw_lens : ∀ ds : List D, shOks ds = true → piled (PyData.shownAll (pys ds)) ≤ csts ds
  | [], _ => by simp only [pys, PyData.shownAll, csts, piled_nil]; exact Nat.le_refl _
  | d :: ds, h => by
    have h' : shOk d = true ∧ shOks ds = true := by simpa [shOks] using h
    simp only [pys, PyData.shownAll, csts, piled_cons]
    have h1 := shw_len d h'.1
    have h2 := shw_lens ds h'.2
    omega
theorem shw_lenk : ∀ ds : List (Key × D), shOkk ds = true → piled (PyData.shownKv (pyk ds)) ≤ cstk ds
  | [], _ => by simp only [pyk, PyData.shownKv, cstk, piled_nil]; exact Nat.le_refl _
  | (.inl i, d) :: ds, h => by
    have h' : (i.natAbs.log2 < 1920 ∧ shOk d = true) ∧ shOkk ds = true := by simpa [shOkk] using h
    simp only [pyk, PyData.shownKv, PyData.shown, cstk, piled_cons, strLen_append]
    have h0 := ilen h'.1.1
    have h1 := shw_len d h'.1.2
    have h2 := shw_lenk ds h'.2
    have e : (((": " : String) : Str)).length = 2 := rfl
    omega
  | (.inr x, d) :: ds, h => by
    have h' : (x.cps.toList.all (fun c => decide (c < 1114112)) = true ∧ shOk d = true) ∧ shOkk ds = true := by simpa [shOkk] using h
    simp only [pyk, PyData.shownKv, PyData.shown, cstk, piled_cons, strLen_append]
    have h0 := rlen x h'.1.1
    have h1 := shw_len d h'.1.2
    have h2 := shw_lenk ds h'.2
    have e : (((": " : String) : Str)).length = 2 := rfl
    omega
end
mutual
theorem dep_py : ∀ d : D, (py d).depth = dep d
  | .non => by simp only [py, PyData.depth, dep]
  | .bl b => by simp only [py, PyData.depth, dep]
  | .int i => by simp only [py, PyData.depth, dep]
  | .str x => by simp only [py, PyData.depth, dep]
  | .tup ds => by simp only [py, PyData.depth, dep, deps_py ds]
  | .lst ds => by simp only [py, PyData.depth, dep, deps_py ds]
  | .slst ds => by simp only [py, PyData.depth, dep, deps_py ds]
  | .dic ds => by simp only [py, PyData.depth, dep, depk_py ds]
  | .ref _ => by simp only [py, PyData.depth, dep]
  | .ty _ => by simp only [py, PyData.depth, dep]
theorem deps_py : ∀ ds : List D, PyData.depthAll (pys ds) = deps ds
  | [] => by simp only [pys, PyData.depthAll, deps]
  | d :: ds => by simp only [pys, PyData.depthAll, deps, dep_py d, deps_py ds]
theorem depk_py : ∀ ds : List (Key × D), PyData.depthKv (pyk ds) = depk ds
  | [] => by simp only [pyk, PyData.depthKv, depk]
  | (.inl i, d) :: ds => by simp only [pyk, PyData.depthKv, PyData.depth, depk, dep_py d, depk_py ds, Nat.zero_max]
  | (.inr i, d) :: ds => by simp only [pyk, PyData.depthKv, PyData.depth, depk, dep_py d, depk_py ds, Nat.zero_max]
end
section
variable {X : Cx} {pins : List (Addr × Obj)} {σ : L2.St} {H : Hp} {s : Shared} {M : Mp}
mutual
theorem dt_reads (I : Inv X pins σ H s) : ∀ (d : D) (v : V) (u : Value), Dt X.K (hid M H) v d → shOk d = true → RelV v u → ∃ as, Reads s.heap u (py d) as
  | .non, _, _, h, _, r => by cases h; cases r; exact ⟨_, Reads.none⟩
  | .bl b, _, _, h, _, r => by cases h; cases r; exact ⟨_, Reads.bool b⟩
  | .int i, _, _, h, _, r => by cases h; obtain ⟨t, rfl⟩ := r; exact ⟨_, Reads.int i t⟩
  | .str x, _, _, h, _, r => by cases h; obtain ⟨t, rfl⟩ := r; exact ⟨_, Reads.str x t⟩
  | .lst ds, _, _, h, k, r => by
    cases h with
    | lst hs ha =>
      cases r
      obtain ⟨its, rv, ⟨o, n, ho, hc, _, hd⟩, _⟩ := I.list (.inl (.inl (hid_sub _ _ hs)))
      obtain ⟨as, hr⟩ := dts_reads I ds _ its ha (by simpa [shOk] using k) rv
      rw [py]
      exact ⟨_, Reads.list ho hc hd hr⟩
  | .slst ds, _, _, h, k, r => by
    cases h with
    | slst hs ha =>
      cases r
      obtain ⟨its, rv, ⟨o, n, ho, hc, _, hd⟩, _⟩ := I.list (Same.seq hid_sub hs)
      obtain ⟨as, hr⟩ := dts_reads I ds _ its ha (by simpa [shOk] using k) rv
      rw [py]
      exact ⟨_, Reads.list ho hc hd hr⟩
  | .tup ds, _, _, h, k, r => by
    cases h with
    | tup hs ha =>
      cases r
      obtain ⟨its, rv, ⟨o, ho, hc, n, hd⟩, _⟩ := I.tuple (sqT_same hid_sub hs)
      obtain ⟨as, hr⟩ := dts_reads I ds _ its ha (by simpa [shOk] using k) rv
      rw [py]
      exact ⟨_, Reads.tuple ho hc hd hr⟩
  | .dic ds, _, _, h, k, r => by
    cases h with
    | dic hs ha =>
      cases r
      obtain ⟨_, _, vs, kv, o, es, ep, ho, ⟨hc, _, _⟩, hd, _, pr, _⟩ := dk_of I.hok (hid_sub _ _ hs)
      obtain ⟨as, bs, h1, h2⟩ := dtk_reads I ds _ vs es.toList ha (by simpa [shOk] using k) kv pr
      rw [py]
      exact ⟨_, Reads.dict ho hc hd h1 h2⟩
  | .ref _, _, _, _, k, _ => by simp [shOk] at k
  | .ty _, _, _, _, k, _ => by simp [shOk] at k
theorem dts_reads (I : Inv X pins σ H s) : ∀ (ds : List D) (vs : List V) (us : List Value), Dts X.K (hid M H) vs ds → shOks ds = true → Vals vs us → ∃ as, ReadsAll s.heap us (pys ds) as
  | [], _, _, h, _, r => by cases h; cases r; rw [pys]; exact ⟨_, ReadsAll.nil⟩
  | d :: ds, _, _, h, k, r => by
    have k' : shOk d = true ∧ shOks ds = true := by simpa [shOks] using k
    cases h with
    | cons h1 h2 =>
      cases r with
      | cons r1 r2 =>
        obtain ⟨as, q1⟩ := dt_reads I d _ _ h1 k'.1 r1
        obtain ⟨bs, q2⟩ := dts_reads I ds _ _ h2 k'.2 r2
        rw [pys]
        exact ⟨_, ReadsAll.cons q1 q2⟩
theorem dtk_reads (I : Inv X pins σ H s) : ∀ (ds : List (Key × D)) (xs : List (Key × V)) (vs : List (Key × Value)) (es : List DictEntry), Dtk X.K (hid M H) xs ds → shOkk ds = true → KV xs vs → Pairs (mixKind X.prog X.w) es vs →
    ∃ as bs, ReadsAll s.heap (es.map (·.key)) ((pyk ds).map (·.1)) as ∧ ReadsAll s.heap (es.map (·.val)) ((pyk ds).map (·.2)) bs
  | [], _, _, _, h, _, r, p => by
    cases h
    cases r
    cases p
    rw [pyk]
    exact ⟨_, _, ReadsAll.nil, ReadsAll.nil⟩
  | (.inl i, d) :: ds, _, _, _, h, k, r, p => by
    have k' : (i.natAbs.log2 < 1920 ∧ shOk d = true) ∧ shOkk ds = true := by simpa [shOkk] using k
    cases h with
    | cons h1 h2 =>
      cases r with
      | cons r1 r2 =>
        cases p with
        | cons p1 p2 p3 =>
          obtain ⟨as, q1⟩ := dt_reads I d _ _ h1 k'.1.2 r1.2
          obtain ⟨bs, cs, q2, q3⟩ := dtk_reads I ds _ _ _ h2 k'.2 r2 p3
          rw [pyk, List.map_cons, List.map_cons, List.map_cons, List.map_cons, p2]
          obtain ⟨t, e⟩ := Value.isInt_shape (k := i) (by rw [← r1.1] at p1; exact p1)
          rw [e]
          exact ⟨_, _, ReadsAll.cons (Reads.int i t) q2, ReadsAll.cons q1 q3⟩
  | (.inr i, d) :: ds, _, _, _, h, k, r, p => by
    have k' : (i.cps.toList.all (fun c => decide (c < 1114112)) = true ∧ shOk d = true) ∧ shOkk ds = true := by simpa [shOkk] using k
    cases h with
    | cons h1 h2 =>
      cases r with
      | cons r1 r2 =>
        cases p with
        | cons p1 p2 p3 =>
          obtain ⟨as, q1⟩ := dt_reads I d _ _ h1 k'.1.2 r1.2
          obtain ⟨bs, cs, q2, q3⟩ := dtk_reads I ds _ _ _ h2 k'.2 r2 p3
          rw [pyk, List.map_cons, List.map_cons, List.map_cons, List.map_cons, p2]
          obtain ⟨t, e⟩ := Value.isStrOf_shape (x := i) (by rw [← r1.1] at p1; exact p1)
          rw [e]
          exact ⟨_, _, ReadsAll.cons (Reads.str i t) q2, ReadsAll.cons q1 q3⟩
end
end
section
variable {X : Cx} {pins : List (Addr × Obj)} {σ : L2.St} {H : Hp} {s : Shared} {M : Mp}
theorem csts_mem {ds : List D} {d : D} (h : d ∈ ds) : cst d ≤ csts ds := by
  induction ds with
  | nil => cases h
  | cons e ds ih =>
    rw [csts]
    rcases List.mem_cons.mp h with z | z
    · rw [z]; omega
    · have := ih z; omega
theorem rep_list {prog : Program} {w : World} {h : Heap} {a : Addr} {o : Obj} {its : List Value} {n : Nat} {ds : List D} {as bs : List Addr} (ho : h.get? a = some o) (hc : o.cls = .type "list") (hd : o.data = .seq its.toArray n) (hr : ReadsAll h its (pys ds) as)
    (hb : ReadAtMost h (PyData.depthAll (pys ds)) bs) (hk : ReprAllK prog w bs h (PyData.depthAll (pys ds)) its (PyData.shownAll (pys ds))) : ∃ cs, ReadAtMost h (PyData.list (pys ds)).depth cs ∧ ReprK prog w cs h (PyData.list (pys ds)).depth (.ref a) (PyData.list (pys ds)).shown := by
  have rd : Reads h (.ref a) (.list (pys ds)) _ := Reads.list ho hc hd hr
  have hna := not_mem_of_deeper rd (by simp only [PyData.depth]; omega) hb
  refine ⟨a :: bs, ReadAtMost.cons rd (by simp only [PyData.depth]; omega) hb, ?_⟩
  simp only [PyData.depth, PyData.shown]
  cases its with
  | nil =>
    have e := hk.length_eq
    cases q : PyData.shownAll (pys ds) with
    | nil => rw [listText_nil]; exact ReprK.listEmpty ho hc hd
    | cons t ts => rw [q] at e; simp at e
  | cons x l => exact ReprK.list ho hc hd hna (by simpa using hk.length_eq) (fun i y e => hk.item i y (by simpa using e))
theorem ents_more {prog : Program} {w : World} {h : Heap} {as as' : List Addr} {d d' : Nat} (hsub : ∀ b ∈ as, b ∈ as') (hd : d ≤ d') : ∀ {l : List DictEntry} {ts : List Str}, ReprEntriesK prog w as h d l ts → ReprEntriesK prog w as' h d' l ts
  | _, _, .nil => .nil
  | _, _, .cons a b c => .cons ((a.more hsub).level_le hd) ((b.more hsub).level_le hd) (ents_more hsub hd c)
mutual
theorem dt_rep (I : Inv X pins σ H s) : ∀ (d : D) (v : V) (u : Value), Dt X.K (hid M H) v d → shOk d = true → cst d ≤ 1000000 → RelV v u → ∃ bs, ReadAtMost s.heap (py d).depth bs ∧ ReprK X.prog X.w bs s.heap (py d).depth u (py d).shown
  | .non, _, _, h, _, _, r => by
    cases h; cases r
    exact ⟨[], (fun _ h => nomatch h), by simp only [py, PyData.shown]; exact .of_is ReprIs.none _ _ _⟩
  | .bl b, _, _, h, _, _, r => by
    cases h; cases r
    exact ⟨[], (fun _ h => nomatch h), by simp only [py, PyData.shown]; exact .of_is (ReprIs.bool b) _ _ _⟩
  | .int i, _, _, h, k, _, r => by
    cases h; obtain ⟨t, rfl⟩ := r
    exact ⟨[], (fun _ h => nomatch h), by simp only [py, PyData.shown]; exact .of_is (ReprIs.int t (by simpa [shOk] using k)) _ _ _⟩
  | .str x, _, _, h, k, z, r => by
    cases h; obtain ⟨t, rfl⟩ := r
    refine ⟨[], (fun _ h => nomatch h), ?_⟩
    simp only [py, PyData.shown]
    have h1 := rlen x (by simpa [shOk] using k)
    simp only [cst] at z
    exact .of_is (ReprIs.str x t (big_le (by omega))) _ _ _
  | .lst ds, _, _, h, k, z, r => by
    cases h with
    | lst hs ha =>
      cases r
      obtain ⟨its, rv, ⟨o, n, ho, hc, _, hd⟩, _⟩ := I.list (.inl (.inl (hid_sub _ _ hs)))
      have k' : shOks ds = true := by simpa [shOk] using k
      obtain ⟨as, hr⟩ := dts_reads I ds _ its ha k' rv
      obtain ⟨bs, hb, hk⟩ := dts_rep I ds _ its ha k' (by simp only [cst] at z; omega) rv
      exact rep_list ho hc hd hr hb hk
  | .slst ds, _, _, h, k, z, r => by
    cases h with
    | slst hs ha =>
      cases r
      obtain ⟨its, rv, ⟨o, n, ho, hc, _, hd⟩, _⟩ := I.list (Same.seq hid_sub hs)
      have k' : shOks ds = true := by simpa [shOk] using k
      obtain ⟨as, hr⟩ := dts_reads I ds _ its ha k' rv
      obtain ⟨bs, hb, hk⟩ := dts_rep I ds _ its ha k' (by simp only [cst] at z; omega) rv
      exact rep_list ho hc hd hr hb hk
  | .tup ds, _, _, h, k, z, r => by
    cases h with
    | tup hs ha =>
      cases r
      obtain ⟨its, rv, ⟨o, ho, hc, n, hd⟩, _⟩ := I.tuple (sqT_same hid_sub hs)
      have k' : shOks ds = true := by simpa [shOk] using k
      obtain ⟨as, hr⟩ := dts_reads I ds _ its ha k' rv
      obtain ⟨bs, hb, hk⟩ := dts_rep I ds _ its ha k' (by simp only [cst] at z; omega) rv
      have rd : Reads s.heap _ (.tuple (pys ds)) _ := Reads.tuple ho hc hd hr
      have hna := not_mem_of_deeper rd (by simp only [PyData.depth]; omega) hb
      simp only [py]
      refine ⟨_ :: bs, ReadAtMost.cons rd (by simp only [PyData.depth]; omega) hb, ?_⟩
      simp only [PyData.depth, PyData.shown]
      exact ReprK.tuple ho hc hd hna hk
  | .dic ds, _, _, h, k, z, r => by
    cases h with
    | dic hs ha =>
      cases r
      obtain ⟨_, hsys, vs, kv, o, es, ep, ho, ⟨hc, _, _⟩, hd, _, pr, _⟩ := dk_of I.hok (hid_sub _ _ hs)
      have k' : shOkk ds = true := by simpa [shOk] using k
      obtain ⟨as, bs, h1, h2⟩ := dtk_reads I ds _ vs es.toList ha k' kv pr
      obtain ⟨cs, hb, hk⟩ := dtk_rep I ds _ vs es.toList ha k' (by simp only [cst] at z; omega) kv pr
      have rd : Reads s.heap _ (.dict (pyk ds)) _ := Reads.dict ho hc hd h1 h2
      have hna := not_mem_of_deeper rd (by simp only [PyData.depth]; omega) hb
      simp only [py]
      refine ⟨_ :: cs, ReadAtMost.cons rd (by simp only [PyData.depth]; omega) hb, ?_⟩
      simp only [PyData.depth, PyData.shown]
      exact ReprK.dict ho hc hd hsys hna hk
  | .ref _, _, _, _, k, _, _ => by simp [shOk] at k
  | .ty _, _, _, _, k, _, _ => by simp [shOk] at k
theorem dts_rep (I : Inv X pins σ H s) : ∀ (ds : List D) (vs : List V) (us : List Value), Dts X.K (hid M H) vs ds → shOks ds = true → csts ds ≤ 1000000 → Vals vs us → ∃ bs, ReadAtMost s.heap (PyData.depthAll (pys ds)) bs ∧ ReprAllK X.prog X.w bs s.heap (PyData.depthAll (pys ds)) us (PyData.shownAll (pys ds))
  | [], _, _, h, _, _, r => by
    cases h; cases r
    simp only [pys, PyData.shownAll]
    exact ⟨[], (fun _ h => nomatch h), .nil⟩
  | d :: ds, _, _, h, k, z, r => by
    have k' : shOk d = true ∧ shOks ds = true := by simpa [shOks] using k
    rw [csts] at z
    cases h with
    | cons h1 h2 =>
      cases r with
      | cons r1 r2 =>
        obtain ⟨b1, hb1, k1⟩ := dt_rep I d _ _ h1 k'.1 (by omega) r1
        obtain ⟨b2, hb2, k2⟩ := dts_rep I ds _ _ h2 k'.2 (by omega) r2
        simp only [pys, PyData.shownAll, PyData.depthAll]
        exact ⟨b1 ++ b2, (hb1.mono (Nat.le_max_left _ _)).append (hb2.mono (Nat.le_max_right _ _)), .cons ((k1.more fun b hb => List.mem_append_left _ hb).level_le (Nat.le_max_left _ _)) (k2.more_le (fun b hb => List.mem_append_right _ hb) (Nat.le_max_right _ _))⟩
theorem dtk_rep (I : Inv X pins σ H s) : ∀ (ds : List (Key × D)) (xs : List (Key × V)) (vs : List (Key × Value)) (es : List DictEntry), Dtk X.K (hid M H) xs ds → shOkk ds = true → cstk ds ≤ 1000000 → KV xs vs → Pairs (mixKind X.prog X.w) es vs →
    ∃ bs, ReadAtMost s.heap (PyData.depthKv (pyk ds)) bs ∧ ReprEntriesK X.prog X.w bs s.heap (PyData.depthKv (pyk ds)) es (PyData.shownKv (pyk ds))
  | [], _, _, _, h, _, _, r, p => by
    cases h; cases r; cases p
    simp only [pyk, PyData.shownKv]
    exact ⟨[], (fun _ h => nomatch h), .nil⟩
  | (.inl i, d) :: ds, _, _, _, h, k, z, r, p => by
    have k' : (i.natAbs.log2 < 1920 ∧ shOk d = true) ∧ shOkk ds = true := by simpa [shOkk] using k
    rw [cstk] at z
    cases h with
    | cons h1 h2 =>
      cases r with
      | cons r1 r2 =>
        cases p with
        | cons p1 p2 p3 =>
          obtain ⟨b1, hb1, k1⟩ := dt_rep I d _ _ h1 k'.1.2 (by omega) r1.2
          obtain ⟨b2, hb2, k2⟩ := dtk_rep I ds _ _ _ h2 k'.2 (by omega) r2 p3
          obtain ⟨t, e⟩ := Value.isInt_shape (k := i) (by rw [← r1.1] at p1; exact p1)
          simp only [pyk, PyData.shownKv, PyData.depthKv, PyData.shown, PyData.depth, Nat.zero_max]
          refine ⟨b1 ++ b2, (hb1.mono (Nat.le_max_left _ _)).append (hb2.mono (Nat.le_max_right _ _)), .cons ?_ ?_ (ents_more (fun b hb => List.mem_append_right _ hb) (Nat.le_max_right _ _) k2)⟩
          · rw [e]
            exact .of_is (ReprIs.int t k'.1.1) _ _ _
          · rw [p2]
            exact (k1.more fun b hb => List.mem_append_left _ hb).level_le (Nat.le_max_left _ _)
  | (.inr i, d) :: ds, _, _, _, h, k, z, r, p => by
    have k' : (i.cps.toList.all (fun c => decide (c < 1114112)) = true ∧ shOk d = true) ∧ shOkk ds = true := by simpa [shOkk] using k
    rw [cstk] at z
    cases h with
    | cons h1 h2 =>
      cases r with
      | cons r1 r2 =>
        cases p with
        | cons p1 p2 p3 =>
          obtain ⟨b1, hb1, k1⟩ := dt_rep I d _ _ h1 k'.1.2 (by omega) r1.2
          obtain ⟨b2, hb2, k2⟩ := dtk_rep I ds _ _ _ h2 k'.2 (by omega) r2 p3
          obtain ⟨t, e⟩ := Value.isStrOf_shape (x := i) (by rw [← r1.1] at p1; exact p1)
          have hl := rlen i k'.1.1
          simp only [pyk, PyData.shownKv, PyData.depthKv, PyData.shown, PyData.depth, Nat.zero_max]
          refine ⟨b1 ++ b2, (hb1.mono (Nat.le_max_left _ _)).append (hb2.mono (Nat.le_max_right _ _)), .cons ?_ ?_ (ents_more (fun b hb => List.mem_append_right _ hb) (Nat.le_max_right _ _) k2)⟩
          · rw [e]
            exact .of_is (ReprIs.str i t (big_le (by omega))) _ _ _
          · rw [p2]
            exact (k1.more fun b hb => List.mem_append_left _ hb).level_le (Nat.le_max_left _ _)
end
end
theorem top_list {prog : Program} {w : World} {A : Around} {E : Value → Shared → Prop} {s : Shared} {Q : Value → Shared → Prop} {a : Addr} {o : Obj} {its : List Value} {n : Nat} {ds : List D} {as bs : List Addr} (gd : A.guards = some []) (hu : A.units + 200 < cLine) (dp : PyData.depthAll (pys ds) + 1 ≤ 100)
    (ho : s.heap.get? a = some o) (hc : o.cls = .type "list") (hd : o.data = .seq its.toArray n) (hr : ReadsAll s.heap its (pys ds) as)
    (hb : ReadAtMost s.heap (PyData.depthAll (pys ds)) bs) (hk : ReprAllK prog w bs s.heap (PyData.depthAll (pys ds)) its (PyData.shownAll (pys ds))) (hsz : (listText (PyData.shownAll (pys ds))).length ≤ sizeLine)
    (q : ∀ (h' : Heap) (t tk : Tok), (∀ b o, s.heap.get? b = some o → h'.get? b = some o) → Q (.str (listText (PyData.shownAll (pys ds))) t) { s with heap := h', toks := tk }) : wpAny (model prog w) A (call (.builtin "repr") [.ref a]) Q E s := by
  have rd : Reads s.heap (.ref a) (.list (pys ds)) _ := Reads.list ho hc hd hr
  have hna := not_mem_of_deeper rd (by simp only [PyData.depth]; omega) hb
  refine call_repr_slot (by omega) ⟨o, ho, hc⟩ F.slot_list_repr.toG ?_
  cases its with
  | nil =>
    have e := hk.length_eq
    cases z : PyData.shownAll (pys ds) with
    | nil =>
      rw [z, listText_nil] at q
      exact call_list_repr_empty ⟨o, ho, hc⟩ ho hd ⟨_, _, rfl, q s.heap _ _ fun _ _ e => e⟩
    | cons t ts => rw [z] at e; simp at e
  | cons x l => exact call_list_reprK ho hc hd hna (by simpa using hk.length_eq) (fun i y e => hk.item i y (by simpa using e)) (show A.in1.guards = some [] from gd) (fun b _ => Clear.nil b) (by show A.units + 1 + _ < cLine; omega) (fun _ _ e => e) (fun h' u tk kp => ⟨_, _, rfl, q h' u tk kp⟩) hsz
def reprR : RB
  | [d], M, F => (shOk d = true ∧ cst d ≤ 1000000 ∧ dep d ≤ 100) ∧ F (.str (shw d)) M
  | _, _, _ => False
theorem cb_repr {X : Cx} (gd : X.A.guards = some []) (hu : X.A.units + 200 < cLine) : CallR X (.builtin "repr") (upC X.K reprR) := by
  intro pins s σ H vs us Q I rv h
  obtain ⟨xs, M, F, dts, ok, h, af⟩ := h
  unfold reprR at h
  split at h
  · next d =>
    obtain ⟨⟨k, z, dp⟩, h⟩ := h
    obtain ⟨v, rfl, dt⟩ := one_of dts
    obtain ⟨u, rfl, rx⟩ := vals1 rv
    have hsz : (py d).shown.length ≤ sizeLine := big_le (Nat.le_trans (shw_len d k) z)
    have q : Q (.str (shw d)) H := af _ _ h _ _ ok (.str _) (Lat.refl _ _)
    have fin : ∀ (h' : Heap) (t tk : Tok), (∀ b o, s.heap.get? b = some o → h'.get? b = some o) → EP X pins σ Q (.str (shw d) t) { s with heap := h', toks := tk } := fun h' t tk kp => ⟨.str (shw d), H, I.kept kp, ⟨t, rfl⟩, q⟩
    have fin0 : EP X pins σ Q (.str (shw d) s.toks) { s with toks := s.toks + 1 } := ⟨.str (shw d), H, I.tok _, ⟨_, rfl⟩, q⟩
    rw [← dep_py] at dp
    have dt0 := dt
    cases dt with
    | non => cases rx; exact PySem.P.repr_of_none (by simpa only [shw, py, PyData.shown] using fin0)
    | bl b => cases rx; exact PySem.P.repr_of_bool (by simpa only [shw, py, PyData.shown] using fin0)
    | int i => obtain ⟨t, rfl⟩ := rx; exact PySem.P.repr_of_int (by simpa [shOk] using k) (by simpa only [shw, py, PyData.shown] using fin0)
    | str x => obtain ⟨t, rfl⟩ := rx; exact PySem.P.repr_of_str (by simpa only [shw, py, PyData.shown] using fin0) (by simpa only [py, PyData.shown] using hsz)
    | lst hs ha =>
      rename_i xs0 ds
      cases rx
      obtain ⟨its, rv', ⟨o, n, ho, hc, _, hd⟩, _⟩ := I.list (.inl (.inl (hid_sub _ _ hs)))
      have k' : shOks ds = true := by simpa [shOk] using k
      obtain ⟨as, hr⟩ := dts_reads I ds _ its ha k' rv'
      obtain ⟨bs, hb, hk⟩ := dts_rep I ds _ its ha k' (by simp only [cst] at z; omega) rv'
      simp only [shw, py, PyData.shown, PyData.depth] at fin dp hsz
      exact top_list gd hu dp ho hc hd hr hb hk hsz fin
    | slst hs ha =>
      rename_i xs0 ds
      cases rx
      obtain ⟨its, rv', ⟨o, n, ho, hc, _, hd⟩, _⟩ := I.list (Same.seq hid_sub hs)
      have k' : shOks ds = true := by simpa [shOk] using k
      obtain ⟨as, hr⟩ := dts_reads I ds _ its ha k' rv'
      obtain ⟨bs, hb, hk⟩ := dts_rep I ds _ its ha k' (by simp only [cst] at z; omega) rv'
      simp only [shw, py, PyData.shown, PyData.depth] at fin dp hsz
      exact top_list gd hu dp ho hc hd hr hb hk hsz fin
    | tup hs ha =>
      rename_i xs0 ds
      cases rx
      obtain ⟨its, rv', ⟨o, ho, hc, n, hd⟩, _⟩ := I.tuple (sqT_same hid_sub hs)
      have k' : shOks ds = true := by simpa [shOk] using k
      obtain ⟨as, hr⟩ := dts_reads I ds _ its ha k' rv'
      obtain ⟨bs, hb, hk⟩ := dts_rep I ds _ its ha k' (by simp only [cst] at z; omega) rv'
      simp only [shw, py, PyData.shown, PyData.depth] at fin dp hsz
      have rd : Reads s.heap _ (.tuple (pys ds)) _ := Reads.tuple ho hc hd hr
      have hna := not_mem_of_deeper rd (by simp only [PyData.depth]; omega) hb
      exact call_repr_slot (by omega) ⟨o, ho, hc⟩ PySem.F.slot_tuple_repr (call_tuple_reprK ho hc hd hna hk (show X.A.in1.guards = some [] from gd) (fun b _ => Clear.nil b) (by show X.A.units + 1 + _ < cLine; omega) (fun _ _ e => e) (fun h' u tk kp => ⟨_, _, rfl, fin h' u tk kp⟩) hsz)
    | dic hs ha =>
      rename_i xs0 ds
      cases rx
      obtain ⟨_, hsys, vs, kv, o, es, ep, ho, ⟨hc, _, _⟩, hd, _, pr, _⟩ := dk_of I.hok (hid_sub _ _ hs)
      have k' : shOkk ds = true := by simpa [shOk] using k
      obtain ⟨as, bs, h1, h2⟩ := dtk_reads I ds _ vs es.toList ha k' kv pr
      obtain ⟨cs, hb, hk⟩ := dtk_rep I ds _ vs es.toList ha k' (by simp only [cst] at z; omega) kv pr
      simp only [shw, py, PyData.shown, PyData.depth] at fin dp hsz
      have rd : Reads s.heap _ (.dict (pyk ds)) _ := Reads.dict ho hc hd h1 h2
      have hna := not_mem_of_deeper rd (by simp only [PyData.depth]; omega) hb
      exact call_repr_slot (by omega) ⟨o, ho, hc⟩ PySem.F.slot_dict_repr (call_dict_reprK ho hc hd hsys hna hk (show X.A.in1.guards = some [] from gd) (fun b _ => Clear.nil b) (by show X.A.units + 1 + _ < cLine; omega) (fun _ _ e => e) (fun h' u tk kp => ⟨_, _, rfl, fin h' u tk kp⟩) hsz)
    | ref _ => simp [shOk] at k
    | ty _ => simp [shOk] at k
  · exact h.elim
end Fx

namespace Fx
open PySem PySem.Spec PyProof.Rows L2

/-! a op b op' c -/
def chainD (r r' : R2d) (T U W : TEd) : TEd := fun ds M F => T ds M fun a M1 => U ds M1 fun b M2 => r a b M2 fun z M3 => match z with
  | .bl k => br k (W ds M3 fun c M4 => r' b c M4 F) (F (.bl false) M3)
  | _ => False
section
variable {X : Cx} {a b c : Expr} {op op' : CmpOp} {r r' : R2d} {T U W : TEd} {pos : Pos}
theorem emb_chain {K : PySem.W.Frag} : ∀ σ H Q, emb K (chainD r r' T U W) σ H Q → tChain (up2 K r) (up2 K r') (emb K T) (emb K U) (emb K W) σ H Q := fun σ H Q ⟨ds, M, F, ev, ok, h, af⟩ =>
  ⟨ds, M, _, ev, ok, h, fun d M1 h1 v H1 ok1 dt1 l1 => ⟨ds, M1, _, ev.mono l1, ok1, h1, fun d2 M2 h2 v2 H2 ok2 dt2 l2 => ⟨d, d2, M2, _, dt1.mono l2.same, dt2, ok2, h2, fun z M3 h3 v3 H3 ok3 dt3 l3 => by
    cases dt3 with
    | bl k =>
      cases k with
      | true =>
        refine ⟨true, rfl, iteT ⟨ds, M3, _, ev.mono ((l1.trans l2).trans l3), ok3, h3, fun d4 M4 h4 v4 H4 ok4 dt4 l4 => ⟨d2, d4, M4, F, dt2.mono (l3.trans l4).same, dt4, ok4, h4, af.later (((l1.trans l2).trans l3).trans l4)⟩⟩⟩
      | false => exact ⟨false, rfl, iteF (af _ _ h3 _ _ ok3 (.bl false) ((l1.trans l2).trans l3))⟩
    | _ => exact h3.elim⟩⟩⟩
theorem de_chain (h1 : OpR X (compareOp op) (up2 X.K r)) (h2 : OpR X (compareOp op') (up2 X.K r')) (ha : DE X a T) (hb : DE X b U) (hc : DE X c W) (hm : lastMarks [op, op'] [b, c] = false := by with_unfolding_all rfl) : DE X (.Compare a [op, op'] [b, c] pos) (chainD r r' T U W) := (pe_chain h1 h2 ha hb hc hm).fimp emb_chain
/-- - a -/
def negD (T : TEd) : TEd := fun ds M F => T ds M fun d M1 => match d with
  | .int i => F (.int (-i)) M1
  | _ => False
theorem de_neg (ha : DE X a T) : DE X (.UnaryOp .USub a pos) (negD T) := (pe_un un_neg ha).fimp fun σ H Q ⟨ds, M, F, ev, ok, h, af⟩ =>
  ⟨ds, M, _, ev, ok, h, fun d M1 h1 v H1 ok1 dt l1 => by
    cases dt with
    | int i => exact ⟨i, rfl, af _ _ h1 _ _ ok1 (.int _) l1⟩
    | _ => exact h1.elim⟩
/-- a is None, a is not None -/
def isND (T : TEd) : TEd := fun ds M F => T ds M fun d M1 => match d with
  | .non => F (.bl true) M1
  | _ => F (.bl false) M1
def notND (T : TEd) : TEd := fun ds M F => T ds M fun d M1 => match d with
  | .non => F (.bl false) M1
  | _ => F (.bl true) M1
theorem de_isN {k : Nat} {p2 : Pos} (ha : DE X a T) : DE X (.Compare a [.Is] [.Constant .none k p2] pos) (isND T) := (pe_cmpR op_isN ha pe_non (by rfl)).fimp fun σ H Q ⟨ds, M, F, ev, ok, h, af⟩ =>
  ⟨ds, M, _, ev, ok, h, fun d M1 h1 v H1 ok1 dt l1 => ⟨rfl, by
    cases dt <;> exact af _ _ h1 _ _ ok1 (.bl _) l1⟩⟩
theorem de_notN {k : Nat} {p2 : Pos} (ha : DE X a T) : DE X (.Compare a [.IsNot] [.Constant .none k p2] pos) (notND T) := (pe_cmpR op_notN ha pe_non (by rfl)).fimp fun σ H Q ⟨ds, M, F, ev, ok, h, af⟩ =>
  ⟨ds, M, _, ev, ok, h, fun d M1 h1 v H1 ok1 dt l1 => ⟨rfl, by
    cases dt <;> exact af _ _ h1 _ _ ok1 (.bl _) l1⟩⟩
end

/-! comparisons as tests -/
section
variable {X : Cx} {a b c : Expr} {op op' : CmpOp} {r r' : R2d} {T U W : TEd} {pos : Pos}
theorem emb_tst {K : PySem.W.Frag} {t : TE} (h : ∀ σ H Q, emb K T σ H Q → t σ H Q) : ∀ σ H Q, embT K (tstD T) σ H Q → tTest t σ H Q := fun σ H Q ⟨ds, M, F, ev, ok, q, af⟩ => h σ H _ ⟨ds, M, _, ev, ok, q, fun d M1 h1 v H1 ok1 dt l1 => by
  cases dt with
  | bl k => exact ⟨k, rfl, af k M1 h1 H1 ok1 l1⟩
  | _ => exact h1.elim⟩
theorem dt_cmp (ho : OpR X (compareOp op) (up2 X.K r)) (ha : DE X a T) (hb : DE X b U) (hm : behindInMarks op b = false) : DT X (.Compare a [op] [b] pos) (tstD (opD r T U)) := (pt_cmpR ho ha hb hm).fimp (emb_tst emb_op)
theorem dt_chain (h1 : OpR X (compareOp op) (up2 X.K r)) (h2 : OpR X (compareOp op') (up2 X.K r')) (ha : DE X a T) (hb : DE X b U) (hc : DE X c W) (hm : lastMarks [op, op'] [b, c] = false := by with_unfolding_all rfl) : DT X (.Compare a [op, op'] [b, c] pos) (tstD (chainD r r' T U W)) := (pt_chain h1 h2 ha hb hc hm).fimp (emb_tst emb_chain)
theorem dt_isN {k : Nat} {p2 : Pos} (ha : DE X a T) : DT X (.Compare a [.Is] [.Constant .none k p2] pos) (tstD (isND T)) := (pt_cmpR op_isN ha pe_non (by rfl)).fimp (emb_tst fun σ H Q ⟨ds, M, F, ev, ok, h, af⟩ =>
  ⟨ds, M, _, ev, ok, h, fun d M1 h1 v H1 ok1 dt l1 => ⟨rfl, by
    cases dt <;> exact af _ _ h1 _ _ ok1 (.bl _) l1⟩⟩)
theorem dt_notN {k : Nat} {p2 : Pos} (ha : DE X a T) : DT X (.Compare a [.IsNot] [.Constant .none k p2] pos) (tstD (notND T)) := (pt_cmpR op_notN ha pe_non (by rfl)).fimp (emb_tst fun σ H Q ⟨ds, M, F, ev, ok, h, af⟩ =>
  ⟨ds, M, _, ev, ok, h, fun d M1 h1 v H1 ok1 dt l1 => ⟨rfl, by
    cases dt <;> exact af _ _ h1 _ _ ok1 (.bl _) l1⟩⟩)
end

/-! methods of built-in things -/
abbrev RM := D → List D → Mp → DK → Prop
def isLst : D → Mp → Prop
  | .ref a, M => match M a with
    | some (.lst _) => True
    | _ => False
  | .lst _, _ => True
  | _, _ => False
def isStr : D → Mp → Prop
  | .str _, _ => True
  | _, _ => False
def bmD (ty : D → Mp → Prop) (r : RM) (T : TEd) (U : TAd) : TEd := fun ds M F => T ds M fun d M1 => ty d M1 ∧ U ds M1 fun xs M2 => r d xs M2 F
def bm0D (ty : D → Mp → Prop) (r : RM) (T : TEd) : TEd := fun ds M F => T ds M fun d M1 => ty d M1 ∧ r d [] M1 F
def upM (K : PySem.W.Frag) (r : RM) : V → List V → Hp → VK → Prop := fun x vs H Q => ∃ d xs M F, Dt K (hid M H) x d ∧ Dts K (hid M H) vs xs ∧ HpOk K M H ∧ r d xs M F ∧ AftE K M H F Q
theorem tyL {K : PySem.W.Frag} {M : Mp} {H : Hp} {v : V} {d : D} (dt : Dt K (hid M H) v d) (ok : HpOk K M H) (h : isLst d M) : tyV K "list" v H := by
  cases dt with
  | ref a =>
    simp only [isLst] at h
    split at h
    · next e =>
      obtain ⟨xs, e1, _⟩ := ok _ _ e
      exact .inl ⟨rfl, xs, .inl (.inl e1)⟩
    · exact h.elim
  | lst q dd => exact .inl ⟨rfl, _, .inl (.inl (hid_sub _ _ q))⟩
  | _ => exact h.elim
theorem tyS {K : PySem.W.Frag} {M : Mp} {H : Hp} {v : V} {d : D} (dt : Dt K (hid M H) v d) (h : isStr d M) : tyV K "str" v H := by
  cases dt with
  | str z => rfl
  | _ => exact h.elim
section
variable {X : Cx} {o e : Expr} {es : List Expr} {name : Str} {id : String} {apos cpos : Pos} {r : RM} {T : TEd} {U : TAd}
theorem de_bmL (slot : Slot "list" name id) (hty : typeOf (.builtin id) = pure (.type "method_descriptor")) (hm : MtR X id (upM X.K r)) (ho : DE X o T) (ha : DA X (e :: es) U)
    (hbase : attributeBase o name X.env (eval o X.env) = eval o X.env := by rfl)
    (hfew : ((backTo cpos (starEach (e :: es) X.env)).all (fun x => !x.1) && (backToKw cpos (keywordEach [] X.env)).all (fun x => x.1.isSome)
      && decide ((e :: es).length + ([] : List Keyword).length + (if ([] : List Keyword).isEmpty then 0 else 1) < 30)) = true := by rfl)
    (hline : (apos.endLine == cpos.line) = true := by rfl) (hs : starEach (e :: es) X.env = (false, eval e X.env) :: starEach es X.env := by rfl) (hpl : (backTo cpos (starEach es X.env)).any (·.1) = false := by rfl) : DE X (.Call (.Attribute o name apos) (e :: es) [] cpos) (bmD isLst r T U) := by
  refine (pe_bm (r := upM X.K r) PySem.F.plainAttrs_list slot hty hm ho ha ?_ ?_ ?_ ?_ ?_).fimp fun σ H Q ⟨ds, M, F, ev, ok, h, af⟩ => ⟨ds, M, _, ev, ok, h, fun d M1 h1 v H1 ok1 dt l1 => ⟨tyL dt ok1 h1.1, ds, M1, _, ev.mono l1, ok1, h1.2, fun xs M2 h2 vs H2 ok2 dts l2 => ⟨d, xs, M2, F, dt.mono l2.same, dts, ok2, h2, af.later (l1.trans l2)⟩⟩⟩
  all_goals assumption
theorem de_bm0L (slot : Slot "list" name id) (hty : typeOf (.builtin id) = pure (.type "method_descriptor")) (hm : MtR X id (upM X.K r)) (ho : DE X o T)
    (hbase : attributeBase o name X.env (eval o X.env) = eval o X.env := by rfl) (hline : (apos.endLine == cpos.line) = true := by rfl) : DE X (.Call (.Attribute o name apos) [] [] cpos) (bm0D isLst r T) :=
  (pe_bm0 (r := upM X.K r) PySem.F.plainAttrs_list slot hty hm ho hbase hline).fimp fun σ H Q ⟨ds, M, F, ev, ok, h, af⟩ => ⟨ds, M, _, ev, ok, h, fun d M1 h1 v H1 ok1 dt l1 => ⟨tyL dt ok1 h1.1, d, [], M1, F, dt, .nil, ok1, h1.2, af.later l1⟩⟩
/-- s.m(e), s a text -/
def m1D (r : RM) (T U : TEd) : TEd := fun ds M F => T ds M fun d M1 => match d with
  | .str z => U ds M1 fun x M2 => r (.str z) [x] M2 F
  | _ => False
theorem de_m1 {U : TEd} {pos : Pos} (slot : Slot "str" name id) (ty : typeOf (.builtin id) = pure (.type "method_descriptor")) (rule : MtR X id (upM X.K r)) (ho : DE X o T) (he : DE X e U)
    (hs : starEach [e] X.env = [(false, eval e X.env)] := by rfl) (hbase : attributeBase o name X.env (eval o X.env) = eval o X.env := by rfl) (hline : (apos.endLine == pos.line) = true := by rfl) :
    DE X (.Call (.Attribute o name apos) [e] [] pos) (m1D r T U) := (pe_m1 slot ty rule ho he hs hbase hline).fimp fun σ H Q ⟨ds, M, F, ev, ok, h, af⟩ => ⟨ds, M, _, ev, ok, h, fun d M1 h1 v H1 ok1 dt l1 => by
  cases dt with
  | str z => exact ⟨⟨_, rfl⟩, ds, M1, _, ev.mono l1, ok1, h1, fun x M2 h2 v2 H2 ok2 dt2 l2 => ⟨.str z, [x], M2, F, .str z, .cons dt2 .nil, ok2, h2, af.later (l1.trans l2)⟩⟩
  | _ => exact h1.elim⟩
end
def popR : RM
  | .ref a, [], M, F => match M a with
    | some (.lst xs) => match xs.getLast? with
      | some y => F y (updM M a (.lst xs.dropLast))
      | none => False
    | _ => False
  | _, _, _, _ => False
def appR : RM
  | .ref a, [y], M, F => match M a with
    | some (.lst xs) => xs.length < 1000000 ∧ F .non (updM M a (.lst (xs ++ [y])))
    | _ => False
  | _, _, _, _ => False
def extR : RM
  | .ref a, [.lst ys], M, F => match M a with
    | some (.lst xs) => xs.length + ys.length ≤ 1000000 ∧ F .non (updM M a (.lst (xs ++ ys)))
    | _ => False
  | _, _, _, _ => False
def isSt : D → Bool
  | .str _ => true
  | _ => false
def getSt : D → Str
  | .str x => x
  | _ => Str.empty
def joinR : RM
  | .str a, [.lst xs], M, F => xs.all isSt = true ∧ ((xs.map fun d => (getSt d).length).sum + xs.length * a.length ≤ 1000000) ∧ F (.str (Txt.join a (xs.map getSt))) M
  | .str a, [.tup xs], M, F => xs.all isSt = true ∧ ((xs.map fun d => (getSt d).length).sum + xs.length * a.length ≤ 1000000) ∧ F (.str (Txt.join a (xs.map getSt))) M
  | _, _, _, _ => False
theorem strs_of {K : PySem.W.Frag} {G : Hp} : ∀ {vs : List V} {xs : List D}, Dts K G vs xs → xs.all isSt = true → vs = (xs.map getSt).map V.str
  | _, _, .nil, _ => rfl
  | _, _, .cons h1 h2, h => by
    rw [List.all_cons, Bool.and_eq_true] at h
    rw [List.map_cons, List.map_cons, ← strs_of h2 h.2]
    cases h1 <;> first | rfl | (exact absurd h.1 (by simp [isSt]))
/-- the list at a, changed -/
theorem AftE.setM {K : PySem.W.Frag} {M : Mp} {H : Hp} {F : DK} {Q : VK} {a : Addr} {vs : List V} {o : MO} {xs : List D} {d : D} {v : V} (af : AftE K M H F Q) (ok : HpOk K M H) (e : M a = some o) (hd : Dts K (hid M H) vs xs) (dt : Dt K (hid M H) v d) (f : F d (updM M a (.lst xs))) : Q v (upd H a (.lst vs)) := by
  have q : Same (hid M H) (hid (updM M a (.lst xs)) (upd H a (.lst vs))) := fun b u hb => by
    obtain ⟨n, eb⟩ := hid_some hb
    have nb : b ≠ a := fun z => by rw [z, e] at n; cases n
    rw [hid_of (by rw [updM_ne nb]; exact n), upd_ne nb]
    exact eb
  obtain ⟨ok2, l2⟩ := ok.put (p := a) (o := .lst vs) (m := .lst xs) (.inl (by rw [e]; simp)) ⟨vs, upd_same, hd.mono q⟩
  exact af _ _ f _ _ ok2 (dt.mono q) l2
section
variable {X : Cx}
theorem dm_append : MtR X "list.append" (upM X.K appR) := by
  intro pins s σ H x vs v us Q I rx rv h
  obtain ⟨d, xs, M, F, dt, dts, ok, h, af⟩ := h
  unfold appR at h
  split at h
  · split at h
    · next a y _ _ _ zs e =>
      cases dt
      obtain ⟨w, rfl, dw⟩ := one_of dts
      obtain ⟨ys, e1, d1⟩ := ok _ _ e
      exact mt_append pins s σ H _ _ v us Q I rx rv ⟨_, ys, w, rfl, rfl, e1, by rw [d1.length]; exact big_lt h.1, af.setM ok e (d1.append (.cons dw .nil)) .non h.2⟩
    · exact h.elim
  · exact h.elim
theorem dm_extend : MtR X "list.extend" (upM X.K extR) := by
  intro pins s σ H x vs v us Q I rx rv h
  obtain ⟨d, xs, M, F, dt, dts, ok, h, af⟩ := h
  unfold extR at h
  split at h
  · split at h
    · next a y _ _ _ zs e =>
      cases dt
      obtain ⟨w, rfl, dw⟩ := one_of dts
      obtain ⟨ys, e1, d1⟩ := ok _ _ e
      cases dw with
      | lst q dd => exact mt_extend pins s σ H _ _ v us Q I rx rv ⟨_, _, ys, _, rfl, rfl, e1, hid_sub _ _ q, by rw [d1.length, dd.length]; exact big_le h.1, af.setM ok e (d1.append dd) .non h.2⟩
    · exact h.elim
  · exact h.elim
theorem Dts.dropLast {K : PySem.W.Frag} {G : Hp} : ∀ {vs : List V} {ds : List D}, Dts K G vs ds → Dts K G vs.dropLast ds.dropLast
  | _, _, .nil => .nil
  | _, _, .cons _ .nil => .nil
  | _, _, .cons h1 (.cons h2 h3) => .cons h1 (Dts.dropLast (.cons h2 h3))
theorem dm_pop : MtR X "list.pop" (upM X.K popR) := by
  intro pins s σ H x vs v us Q I rx rv h
  obtain ⟨d, xs, M, F, dt, dts, ok, h, af⟩ := h
  unfold popR at h
  split at h
  · split at h
    · next a _ _ _ zs e =>
      split at h
      · next y ey =>
        cases dt
        cases dts
        obtain ⟨ys, e1, d1⟩ := ok _ _ e
        rw [List.getLast?_eq_getElem?] at ey
        obtain ⟨w, ew, dw⟩ := d1.get ey
        exact mt_pop pins s σ H _ _ v us Q I rx rv ⟨_, ys, w, rfl, rfl, e1, by rw [d1.length]; exact ew, af.setM ok e d1.dropLast dw h⟩
      · exact h.elim
    · exact h.elim
  · exact h.elim
theorem dm_join : MtR X "str.join" (upM X.K joinR) := by
  intro pins s σ H x vs v us Q I rx rv h
  obtain ⟨d, xs, M, F, dt, dts, ok, h, af⟩ := h
  unfold joinR at h
  split at h
  · cases dt
    obtain ⟨w, rfl, dw⟩ := one_of dts
    cases dw with
    | lst q dd =>
      have e := strs_of dd h.1
      subst e
      refine mt_join pins s σ H _ _ v us Q I rx rv ⟨_, _, _, rfl, rfl, .inl (.inl (.inl (hid_sub _ _ q))), ?_, af _ _ h.2.2 _ _ ok (.str _) (Lat.refl _ _)⟩
      rw [List.map_map, List.length_map]
      exact Nat.le_trans h.2.1 (by decide)
  · cases dt
    obtain ⟨w, rfl, dw⟩ := one_of dts
    cases dw with
    | tup q dd =>
      have e := strs_of dd h.1
      subst e
      refine mt_join pins s σ H _ _ v us Q I rx rv ⟨_, _, _, rfl, rfl, .inr (sqT_same hid_sub q), ?_, af _ _ h.2.2 _ _ ok (.str _) (Lat.refl _ _)⟩
      rw [List.map_map, List.length_map]
      exact Nat.le_trans h.2.1 (by decide)
  · exact h.elim
end

/-! d[k] = v of a dict that may change -/
def putS (T U W : TEd) : TSd := fun B ds M => W ds M fun v M1 => T ds M1 fun d M2 => U ds M2 fun k M3 => match d, k with
  | .ref a, .str z => match M3 a with
    | some (.dic kvs) => kvs.length < 1000000 ∧ B.nx ds (updM M3 a (.dic (putD kvs (.inr z) v)))
    | _ => False
  | .ref a, .int i => match M3 a with
    | some (.lst xs) => match ixN xs.length i with
      | some j => B.nx ds (updM M3 a (.lst (xs.set j v)))
      | none => False
    | _ => False
  | _, _ => False
/-- {k: v, ..}, the keys written; a dict that may change (true), or that never changes -/
def dispD (m : Bool) (ks : List Str) (U : TAd) : TEd := fun ds M F => ∀ p, M p = none → U ds (updM M p (.dic [])) fun xs M1 => xs.length = ks.length ∧ M1 p = some (.dic []) ∧ match m with
  | true => F (.ref p) (updM M1 p (.dic ((ks.map Sum.inr).zip xs)))
  | false => F (.dic ((ks.map Sum.inr).zip xs)) (delM M1 p)
theorem AftS.setM {K : PySem.W.Frag} {M : Mp} {H : Hp} {B : Endd} {E : Ends} {a : Addr} {ho : HO} {o m : MO} {ds : Ds} {σ : L2.St} (af : AftS K M H B E) (ok : HpOk K M H) (ev : Env K M H σ ds) (e : M a = some o) (hm : Same (hid M H) (hid (updM M a m) (upd H a ho)) → MOk K (updM M a m) (upd H a ho) a m) (f : B.nx ds (updM M a m)) : E.nx σ (upd H a ho) := by
  have q : Same (hid M H) (hid (updM M a m) (upd H a ho)) := fun b u hb => by
    obtain ⟨n, eb⟩ := hid_some hb
    have nb : b ≠ a := fun z => by rw [z, e] at n; cases n
    rw [hid_of (by rw [updM_ne nb]; exact n), upd_ne nb]
    exact eb
  obtain ⟨ok2, l2⟩ := ok.put (p := a) (o := ho) (m := m) (.inl (by rw [e]; simp)) (hm q)
  exact af.nx _ _ f _ _ (ev.mono l2) ok2 l2
section
variable {X : Cx} {o i value : Expr} {T U W : TEd} {pos pos' : Pos}
theorem set_any (hu : X.A.units + 1 < cLine) : PSet X (fun o i v H Q => rSetL o i v H Q ∨ ∃ a H4, o = .ref a ∧ DPut H a i v H4 ∧ Q H4) := by
  intro pins s σ H o i v ov iv u Q I ro ri rv h
  rcases h with h | ⟨a, H4, rfl, g, q⟩
  · exact set_list pins s σ H o i v ov iv u Q I ro ri rv h
  · cases ro
    exact d_setItem hu I g ri rv fun s4 I4 => ⟨H4, I4, q⟩
theorem ds_put (hu : X.A.units + 1 < cLine) (ho : DE X o T) (hi : DE X i U) (hv : DE X value W) (hs : swapsWithSole [.Subscript o i pos'] value pos.line X.env = pure false := by rfl) (hw : swappedStores [.Subscript o i pos'] value X.env = pure none := by rfl)
    (h1 : (assignEach [.Subscript o i pos'] X.env).map (·.2) = [assign (.Subscript o i pos') X.env] := by rfl)
    (ha : ∀ v, assign (.Subscript o i pos') X.env v = (do
      let ov ← holding [v] (eval o X.env)
      let iv ← holding [v, ov] (eval i X.env)
      standAt pos'
      holding [v, ov, iv] (setItem ov iv v)
      release [v, ov, iv] []) := by intro _; rfl) : DS X (.Assign [.Subscript o i pos'] value pos) (putS T U W) := (ps_asg hv (pg_sub ho hi (set_any hu) ha) hs hw h1).fimp fun E σ H ⟨ds, M, B, ev, ok, h, af⟩ =>
  ⟨ds, M, _, ev, ok, h, fun v M1 h1 w H1 ok1 dt1 l1 => ⟨ds, M1, _, ev.mono l1, ok1, h1, fun d M2 h2 x H2 ok2 dt2 l2 => ⟨ds, M2, _, (ev.mono l1).mono l2, ok2, h2, fun k M3 h3 y H3 ok3 dt3 l3 => by
    have lt := (l1.trans l2).trans l3
    have ev3 := ev.mono lt
    have dv := dt1.mono (l2.trans l3).same
    have dx := dt2.mono l3.same
    have af3 := af.later lt
    cases dx with
    | ref a =>
      cases dt3 with
      | str z =>
        simp only at h3
        split at h3
        · next e =>
          obtain ⟨xs, e1, d1⟩ := ok3 _ _ e
          refine .inr ⟨a, _, rfl, DPut.k (k := .inr z) e1 (by rw [d1.length]; exact big_lt h3.1), ?_⟩
          exact af3.setM (m := .dic (putD _ (.inr z) v)) ok3 ev3 e (fun q => ⟨_, upd_same, (d1.mono q).put (dv.mono q)⟩) h3.2
        · exact h3.elim
      | int i =>
        simp only at h3
        split at h3
        · next e =>
          obtain ⟨xs, e1, d1⟩ := ok3 _ _ e
          split at h3
          · next j ej =>
            refine .inl ⟨a, xs, i, j, rfl, rfl, e1, by rw [d1.length]; exact ej, ?_⟩
            exact af3.setM (m := .lst (List.set _ j v)) ok3 ev3 e (fun q => ⟨_, upd_same, (d1.mono q).set j (dv.mono q)⟩) h3
          · exact h3.elim
        · exact h3.elim
      | _ => exact h3.elim
    | _ => exact h3.elim⟩⟩⟩
end
/-- the pairs of a display, the keys written texts -/
inductive Disp (X : Cx) (pos : Pos) : List (Option Expr) → List Expr → List Str → TAd → Prop
  | nil : Disp X pos [] [] [] nilD
  | cons {k : Nat} {p : Pos} {z : Str} {e : Expr} {ks : List (Option Expr)} {vs : List Expr} {zs : List Str} {T : TEd} {U : TAd} : DE X e T → Disp X pos ks vs zs U → Disp X pos (some (.Constant (.str z) k p) :: ks) (e :: vs) (z :: zs) (consD T U)
theorem Disp.pps {X : Cx} {pos : Pos} {ks : List (Option Expr)} {vs : List Expr} {zs : List Str} {U : TAd} (h : Disp X pos ks vs zs U) : ∃ trs, PPs X pos ks vs trs ∧ ks.length = vs.length ∧ ks.all (·.isSome) = true ∧ zs.length = ks.length ∧
    ∀ ds M F σ H (Q : List (V × V) → Hp → Prop), Env X.K M H σ ds → HpOk X.K M H → U ds M F → (∀ xs M', F xs M' → ∀ ws H', HpOk X.K M' H' → Dts X.K (hid M' H') ws xs → Lat M H M' H' → Q ((zs.map V.str).zip ws) H') → tPairs trs σ H Q := by
  induction h with
  | nil => exact ⟨[], pps_nil, rfl, rfl, rfl, fun ds M F σ H Q ev ok u q => q _ _ u _ _ ok .nil (Lat.refl _ _)⟩
  | cons he _ ih =>
    obtain ⟨trs, h1, h2, h3, h4, h5⟩ := ih
    refine ⟨_, pps_cons pe_str he h1, by simp [h2], by simpa using h3, by simp [h4], fun ds M F σ H Q ev ok u q => ?_⟩
    refine ⟨ds, M, _, ev, ok, u, fun d M1 g1 v H1 ok1 dt l1 => ?_⟩
    exact h5 ds M1 _ σ H1 _ (ev.mono l1) ok1 g1 fun xs M2 g2 ws H2 ok2 dts l2 => q _ _ g2 (v :: ws) H2 ok2 (.cons (dt.mono l2.same) dts) (l1.trans l2)
theorem zip_merge : ∀ (zs : List Str) (ws : List V) (acc : List (Key × V)), zs.Nodup → (∀ z ∈ zs, ∀ p ∈ acc, p.1 ≠ Sum.inr z) → mergeK acc ((zs.map Sum.inr).zip ws) = acc ++ (zs.map Sum.inr).zip ws
  | [], ws, acc, _, _ => by simp [mergeK]
  | z :: zs, [], acc, _, _ => by simp [mergeK]
  | z :: zs, w :: ws, acc, nd, h => by
    have nd' := List.nodup_cons.mp nd
    show mergeK (putK acc (Sum.inr z) w) ((zs.map Sum.inr).zip ws) = acc ++ (Sum.inr z, w) :: (zs.map Sum.inr).zip ws
    have e : putK acc (Sum.inr z) w = acc ++ [(Sum.inr z, w)] := by
      unfold putK
      rw [if_neg]
      simp only [List.any_eq_true, decide_eq_true_eq, not_exists, not_and]
      intro p hp
      exact h z List.mem_cons_self p hp
    rw [e, zip_merge zs ws _ nd'.2 fun y hy p hp => ?_, List.append_assoc]
    · rfl
    · rcases List.mem_append.mp hp with q | q
      · exact h y (List.mem_cons_of_mem _ hy) p q
      · have : p = (Sum.inr z, w) := by simpa using q
        subst this
        intro ez
        have : z = y := Sum.inr.inj ez
        subst this
        exact nd'.1 hy
theorem Dtk.zip {K : PySem.W.Frag} {G : Hp} : ∀ (zs : List Str) {ws : List V} {xs : List D}, Dts K G ws xs → Dtk K G ((zs.map Sum.inr).zip ws) ((zs.map Sum.inr).zip xs)
  | [], _, _, _ => by simp; exact .nil
  | z :: zs, _, _, .nil => by simp; exact .nil
  | z :: zs, _, _, .cons h1 h2 => .cons h1 (Dtk.zip zs h2)
section
variable {X : Cx} {pos : Pos} {ks : List (Option Expr)} {vs : List Expr} {zs : List Str} {U : TAd}
theorem de_disp (m : Bool) (h : Disp X pos ks vs zs U) (h0 : ks ≠ []) (h15 : ks.length ≤ 15) (nd : zs.Nodup) : DE X (.Dict ks vs pos) (dispD m zs U) := by
  obtain ⟨trs, h1, h2, h3, h4, h5⟩ := h.pps
  refine (pe_disp h1 h3 h2 h0 h15).fimp fun σ H Q ⟨ds, M, F, ev, ok, t, af⟩ => ?_
  intro p np
  obtain ⟨ok1, l1⟩ := ok.put (p := p) (o := .dK []) (m := .dic []) (.inr np) ⟨[], upd_same, .nil⟩
  refine h5 ds _ _ σ _ _ (ev.mono l1) ok1 (t p (ok.free np)) fun xs M1 ⟨el, eM, f⟩ ws H1 ok2 dts l2 => ?_
  obtain ⟨kv0, e1, d1⟩ := ok2 _ _ eM
  cases d1
  have lw := dts.length
  refine ⟨e1, (zs.map Sum.inr).zip ws, ?_, ?_, ?_⟩
  · clear h5 e1 dts f
    have : ∀ (zs : List Str) (ws : List V), (zs.map V.str).zip ws = ((zs.map Sum.inr).zip ws).map fun kv : Key × V => (kV kv.1, kv.2) := by
      intro zs
      induction zs with
      | nil => intro ws; simp
      | cons z zs ih =>
        intro ws
        cases ws with
        | nil => simp
        | cons w ws => simp only [List.map_cons, List.zip_cons_cons, ih ws]; rfl
    exact this zs ws
  · rw [List.length_zip, List.length_map]
    omega
  · rw [zip_merge zs ws [] nd (fun _ _ _ hp => by cases hp), List.nil_append]
    have q : Same (hid M1 H1) (hid (updM M1 p (.dic ((zs.map Sum.inr).zip xs))) (upd H1 p (.dK ((zs.map Sum.inr).zip ws)))) := fun b u hb => by
      obtain ⟨n, eb⟩ := hid_some hb
      have nb : b ≠ p := fun z => by rw [z, eM] at n; cases n
      rw [hid_of (by rw [updM_ne nb]; exact n), upd_ne nb]
      exact eb
    obtain ⟨ok3, l3⟩ := ok2.put (p := p) (o := .dK ((zs.map Sum.inr).zip ws)) (m := .dic ((zs.map Sum.inr).zip xs)) (.inl (by rw [eM]; simp)) ⟨_, upd_same, Dtk.zip zs (dts.mono q)⟩
    cases m with
    | true => exact af _ _ f _ _ ok3 (.ref p) ((l1.trans l2).trans l3)
    | false =>
      obtain ⟨ok4, l4⟩ := ok3.frz p
      have ed : delM (updM M1 p (.dic ((zs.map Sum.inr).zip xs))) p = delM M1 p := by
        funext b
        unfold delM updM
        split <;> rfl
      rw [ed] at ok4 l4
      refine af _ _ f _ _ ok4 (.dic ?_ (Dtk.zip zs ((dts.mono q).mono l4.same))) (((l1.trans l2).trans l3).trans l4)
      rw [hid_of delM_same]
      exact upd_same
/-- {} -/
theorem de_dic0 : DE X (.Dict [] [] pos) (cD (.dic [])) := pe_dnewK.fimp fun σ H Q ⟨ds, M, F, ev, ok, h, af⟩ => fun p np => by
  obtain ⟨ok2, l2⟩ := ok.lay (p := p) (o := .dK []) np
  refine af _ _ h _ _ ok2 (.dic ?_ .nil) l2
  rw [hid_of (ok.free np)]
  exact upd_same
end

/-! x in e -/
def inR (neg : Bool) : R2d
  | .str x, .str z, M, F => match x.cps.toList with
    | [c] => F (.bl (if neg then !decide (c ∈ z.cps.toList) else decide (c ∈ z.cps.toList))) M
    | _ => False
  | _, _, _, _ => False
section
variable {X : Cx}
theorem or_in : OpR X (compareOp .In) (up2 X.K (inR false)) := by
  intro pins s σ H x y v u Q I rx ry h
  obtain ⟨a, b, M, F, da, db, ok, h, af⟩ := h
  cases da <;> cases db <;> first | exact h.elim | skip
  next x z =>
  simp only [inR] at h
  split at h
  · next c e =>
    obtain ⟨⟨l⟩⟩ := x
    simp only at e
    subst e
    exact op_in_sign pins s σ H _ _ v u Q I rx ry ⟨c, z, rfl, rfl, af _ _ h _ _ ok (.bl _) (Lat.refl _ _)⟩
  · exact h.elim
end
end Fx

namespace Fx
open PySem PySem.Spec PyProof.Rows L2

/-! the law's own call: nothing is shown by repr there -/
theorem callerG : callerA.guards = some [] := rfl
theorem enterG {P : Program} {w : World} {K : PySem.W.Frag} {mg mb : Str → Option Value} {k : Nat} {fa a : Addr} {fd : FuncData} {x : Str} {R : RD} {s₁ : Shared} {vs : List Value} {ns : List Int}
    (KX : K.In s₁.heap) (gn : s₁.heap.Ns mainGlobals mg) (bn : s₁.heap.Ns builtinsNs mb) (bb : ∀ x : Str, x ≠ "__name__" → mb x = bootBuiltins x) (lim : s₁.heap.NoLimit) (gen : s₁.gens = #[])
    (ha : s₁.heap.get? a = some { cls := .type "list", data := .seq vs.toArray }) (hi : IntsAre vs ns) (hl : ns.length ≤ sizeLine) (hr : Room k callerA)
    (F : ∀ base : Heap, K.In base → base.Ns mainGlobals mg → FnG P w K mg base CX0 k fa fd [x] (SpD K 1 R)) (hbind : ∀ (s : Shared) (u : Value), BindsTo s fd ⟨[u], []⟩ [(x, u)])
    (hR : ∀ M : Mp, R [.slst (ns.map D.int)] M fun d _ => d = .bl true) :
    codeAny (model P w) callerA (.call (.ref fa) ⟨[.ref a], []⟩) (fun r s' => r = .ok (.ret (.bool true)) ∧ OldK s₁.heap s'.heap ∧ s'.os = s₁.os ∧ AllBare s'.gens) s₁ := by
  have rel := vals_ints hi
  have ln := hi.length
  have main : ∀ H : Hp, Only H → SqL K H a (ns.map V.int) → HOk P w H s₁.heap → (∀ b, H b ≠ none → b = a) → (H a ≠ none → K.lookup a = none) →
      codeAny (model P w) callerA (.call (.ref fa) ⟨[.ref a], []⟩) (fun r s' => r = .ok (.ret (.bool true)) ∧ OldK s₁.heap s'.heap ∧ s'.os = s₁.os ∧ AllBare s'.gens) s₁ := by
    intro H only sq hok hA hK
    have out : ∀ {b : Addr} {o : Obj} {es : Array DictEntry} {ep : Nat}, s₁.heap.get? b = some o → o.data = .dict es ep → H b = none := by
      intro b o es ep e d
      refine Decidable.byContradiction fun n => ?_
      have eb := hA b n
      rw [eb, ha] at e
      cases e
      cases d
    have keepNs : ∀ {b : Addr} {m : Str → Option Value}, s₁.heap.Ns b m → (hidT s₁.heap H).Ns b m := fun ⟨o, es, ep, e, d, r⟩ => ⟨o, es, ep, hidT_get e (out e d), d, r⟩
    have kb : K.In (hidT s₁.heap H) := fun b o e => hidT_get (KX b o e) (Decidable.byContradiction fun n => by
      have eb := hA b n
      rw [eb] at n e
      rw [hK n] at e
      cases e)
    have md : Mod K mg (hidT s₁.heap H) := ⟨kb, keepNs gn, ⟨mb, keepNs bn, bb⟩, let ⟨mc, h1, h2⟩ := lim; ⟨mc, keepNs h1, h2⟩⟩
    have en : Env0 P w K mg (hidT s₁.heap H) callerA [] s₁ H := ⟨rfl, md, fun b o e => of_hidT e, Nat.le_of_eq (hidT_size _ _), trivial, fun b hb => absurd (show b ∈ ([] : List Addr) from hb) (by simp), hok, .of_eq gen⟩
    have wish : SpD K 1 R [.ref a] H (fun v _ => v = .bl true) fun _ _ _ => False := by
      have e : hid (fun _ => none) H = H := by funext b; rfl
      refine ⟨[.slst (ns.map D.int)], fun _ => none, _, rfl, .cons (.slst (by rw [e]; exact sq) (Dts.ints ns)) .nil, (fun b o z => by cases z), hR _, ?_⟩
      intro d M' ed v H' _ dt _
      subst ed
      cases dt
      rfl
    refine codeAny_mono ((F _ kb (keepNs gn)).go callerA [] s₁ H ⟨[.ref a], []⟩ [.ref a] [.ref a] _ _ callerG hr en (hbind s₁ (.ref a)) (.cons rfl .nil) wish) fun r s' h => ?_
    match r, h with
    | .error e, h => exact h.elim
    | .ok .next, h => exact h.elim
    | .ok .brk, h => exact h.elim
    | .ok .cont, h => exact h.elim
    | .ok (.ret u), ⟨v, H', os, bare, un, hok', rv, q⟩ =>
      have q' : v = .bl true := q
      subst q'
      obtain rfl : u = Value.bool true := rv
      refine ⟨rfl, OldK.of_keep fun b o e => ?_, os, bare⟩
      cases eb : H b with
      | none => exact un.keep b o e eb (by intro z; exact absurd (show b ∈ ([] : List Addr) from z) (by simp)) (by simp)
      | some y =>
        rcases only b with z | ⟨ob, xs, z⟩
        · rw [eb] at z; cases z
        · obtain ⟨e1, _⟩ := hok b _ z
          obtain ⟨e2, _⟩ := hok' b _ (un.frzs b ob _ z)
          rw [e] at e1
          cases e1
          exact e2
  cases hk : K.lookup a with
  | some o =>
    have e := KX a o hk
    rw [ha] at e
    cases e
    exact main (fun _ => none) (fun _ => .inl rfl) (.inr ⟨_, vs.toArray, _, hk, rfl, rfl, rfl, by rw [List.size_toArray, ln]; exact hl, by simpa using rel⟩) (fun b u z => by cases (show (none : Option HO) = some u from z)) (fun b z => absurd rfl z) fun z => absurd rfl z
  | none =>
    have at_a : ∀ (b : Addr), b = a → (fun b => if b = a then some (HO.frz { cls := .type "list", data := .seq vs.toArray } (.lst (ns.map V.int))) else none) b = some (HO.frz { cls := .type "list", data := .seq vs.toArray } (.lst (ns.map V.int))) := fun b e => if_pos e
    have off_a : ∀ (b : Addr), b ≠ a → (fun b => if b = a then some (HO.frz { cls := .type "list", data := .seq vs.toArray } (.lst (ns.map V.int))) else none) b = none := fun b e => if_neg e
    refine main (fun b => if b = a then some (HO.frz { cls := .type "list", data := .seq vs.toArray } (.lst (ns.map V.int))) else none) (fun b => ?_) (.inl (.inr ⟨_, at_a a rfl⟩)) (fun b u z => ?_) (fun b z => ?_) fun _ => hk
    · by_cases hb : b = a
      · exact .inr ⟨_, _, at_a b hb⟩
      · exact .inl (off_a b hb)
    · by_cases hb : b = a
      · rw [at_a b hb] at z
        cases z
        subst hb
        exact ⟨ha, by rw [List.length_map]; exact hl, vs, _, rel, ha⟩
      · rw [off_a b hb] at z
        cases z
    · by_cases hb : b = a
      · exact hb
      · exact absurd (off_a b hb) z
theorem walkG {l : PySem.W.OpenLaw} {n k : Nat} {q : Program} {loose : List Str} {XP : (Str → Option Value) → Heap → Prop} {YP : World → Heap → Prop} {d : DefRec} {K : Params → PySem.W.Frag} {R : RD} {x : Str}
    (hn : l.most = some n) (hn2 : n ≤ sizeLine) (hdf : d.params.defaults = []) (hr : Room k callerA)
    (hY : ∀ (w : World) (h : Heap), YP w h → (K w.params).In h)
    (F : ∀ (w : World) (mg : Str → Option Value) (fa : Addr) (h : Heap), (K w.params).In h → h.Ns mainGlobals mg → mg d.name = some (.ref fa) →
      ∃ fd : FuncData, (∀ (s : Shared) (u : Value), BindsTo s fd ⟨[u], []⟩ [(x, u)]) ∧
        ∀ base : Heap, (K w.params).In base → base.Ns mainGlobals mg → FnG l.prog w (K w.params) mg base CX0 k fa fd [x] (SpD (K w.params) 1 R))
    (hR : ∀ (ns : List Int) (M : Mp), ns.length ≤ n → R [.slst (ns.map D.int)] M fun d _ => d = .bl true) :
    PySem.W.WalkO q loose XP YP l.row.toRowW d [] (fun f vs => PySem.call f vs) := by
  refine Att.attach_call hn hdf fun w s₀ s₁ mg mb fa o pm cd doc a vs ns G Y ho hd hcd hmg hobj hints hlen hg => ?_
  have KX := hY w _ Y
  obtain ⟨fd, hb, hF⟩ := F w mg fa _ KX G.T.g hmg
  exact enterG KX G.T.g G.T.b G.T.builtins G.T.nolimit hg hobj hints (Nat.le_trans hlen hn2) hr hF hb fun M => hR ns M hlen
/-! what is known of a name of the module -/
structure FnH (P : Program) (w : World) (K : PySem.W.Frag) (mg : Str → Option Value) (base : Heap) (k : Nat) (x : Str) (f : Addr) (fd : FuncData) (ps : List Str) (R : RD) : Prop where
  fn : FnG P w K mg base CX0 k f fd ps (SpD K ps.length R)
  hn : ∀ xs M F, R xs M F → xs.length = ps.length
  gm : mg x = some (.ref f)
  kp : PySem.W.keepIn K (.ref f) = true
  bi : Binds K fd ps []
/-- a constant of the module -/
def GV (K : PySem.W.Frag) (mg : Str → Option Value) (x : Str) (d : D) : Prop := ∃ u v, mg x = some u ∧ RelV v u ∧ ∀ G, Dt K G v d
theorem GV.str {K : PySem.W.Frag} {mg : Str → Option Value} {x z : Str} {t : Tok} (h : mg x = some (.str z t)) : GV K mg x (.str z) := ⟨_, .str z, h, ⟨t, rfl⟩, fun _ => .str z⟩
theorem GV.int {K : PySem.W.Frag} {mg : Str → Option Value} {x : Str} {i : Int} {t : Tok} (h : mg x = some (.int i t)) : GV K mg x (.int i) := ⟨_, .int i, h, ⟨t, rfl⟩, fun _ => .int i⟩
theorem u200 {A : Around} {k : Nat} (hr : Room k A) : A.units + 200 < cLine := by have := hr.un; omega
section
variable {X : Cx} {j k : Nat} {f : Addr} {fd : FuncData} {ps ks : List Str} {R : RD} {x : Str} {p pos : Pos} {e : Expr} {es : List Expr} {kws : List Keyword} {U W : TAd} {d : D}
theorem dk (h : GV X.K X.mg x d) (hg : Gl X x := by rfl) (hdb : (x == ("__debug__" : Str)) = false := by decide) : DE X (.Name x pos) (cD d) := by
  obtain ⟨u, v, h1, h2, h3⟩ := h
  exact de_glob hg h1 h2 h3 hdb
theorem dcall (h : FnH X.prog X.w X.K X.mg X.base j x f fd ps R) (gd : X.A.guards = some []) (hr : Room k X.A) (ha : DA X (e :: es) U) (hjk : j ≤ k := by decide) (hg : Gl X x := by rfl) (hdb : (x == ("__debug__" : Str)) = false := by decide) (he : starEach (e :: es) X.env = (false, eval e X.env) :: starEach es X.env := by rfl) (hpl : (backTo pos (starEach es X.env)).any (·.1) = false := by rfl) :
    DE X (.Call (.Name x p) (e :: es) [] pos) (callD R U) := de_call h.fn h.hn gd (hr.mono hjk) hg h.gm h.kp h.bi ha hdb he hpl
variable {g : List Value → List Value → List Value} {gV : List V → List V → List V} {gD : List D → List D → List D}
theorem dcallK0 (h : FnH X.prog X.w X.K X.mg X.base j x f fd ps R) (hb : KBinds X.K fd ps ks g gV) (hgd : ∀ G vs ws xs ys, Dts X.K G vs xs → Dts X.K G ws ys → Dts X.K G (gV vs ws) (gD xs ys)) (gd : X.A.guards = some []) (hr : Room k X.A) (hkw : DQ X kws W) (hjk : j ≤ k := by decide) (hg : Gl X x := by rfl)
    (hall : (backToKw pos (keywordEach kws X.env)).all (·.1.isSome) = true := by rfl) (hks : (backToKw pos (keywordEach kws X.env)).filterMap (·.1) = ks := by rfl) (hdb : (x == ("__debug__" : Str)) = false := by decide)
    (hpl : ((backTo pos (starEach [] X.env)).any (·.1) || (backToKw pos (keywordEach kws X.env)).any (·.1.isNone)) = false := by rfl) :
    DE X (.Call (.Name x p) [] kws pos) (callKD R gD nilD W) := de_callK0 h.fn h.hn gd (hr.mono hjk) hg h.gm h.kp hb hgd hkw hall hks hdb hpl
end
/-- keywords alone: in the order of the parameters; two of them, the other way round -/
def kid {α : Type} (us ws : List α) : List α := match us with
  | [] => ws
  | _ :: _ => []
def kswap {α : Type} (us ws : List α) : List α := match us, ws with
  | [], [a, b] => [b, a]
  | _, _ => []
section
variable {K : PySem.W.Frag} {x qual : Str} {st : Stmt} {f : Addr} {fd : FuncData} {ps ks : List Str}
theorem kb_id (F : Fun K x qual st f fd) (hp : ps ≠ [])
    (h : ∀ (kV doc pm : Value) (an : Option Addr) (cdv ct : Value) (ws : List Value), ws.length = ps.length → bindArgs (PySem.W.fnOf x qual (defArgs st) (defBody st) (defScope st) .none kV doc pm an cdv ct) ⟨[], ps.zip ws⟩ = pure (ps.zip ws)) : KBinds K fd ps ps kid kid := by
  obtain ⟨oc, od, kV, doc, pm, an, cdv, ct, osl, rfl, lk, hcd⟩ := F.ex
  refine ⟨fun s us ws _ hl => ?_, fun {vs us zs ws} r1 r2 => ?_⟩
  · cases us with
    | nil => exact .of_eq (h kV doc pm an cdv ct ws hl)
    | cons u us => exact absurd (List.length_eq_zero_iff.mp hl.symm) hp
  · cases r1 with
    | nil => exact r2
    | cons _ _ => exact .nil
theorem kb_swap {p q : Str} (F : Fun K x qual st f fd)
    (h : ∀ (kV doc pm : Value) (an : Option Addr) (cdv ct : Value) (a b : Value), bindArgs (PySem.W.fnOf x qual (defArgs st) (defBody st) (defScope st) .none kV doc pm an cdv ct) ⟨[], [(q, a), (p, b)]⟩ = pure [(p, b), (q, a)]) : KBinds K fd [p, q] [q, p] kswap kswap := by
  obtain ⟨oc, od, kV, doc, pm, an, cdv, ct, osl, rfl, lk, hcd⟩ := F.ex
  refine ⟨fun s us ws _ hl => ?_, fun {vs us zs ws} r1 r2 => ?_⟩
  · match us, ws, hl with
    | [], [a, b], _ => exact .of_eq (h kV doc pm an cdv ct a b)
    | [], [], hl => cases hl
    | [], [_], hl => cases hl
    | [], _ :: _ :: _ :: _, hl => cases hl
    | _ :: _, _, hl => cases hl
  · cases r1 with
    | nil =>
      cases r2 with
      | nil => exact .nil
      | cons a r2 =>
        cases r2 with
        | nil => exact .nil
        | cons b r2 =>
          cases r2 with
          | nil => exact .cons b (.cons a .nil)
          | cons _ _ => exact .nil
    | cons _ _ => exact .nil
theorem gd_id : ∀ (G : Hp) (vs ws : List V) (xs ys : List D), Dts K G vs xs → Dts K G ws ys → Dts K G (kid vs ws) (kid xs ys) := fun G vs ws xs ys h1 h2 => by
  cases h1 with
  | nil => exact h2
  | cons _ _ => exact .nil
theorem gd_swap : ∀ (G : Hp) (vs ws : List V) (xs ys : List D), Dts K G vs xs → Dts K G ws ys → Dts K G (kswap vs ws) (kswap xs ys) := fun G vs ws xs ys h1 h2 => by
  cases h1 with
  | nil =>
    cases h2 with
    | nil => exact .nil
    | cons a h2 =>
      cases h2 with
      | nil => exact .nil
      | cons b h2 =>
        cases h2 with
        | nil => exact .cons b (.cons a .nil)
        | cons _ _ => exact .nil
  | cons _ _ => exact .nil
end
end Fx

namespace Fx
open PySem PySem.Spec PyProof.Rows L2
/-! what a value must be, to go on -/
def eBl (d : D) (K : Bool → Prop) : Prop := match d with
  | .bl b => K b
  | _ => False
def eInt (d : D) (K : Int → Prop) : Prop := match d with
  | .int b => K b
  | _ => False
def eStr (d : D) (K : Str → Prop) : Prop := match d with
  | .str b => K b
  | _ => False
def eN (d : D) (P Q : Prop) : Prop := match d with
  | .non => P
  | _ => Q
def eTru (d : D) (K : Bool → Prop) : Prop := match d with
  | .bl b => K b
  | .non => K false
  | .int i => K (i != 0)
  | .tup xs => K (!xs.isEmpty)
  | .lst xs => K (!xs.isEmpty)
  | _ => False
def eLst (d : D) (K : List D → Prop) : Prop := match d with
  | .lst b => K b
  | _ => False
def eSeq (d : D) (K : List D → Prop) : Prop := match d with
  | .lst xs => K xs
  | .slst xs => K xs
  | .tup xs => K xs
  | .str z => K (signs z)
  | _ => False
def eRev (d : D) (K : List D → Prop) : Prop := match d with
  | .lst xs => K xs
  | .slst xs => K xs
  | _ => False
def eI1 (xs : List D) (K : Int → Prop) : Prop := match xs with
  | [.int n] => K n
  | _ => False
def eI2 (xs : List D) (K : Int → Int → Prop) : Prop := match xs with
  | [.int a, .int b] => K a b
  | _ => False
def eL1 (xs : List D) (K : List D → Prop) : Prop := match xs with
  | [.lst xs] => K xs
  | [.slst xs] => K xs
  | _ => False
def eL2 (xs : List D) (K : List D → List D → Prop) : Prop := match xs with
  | [.lst xs, .lst ys] => K xs ys
  | _ => False
def eP2 (xs : List D) (K : D → D → Prop) : Prop := match xs with
  | [a, b] => K a b
  | _ => False
def eSl (o : Option (Option D)) (K : D → Prop) : Prop := match o with
  | some (some d) => K d
  | _ => False
def eO {α : Type} (o : Option α) (K : α → Prop) : Prop := match o with
  | some d => K d
  | none => False
def eML (o : Option MO) (K : List D → Prop) : Prop := match o with
  | some (.lst xs) => K xs
  | _ => False
def eMD (o : Option MO) (K : List (Key × D) → Prop) : Prop := match o with
  | some (.dic xs) => K xs
  | _ => False
def eC (z : Str) (K : Nat → Prop) : Prop := match z.cps.toList with
  | [c] => K c
  | _ => False
def ePut (d k : D) (M : Mp) (v : D) (N : Mp → Prop) : Prop := match d, k with
  | .ref a, .str z => match M a with
    | some (.dic kvs) => kvs.length < 1000000 ∧ N (updM M a (.dic (putD kvs (.inr z) v)))
    | _ => False
  | .ref a, .int i => match M a with
    | some (.lst xs) => match ixN xs.length i with
      | some j => N (updM M a (.lst (xs.set j v)))
      | none => False
    | _ => False
  | _, _ => False
section
variable {T U W : TEd} {A B C : TTd} {S S2 : TSd} {V V2 : TAd} {I : TId} {O O2 : TOd} {ds : Ds} {M : Mp} {F : DK} {G : Bool → Mp → Prop} {GA : List D → Mp → Prop} {GO : Option Int → Mp → Prop} {E : Endd} {i j : Int} {x y z : Str} {xs ys : List D} {d k v : D} {b : Bool} {a : Addr} {n : Nat} {t : Tg} {R : RD} {r r2 : R2d} {rb : RB} {rm : RM} {ty : D → Mp → Prop} {c : Ty6} {kvs : List (Key × D)} {P Q : Prop}
  {KB : Bool → Prop} {KI : Int → Prop} {KS : Str → Prop} {KL : List D → Prop} {KD : D → Prop} {KN : Nat → Prop} {KK : List (Key × D) → Prop} {NM : Mp → Prop} {K2 : D → D → Prop} {KL2 : List D → List D → Prop} {KI2 : Int → Int → Prop}
theorem q_v : vD n ds M F = eSl ds[n]? fun d => F d M := rfl
theorem q_c : cD d ds M F = F d M := rfl
theorem q_tup : tupD V ds M F = V ds M fun xs M1 => xs.length ≤ 1000000 ∧ F (.tup xs) M1 := rfl
theorem q_lst : lstD V ds M F = V ds M fun xs M1 => xs.length ≤ 1000000 ∧ F (.lst xs) M1 := rfl
theorem q_op : opD r T U ds M F = T ds M fun a M1 => U ds M1 fun b M2 => r a b M2 F := rfl
theorem q_nil : nilD ds M GA = GA [] M := rfl
theorem q_cons : consD T V ds M GA = T ds M fun d M1 => V ds M1 fun xs M2 => GA (d :: xs) M2 := rfl
theorem q_tst : tstD T ds M G = T ds M fun d M1 => eBl d fun b => G b M1 := rfl
theorem q_tru : truD T ds M G = T ds M fun d M1 => eTru d fun b => G b M1 := rfl
theorem q_andT : andT A B ds M G = A ds M fun b M1 => br b (B ds M1 G) (G false M1) := rfl
theorem q_orT : orT A B ds M G = A ds M fun b M1 => br b (G true M1) (B ds M1 G) := rfl
theorem q_notT : notT A ds M G = A ds M fun b M1 => G (!b) M1 := rfl
theorem q_andV : andV T U ds M F = T ds M fun d M1 => eBl d fun b => br b (U ds M1 F) (F (.bl false) M1) := rfl
theorem q_orV : orV T U ds M F = T ds M fun d M1 => eBl d fun b => br b (F (.bl true) M1) (U ds M1 F) := rfl
theorem q_notV : notV T ds M F = T ds M fun d M1 => eBl d fun b => F (.bl (!b)) M1 := rfl
theorem q_ifE : ifE C T U ds M F = C ds M fun b M1 => br b (T ds M1 F) (U ds M1 F) := rfl
theorem q_next : nextD E ds M = E.nx ds M := rfl
theorem q_seq : seqD S S2 E ds M = S { E with nx := S2 E } ds M := rfl
theorem q_asg : asgD T t E ds M = T ds M fun d M1 => gD t d ds fun ds1 => E.nx ds1 M1 := rfl
theorem q_drop : dropD T E ds M = T ds M fun _ M1 => E.nx ds M1 := rfl
theorem q_ret : retD T E ds M = T ds M E.rt := rfl
theorem q_retN : retN E ds M = E.rt .non M := rfl
theorem q_ifS : ifS C S S2 E ds M = C ds M fun b M1 => br b (S E ds M1) (S2 E ds M1) := rfl
theorem q_par {n2 : Nat} : parD n n2 V E ds M = V ds M fun xs M1 => eP2 xs fun a b => E.nx ((ds.set n (some a)).set n2 (some b)) M1 := rfl
theorem q_isi : isiD c T ds M F = T ds M fun d M1 => eO (isT c d) fun b => F (.bl b) M1 := by
  unfold isiD
  congr
  funext d M1
  unfold eO
  generalize isT c d = q
  cases q <;> rfl
theorem q_blt : bltD rb V ds M F = V ds M fun xs M1 => rb xs M1 F := rfl
theorem q_call : callD R V ds M F = V ds M fun xs M1 => R xs M1 F := rfl
theorem q_callK {g : List D → List D → List D} : callKD R g V V2 ds M F = V ds M fun xs M1 => V2 ds M1 fun ys M2 => R (g xs ys) M2 F := rfl
theorem q_kid : kid [] xs = xs := rfl
theorem q_kswap : kswap [] [d, k] = [k, d] := rfl
theorem q_chain : chainD r r2 T U W ds M F = T ds M fun a M1 => U ds M1 fun b M2 => r a b M2 fun z M3 => eBl z fun k => br k (W ds M3 fun c M4 => r2 b c M4 F) (F (.bl false) M3) := rfl
theorem q_neg : negD T ds M F = T ds M fun d M1 => eInt d fun i => F (.int (-i)) M1 := rfl
theorem q_isN : isND T ds M F = T ds M fun d M1 => eN d (F (.bl true) M1) (F (.bl false) M1) := rfl
theorem q_notN : notND T ds M F = T ds M fun d M1 => eN d (F (.bl false) M1) (F (.bl true) M1) := rfl
theorem q_noO : noO ds M GO = GO none M := rfl
theorem q_someO : someO T ds M GO = T ds M fun d M1 => eInt d fun i => GO (some i) M1 := rfl
theorem q_sli : sliD T O O2 ds M F = T ds M fun d M1 => O ds M1 fun lo M2 => O2 ds M2 fun hi M3 => slR d lo hi M3 F := rfl
theorem q_rev : revD T ds M F = T ds M fun d M1 => eRev d fun xs => F (.lst xs.reverse) M1 := by
  first | rfl | (unfold revD; congr; funext d M1; cases d <;> rfl)
theorem q_revM : revM T ds M F = T ds M fun d M1 => eLst d fun xs => ∀ p, M1 p = none → F (.ref p) (updM M1 p (.lst xs.reverse)) := rfl
theorem q_bm : bmD ty rm T V ds M F = T ds M fun d M1 => ty d M1 ∧ V ds M1 fun xs M2 => rm d xs M2 F := rfl
theorem q_bm0 : bm0D ty rm T ds M F = T ds M fun d M1 => ty d M1 ∧ rm d [] M1 F := rfl
theorem q_m1 : m1D rm T U ds M F = T ds M fun d M1 => eStr d fun z => U ds M1 fun x M2 => rm (.str z) [x] M2 F := rfl
theorem q_seqI : seqI T ds M GA = T ds M fun d M1 => eSeq d fun xs => GA xs M1 := by
  first | rfl | (unfold seqI; congr; funext d M1; cases d <;> rfl)
theorem q_rng : rngI V ds M GA = V ds M fun xs M1 => eI1 xs fun n => (-1000000 ≤ n ∧ n ≤ 1000000) ∧ GA ((List.range n.toNat).map fun i => D.int (i : Nat)) M1 := rfl
theorem q_rng2 : rng2I V ds M GA = V ds M fun xs M1 => eI2 xs fun a b => (-1000000 ≤ a ∧ a ≤ 1000000 ∧ -1000000 ≤ b ∧ b ≤ 1000000) ∧ GA ((List.range (b - a).toNat).map fun i => D.int (a + (i : Nat))) M1 := rfl
theorem q_enum : enumI V ds M GA = V ds M fun xs M1 => eL1 xs fun xs => GA (enumL 0 xs) M1 := by
  first | rfl | (unfold enumI; congr; funext d M1; unfold eL1; split <;> rfl)
theorem q_zip : zipI V ds M GA = V ds M fun xs M1 => eL2 xs fun xs ys => GA (zipL xs ys) M1 := rfl
theorem q_yes : yesD ds M G = G true M := rfl
theorem q_put : putS T U W E ds M = W ds M fun v M1 => T ds M1 fun d M2 => U ds M2 fun k M3 => ePut d k M3 v fun M4 => E.nx ds M4 := by
  first | rfl | (unfold putS; congr; funext v M1; congr; funext d M2; congr; funext k M3; cases d <;> cases k <;> rfl)
theorem e_bl : eBl (.bl b) KB = KB b := rfl
theorem e_int : eInt (.int i) KI = KI i := rfl
theorem e_str : eStr (.str x) KS = KS x := rfl
theorem e_lst : eLst (.lst xs) KL = KL xs := rfl
theorem e_n_non : eN .non P Q = P := rfl
theorem e_n_bl : eN (.bl b) P Q = Q := rfl
theorem e_n_int : eN (.int i) P Q = Q := rfl
theorem e_n_str : eN (.str x) P Q = Q := rfl
theorem e_n_tup : eN (.tup xs) P Q = Q := rfl
theorem e_n_lst : eN (.lst xs) P Q = Q := rfl
theorem e_n_slst : eN (.slst xs) P Q = Q := rfl
theorem e_n_dic : eN (.dic kvs) P Q = Q := rfl
theorem e_n_ref : eN (.ref a) P Q = Q := rfl
theorem e_seq_l : eSeq (.lst xs) KL = KL xs := rfl
theorem e_seq_s : eSeq (.slst xs) KL = KL xs := rfl
theorem e_seq_t : eSeq (.tup xs) KL = KL xs := rfl
theorem e_seq_z : eSeq (.str x) KL = KL (signs x) := rfl
theorem e_rev_l : eRev (.lst xs) KL = KL xs := rfl
theorem e_rev_s : eRev (.slst xs) KL = KL xs := rfl
theorem e_i1 : eI1 [.int i] KI = KI i := rfl
theorem e_i2 : eI2 [.int i, .int j] KI2 = KI2 i j := rfl
theorem e_l1 : eL1 [.lst xs] KL = KL xs := rfl
theorem e_l1s : eL1 [.slst xs] KL = KL xs := rfl
theorem e_l2 : eL2 [.lst xs, .lst ys] KL2 = KL2 xs ys := rfl
theorem e_p2 : eP2 [d, k] K2 = K2 d k := rfl
theorem e_sl : eSl (some (some d)) KD = KD d := rfl
theorem e_o : eO (some d) KD = KD d := rfl
theorem e_ob : eO (some b) KB = KB b := rfl
theorem e_on : eO (some n) KN = KN n := rfl
theorem e_ml : eML (some (.lst xs)) KL = KL xs := rfl
theorem e_md : eMD (some (.dic kvs)) KK = KK kvs := rfl
theorem e_c : eC ⟨#[n]⟩ KN = KN n := rfl
theorem e_tru_b : eTru (.bl b) KB = KB b := rfl
theorem e_tru_n : eTru .non KB = KB false := rfl
theorem e_tru_i : eTru (.int i) KB = KB (i != 0) := rfl
theorem e_tru_t : eTru (.tup xs) KB = KB (!xs.isEmpty) := rfl
theorem e_tru_l : eTru (.lst xs) KB = KB (!xs.isEmpty) := rfl
theorem t_str_non : isT .str .non = some false := rfl
theorem t_tup_non : isT .tup .non = some false := rfl
theorem t_int_non : isT .int .non = some false := rfl
theorem t_bool_non : isT .bool .non = some false := rfl
theorem t_lst_non : isT .lst .non = some false := rfl
theorem t_dict_non : isT .dict .non = some false := rfl
theorem t_str_bl : isT .str (.bl b) = some false := rfl
theorem t_tup_bl : isT .tup (.bl b) = some false := rfl
theorem t_int_bl : isT .int (.bl b) = some true := rfl
theorem t_bool_bl : isT .bool (.bl b) = some true := rfl
theorem t_lst_bl : isT .lst (.bl b) = some false := rfl
theorem t_dict_bl : isT .dict (.bl b) = some false := rfl
theorem t_str_int : isT .str (.int i) = some false := rfl
theorem t_tup_int : isT .tup (.int i) = some false := rfl
theorem t_int_int : isT .int (.int i) = some true := rfl
theorem t_bool_int : isT .bool (.int i) = some false := rfl
theorem t_lst_int : isT .lst (.int i) = some false := rfl
theorem t_dict_int : isT .dict (.int i) = some false := rfl
theorem t_str_str : isT .str (.str x) = some true := rfl
theorem t_tup_str : isT .tup (.str x) = some false := rfl
theorem t_int_str : isT .int (.str x) = some false := rfl
theorem t_bool_str : isT .bool (.str x) = some false := rfl
theorem t_lst_str : isT .lst (.str x) = some false := rfl
theorem t_dict_str : isT .dict (.str x) = some false := rfl
theorem t_str_tup : isT .str (.tup xs) = some false := rfl
theorem t_tup_tup : isT .tup (.tup xs) = some true := rfl
theorem t_int_tup : isT .int (.tup xs) = some false := rfl
theorem t_bool_tup : isT .bool (.tup xs) = some false := rfl
theorem t_lst_tup : isT .lst (.tup xs) = some false := rfl
theorem t_dict_tup : isT .dict (.tup xs) = some false := rfl
theorem t_str_lst : isT .str (.lst xs) = some false := rfl
theorem t_tup_lst : isT .tup (.lst xs) = some false := rfl
theorem t_int_lst : isT .int (.lst xs) = some false := rfl
theorem t_bool_lst : isT .bool (.lst xs) = some false := rfl
theorem t_lst_lst : isT .lst (.lst xs) = some true := rfl
theorem t_dict_lst : isT .dict (.lst xs) = some false := rfl
theorem t_str_dic : isT .str (.dic kvs) = some false := rfl
theorem t_tup_dic : isT .tup (.dic kvs) = some false := rfl
theorem t_int_dic : isT .int (.dic kvs) = some false := rfl
theorem t_bool_dic : isT .bool (.dic kvs) = some false := rfl
theorem t_lst_dic : isT .lst (.dic kvs) = some false := rfl
theorem t_dict_dic : isT .dict (.dic kvs) = some true := rfl
theorem r_add_i : addR (.int i) (.int j) M F = F (.int (i + j)) M := rfl
theorem r_add_s : addR (.str x) (.str y) M F = (x.length + y.length ≤ 1000000 ∧ F (.str (x ++ y)) M) := rfl
theorem r_add_t : addR (.tup xs) (.tup ys) M F = (xs.length + ys.length ≤ 1000000 ∧ F (.tup (xs ++ ys)) M) := rfl
theorem r_add_l : addR (.lst xs) (.lst ys) M F = (xs.length + ys.length ≤ 1000000 ∧ F (.lst (xs ++ ys)) M) := rfl
theorem r_sub : subR (.int i) (.int j) M F = F (.int (i - j)) M := rfl
theorem r_mul : mulR (.int i) (.int j) M F = (((-(2 ^ 64) < i ∧ i < 2 ^ 64) ∨ (-(2 ^ 64) < j ∧ j < 2 ^ 64)) ∧ F (.int (i * j)) M) := rfl
theorem r_mul_l : mulR (.lst xs) (.int i) M F = (0 ≤ i ∧ i ≤ 1000000 ∧ xs.length * i.toNat ≤ 1000000 ∧ F (.lst (List.replicate i.toNat xs).flatten) M) := rfl
theorem r_fdiv : fdivR (.int i) (.int j) M F = ((0 < j ∧ j < 1073741824) ∧ F (.int (i / j)) M) := rfl
theorem r_mod : modR (.int i) (.int j) M F = (0 < j ∧ F (.int (i % j)) M) := rfl
theorem r_pow : powR (.int i) (.int j) M F = ((0 ≤ j ∧ j ≤ 1000000 ∧ i.natAbs < 2 ^ 64) ∧ F (.int (i ^ j.toNat)) M) := rfl
theorem r_lt {p : Int → Int → Bool} : ltR p (.int i) (.int j) M F = F (.bl (p i j)) M := rfl
theorem r_ix_l : ixR (.lst xs) (.int i) M F = eO (atI xs i) fun d => F d M := by
  unfold ixR atD eO
  dsimp only
  generalize atI xs i = q
  cases q <;> rfl
theorem r_ix_t : ixR (.tup xs) (.int i) M F = eO (atI xs i) fun d => F d M := by
  unfold ixR atD eO
  dsimp only
  generalize atI xs i = q
  cases q <;> rfl
theorem r_ix_s : ixR (.str x) (.int i) M F = (x.length ≤ 1000000 ∧ eO (atI x.cps.toList i) fun c => F (.str ⟨#[c]⟩) M) := by
  unfold ixR eO
  dsimp only
  generalize atI x.cps.toList i = q
  cases q <;> rfl
theorem r_ix_rl : ixR (.ref a) (.int i) M F = eML (M a) fun xs => eO (atI xs i) fun d => F d M := by
  first
    | rfl
    | (unfold ixR
       try unfold eML
       try unfold eMD
       dsimp only
       generalize M a = o
       cases o with
       | none => rfl
       | some m =>
         cases m with
         | lst xs => first | rfl | (unfold eO; dsimp only; first | (generalize atI xs i = q; cases q <;> rfl) | (generalize xs.getLast? = q; cases q <;> rfl) | (generalize ixN xs.length i = q; cases q <;> rfl)) | (unfold atD eO; dsimp only; generalize atI xs i = q; cases q <;> rfl)
         | dic kvs => first | rfl | (unfold eO keyD; dsimp only; generalize valD kvs (Sum.inr x) = q; cases q <;> rfl))
theorem r_ix_rd : ixR (.ref a) (.str x) M F = eMD (M a) fun kvs => eO (valD kvs (.inr x)) fun d => F d M := by
  first
    | rfl
    | (unfold ixR
       try unfold eML
       try unfold eMD
       dsimp only
       generalize M a = o
       cases o with
       | none => rfl
       | some m =>
         cases m with
         | lst xs => first | rfl | (unfold eO; dsimp only; first | (generalize atI xs i = q; cases q <;> rfl) | (generalize xs.getLast? = q; cases q <;> rfl) | (generalize ixN xs.length i = q; cases q <;> rfl)) | (unfold atD eO; dsimp only; generalize atI xs i = q; cases q <;> rfl)
         | dic kvs => first | rfl | (unfold eO keyD; dsimp only; generalize valD kvs (Sum.inr x) = q; cases q <;> rfl))
theorem r_sl_l {lo hi : Option Int} : slR (.lst xs) lo hi M F = F (.lst (cutL xs lo hi)) M := rfl
theorem r_sl_sl {lo hi : Option Int} : slR (.slst xs) lo hi M F = F (.lst (cutL xs lo hi)) M := rfl
theorem r_sl_t {lo hi : Option Int} : slR (.tup xs) lo hi M F = F (.tup (cutL xs lo hi)) M := rfl
theorem r_sl_s {lo hi : Option Int} : slR (.str x) lo hi M F = (x.length ≤ 1000000 ∧ F (.str (cutS x lo hi)) M) := rfl
theorem r_len_l : lenR [.lst xs] M F = F (.int xs.length) M := rfl
theorem r_len_sl : lenR [.slst xs] M F = F (.int xs.length) M := rfl
theorem r_len_t : lenR [.tup xs] M F = F (.int xs.length) M := rfl
theorem r_len_s : lenR [.str x] M F = (x.length ≤ 1000000 ∧ F (.int x.length) M) := rfl
theorem r_len_r : lenR [.ref a] M F = eML (M a) fun xs => F (.int xs.length) M := by
  first
    | rfl
    | (unfold lenR
       try unfold eML
       try unfold eMD
       dsimp only
       generalize M a = o
       cases o with
       | none => rfl
       | some m =>
         cases m with
         | lst xs => first | rfl | (unfold eO; dsimp only; first | (generalize atI xs i = q; cases q <;> rfl) | (generalize xs.getLast? = q; cases q <;> rfl) | (generalize ixN xs.length i = q; cases q <;> rfl)) | (unfold atD eO; dsimp only; generalize atI xs i = q; cases q <;> rfl)
         | dic kvs => first | rfl | (unfold eO keyD; dsimp only; generalize valD kvs (Sum.inr x) = q; cases q <;> rfl))
theorem r_all : allR [.lst xs] M F = (xs.all isBl = true ∧ F (.bl (xs.all getBl)) M) := rfl
theorem r_any : anyR [.lst xs] M F = (xs.all isBl = true ∧ F (.bl (xs.any getBl)) M) := rfl
theorem r_tuple_l : tupleR [.lst xs] M F = F (.tup xs) M := rfl
theorem r_tuple_sl : tupleR [.slst xs] M F = F (.tup xs) M := rfl
theorem r_tuple_t : tupleR [.tup xs] M F = F (.tup xs) M := rfl
theorem r_tuple_r : tupleR [.ref a] M F = eML (M a) fun xs => F (.tup xs) M := by
  first
    | rfl
    | (unfold tupleR
       try unfold eML
       try unfold eMD
       dsimp only
       generalize M a = o
       cases o with
       | none => rfl
       | some m =>
         cases m with
         | lst xs => first | rfl | (unfold eO; dsimp only; first | (generalize atI xs i = q; cases q <;> rfl) | (generalize xs.getLast? = q; cases q <;> rfl) | (generalize ixN xs.length i = q; cases q <;> rfl)) | (unfold atD eO; dsimp only; generalize atI xs i = q; cases q <;> rfl)
         | dic kvs => first | rfl | (unfold eO keyD; dsimp only; generalize valD kvs (Sum.inr x) = q; cases q <;> rfl))
theorem r_list_l : listR [.lst xs] M F = F (.lst xs) M := rfl
theorem r_list_sl : listR [.slst xs] M F = F (.lst xs) M := rfl
theorem r_list_t : listR [.tup xs] M F = F (.lst xs) M := rfl
theorem r_list_r : listR [.ref a] M F = eML (M a) fun xs => F (.lst xs) M := by
  first
    | rfl
    | (unfold listR
       try unfold eML
       try unfold eMD
       dsimp only
       generalize M a = o
       cases o with
       | none => rfl
       | some m =>
         cases m with
         | lst xs => first | rfl | (unfold eO; dsimp only; first | (generalize atI xs i = q; cases q <;> rfl) | (generalize xs.getLast? = q; cases q <;> rfl) | (generalize ixN xs.length i = q; cases q <;> rfl)) | (unfold atD eO; dsimp only; generalize atI xs i = q; cases q <;> rfl)
         | dic kvs => first | rfl | (unfold eO keyD; dsimp only; generalize valD kvs (Sum.inr x) = q; cases q <;> rfl))
theorem r_ord : ordR [.str x] M F = eC x fun c => F (.int (c : Nat)) M := rfl
theorem r_repr : reprR [d] M F = ((shOk d = true ∧ cst d ≤ 1000000 ∧ dep d ≤ 100) ∧ F (.str (shw d)) M) := rfl
theorem r_pop : popR (.ref a) [] M F = eML (M a) fun xs => eO xs.getLast? fun y => F y (updM M a (.lst xs.dropLast)) := by
  first
    | rfl
    | (unfold popR
       try unfold eML
       try unfold eMD
       dsimp only
       generalize M a = o
       cases o with
       | none => rfl
       | some m =>
         cases m with
         | lst xs => first | rfl | (unfold eO; dsimp only; first | (generalize atI xs i = q; cases q <;> rfl) | (generalize xs.getLast? = q; cases q <;> rfl) | (generalize ixN xs.length i = q; cases q <;> rfl)) | (unfold atD eO; dsimp only; generalize atI xs i = q; cases q <;> rfl)
         | dic kvs => first | rfl | (unfold eO keyD; dsimp only; generalize valD kvs (Sum.inr x) = q; cases q <;> rfl))
theorem r_app : appR (.ref a) [d] M F = eML (M a) fun xs => xs.length < 1000000 ∧ F .non (updM M a (.lst (xs ++ [d]))) := by
  first
    | rfl
    | (unfold appR
       try unfold eML
       try unfold eMD
       dsimp only
       generalize M a = o
       cases o with
       | none => rfl
       | some m =>
         cases m with
         | lst xs => first | rfl | (unfold eO; dsimp only; first | (generalize atI xs i = q; cases q <;> rfl) | (generalize xs.getLast? = q; cases q <;> rfl) | (generalize ixN xs.length i = q; cases q <;> rfl)) | (unfold atD eO; dsimp only; generalize atI xs i = q; cases q <;> rfl)
         | dic kvs => first | rfl | (unfold eO keyD; dsimp only; generalize valD kvs (Sum.inr x) = q; cases q <;> rfl))
theorem r_ext : extR (.ref a) [.lst ys] M F = eML (M a) fun xs => xs.length + ys.length ≤ 1000000 ∧ F .non (updM M a (.lst (xs ++ ys))) := by
  first
    | rfl
    | (unfold extR
       try unfold eML
       try unfold eMD
       dsimp only
       generalize M a = o
       cases o with
       | none => rfl
       | some m =>
         cases m with
         | lst xs => first | rfl | (unfold eO; dsimp only; first | (generalize atI xs i = q; cases q <;> rfl) | (generalize xs.getLast? = q; cases q <;> rfl) | (generalize ixN xs.length i = q; cases q <;> rfl)) | (unfold atD eO; dsimp only; generalize atI xs i = q; cases q <;> rfl)
         | dic kvs => first | rfl | (unfold eO keyD; dsimp only; generalize valD kvs (Sum.inr x) = q; cases q <;> rfl))
theorem r_join : joinR (.str x) [.lst xs] M F = (xs.all isSt = true ∧ ((xs.map fun d => (getSt d).length).sum + xs.length * x.length ≤ 1000000) ∧ F (.str (Txt.join x (xs.map getSt))) M) := rfl
theorem r_join_t : joinR (.str x) [.tup xs] M F = (xs.all isSt = true ∧ ((xs.map fun d => (getSt d).length).sum + xs.length * x.length ≤ 1000000) ∧ F (.str (Txt.join x (xs.map getSt))) M) := rfl
theorem r_isl_r : isLst (.ref a) M = eML (M a) fun _ => True := by
  first
    | rfl
    | (unfold isLst
       try unfold eML
       try unfold eMD
       dsimp only
       generalize M a = o
       cases o with
       | none => rfl
       | some m =>
         cases m with
         | lst xs => first | rfl | (unfold eO; dsimp only; first | (generalize atI xs i = q; cases q <;> rfl) | (generalize xs.getLast? = q; cases q <;> rfl) | (generalize ixN xs.length i = q; cases q <;> rfl)) | (unfold atD eO; dsimp only; generalize atI xs i = q; cases q <;> rfl)
         | dic kvs => first | rfl | (unfold eO keyD; dsimp only; generalize valD kvs (Sum.inr x) = q; cases q <;> rfl))
theorem r_isl_l : isLst (.lst xs) M = True := rfl
theorem r_in : inR b (.str x) (.str y) M F = eC x fun c => F (.bl (if b then !decide (c ∈ y.cps.toList) else decide (c ∈ y.cps.toList))) M := rfl
theorem r_put_d : ePut (.ref a) (.str x) M v NM = eMD (M a) fun kvs => kvs.length < 1000000 ∧ NM (updM M a (.dic (putD kvs (.inr x) v))) := by
  first
    | rfl
    | (unfold ePut
       try unfold eML
       try unfold eMD
       dsimp only
       generalize M a = o
       cases o with
       | none => rfl
       | some m =>
         cases m with
         | lst xs => first | rfl | (unfold eO; dsimp only; first | (generalize atI xs i = q; cases q <;> rfl) | (generalize xs.getLast? = q; cases q <;> rfl) | (generalize ixN xs.length i = q; cases q <;> rfl)) | (unfold atD eO; dsimp only; generalize atI xs i = q; cases q <;> rfl)
         | dic kvs => first | rfl | (unfold eO keyD; dsimp only; generalize valD kvs (Sum.inr x) = q; cases q <;> rfl))
theorem r_put_l : ePut (.ref a) (.int i) M v NM = eML (M a) fun xs => eO (ixN xs.length i) fun j => NM (updM M a (.lst (xs.set j v))) := by
  first
    | rfl
    | (unfold ePut
       try unfold eML
       try unfold eMD
       dsimp only
       generalize M a = o
       cases o with
       | none => rfl
       | some m =>
         cases m with
         | lst xs => first | rfl | (unfold eO; dsimp only; first | (generalize atI xs i = q; cases q <;> rfl) | (generalize xs.getLast? = q; cases q <;> rfl) | (generalize ixN xs.length i = q; cases q <;> rfl)) | (unfold atD eO; dsimp only; generalize atI xs i = q; cases q <;> rfl)
         | dic kvs => first | rfl | (unfold eO keyD; dsimp only; generalize valD kvs (Sum.inr x) = q; cases q <;> rfl))
theorem r_eq_i : eqR (.int i) (.int j) M F = F (.bl (decide (i = j))) M := rfl
theorem r_eq_s : eqR (.str x) (.str y) M F = F (.bl (decide (x = y))) M := rfl
theorem r_ne_i : neR (.int i) (.int j) M F = F (.bl (!decide (i = j))) M := rfl
theorem r_ne_s : neR (.str x) (.str y) M F = F (.bl (!decide (x = y))) M := rfl
theorem r_eq_t0 : eqR (.tup xs) (.tup []) M F = F (.bl xs.isEmpty) M := rfl
theorem r_ne_t0 : neR (.tup xs) (.tup []) M F = F (.bl (!xs.isEmpty)) M := rfl
theorem r_eq_r0 : eqR (.ref a) (.lst []) M F = eML (M a) fun xs => F (.bl xs.isEmpty) M := by
  first
    | rfl
    | (unfold eqR
       try unfold eML
       try unfold eMD
       dsimp only
       generalize M a = o
       cases o with
       | none => rfl
       | some m =>
         cases m with
         | lst xs => first | rfl | (unfold eO; dsimp only; first | (generalize atI xs i = q; cases q <;> rfl) | (generalize xs.getLast? = q; cases q <;> rfl) | (generalize ixN xs.length i = q; cases q <;> rfl)) | (unfold atD eO; dsimp only; generalize atI xs i = q; cases q <;> rfl)
         | dic kvs => first | rfl | (unfold eO keyD; dsimp only; generalize valD kvs (Sum.inr x) = q; cases q <;> rfl))
theorem r_ne_r0 : neR (.ref a) (.lst []) M F = eML (M a) fun xs => F (.bl (!xs.isEmpty)) M := by
  first
    | rfl
    | (unfold neR
       try unfold eML
       try unfold eMD
       dsimp only
       generalize M a = o
       cases o with
       | none => rfl
       | some m =>
         cases m with
         | lst xs => first | rfl | (unfold eO; dsimp only; first | (generalize atI xs i = q; cases q <;> rfl) | (generalize xs.getLast? = q; cases q <;> rfl) | (generalize ixN xs.length i = q; cases q <;> rfl)) | (unfold atD eO; dsimp only; generalize atI xs i = q; cases q <;> rfl)
         | dic kvs => first | rfl | (unfold eO keyD; dsimp only; generalize valD kvs (Sum.inr x) = q; cases q <;> rfl))
theorem r_eq_l0 : eqR (.lst xs) (.lst []) M F = F (.bl xs.isEmpty) M := rfl
theorem r_ne_l0 : neR (.lst xs) (.lst []) M F = F (.bl (!xs.isEmpty)) M := rfl
theorem r_start : startD n xs = xs.map some ++ List.replicate (n - xs.length) none := rfl
end
end Fx

namespace Fx
open PySem PySem.Spec PyProof.Rows L2

/-- no test -/
theorem lc_map {T : TId} {t : Tg} {E : TEd} {vs : List Nat} {ds : Ds} {M : Mp} {F : DK} {xs : List D} (v : D → D) (hl : xs.length ≤ 1000000) (hT : ∀ G : List D → Mp → Prop, G xs M → T ds M G)
    (he : ∀ d ∈ xs, gD t d (wipeD ds vs) fun ds2 => ∀ M' (G : DK), G (v d) M' → E ds2 M' G)
    (hF : F (.lst (xs.map v)) M) : lcD T t yesD E vs ds M F :=
  lc_pure (fun _ => true) v hl hT (fun d hd => gD_mono t (fun ds2 h => ⟨fun M' G g => g, fun _ => h⟩) (he d hd)) (by
    have e : xs.filter (fun _ => true) = xs := by simp
    rw [e]
    exact hF)

/-! the hand: a dict with a list of cells -/
def HandAt (M : Mp) (h c : Addr) : Prop := ∃ (cells : List Int) (m n : Int), M h = some (.dic [(.inr "cells", .ref c), (.inr "mixed", .int m), (.inr "draws", .int n)]) ∧ M c = some (.lst (cells.map D.int)) ∧ 0 ≤ m ∧ m < 2147483563 ∧ 0 ≤ n ∧ cells.length ≤ 63
def Oth (h c : Addr) (M M' : Mp) : Prop := ∀ b, b ≠ h → b ≠ c → M' b = M b
theorem HandAt.ne {M : Mp} {h c : Addr} (x : HandAt M h c) : h ≠ c := fun e => by
  obtain ⟨_, _, _, h1, h2, _⟩ := x
  rw [e, h2] at h1
  cases h1
theorem Oth.refl (h c : Addr) (M : Mp) : Oth h c M M := fun _ _ _ => rfl
theorem Oth.trans {h c : Addr} {M M1 M2 : Mp} (a : Oth h c M M1) (b : Oth h c M1 M2) : Oth h c M M2 := fun x p q => (b x p q).trans (a x p q)
def R_hand : RD
  | [.slst xs], M, F => ∃ ns : List Int, xs = ns.map D.int ∧ ns.length ≤ 63 ∧ ∀ h c M', M h = none → M c = none → HandAt M' h c → Oth h c M M' → F (.ref h) M'
  | _, _, _ => False
def R_draw : RD
  | [.ref h, .int many], M, F => ∃ c, HandAt M h c ∧ 0 < many ∧ many < 1073741824 ∧ ∀ r M', 0 ≤ r → r < many → HandAt M' h c → Oth h c M M' → F (.int r) M'
  | _, _, _ => False
def R_pick : RD
  | [.ref h, .lst xs], M, F => ∃ c, HandAt M h c ∧ 0 < xs.length ∧ xs.length ≤ 1000000 ∧ ∀ d M', d ∈ xs → HandAt M' h c → Oth h c M M' → F d M'
  | _, _, _ => False
theorem ln_hand : ∀ xs M F, R_hand xs M F → xs.length = 1 := by
  intro xs M F h
  unfold R_hand at h
  split at h
  · rfl
  · exact h.elim
theorem ln_draw : ∀ xs M F, R_draw xs M F → xs.length = 2 := by
  intro xs M F h
  unfold R_draw at h
  split at h
  · rfl
  · exact h.elim
theorem ln_pick : ∀ xs M F, R_pick xs M F → xs.length = 2 := by
  intro xs M F h
  unfold R_pick at h
  split at h
  · rfl
  · exact h.elim
/-- the hand at the state of a turn -/
theorem val_cells {d e f : D} : valD [(.inr "cells", d), (.inr "mixed", e), (.inr "draws", f)] (.inr "cells") = some d := by
  unfold valD
  rfl
theorem val_mixed {d e f : D} : valD [(.inr "cells", d), (.inr "mixed", e), (.inr "draws", f)] (.inr "mixed") = some e := by
  unfold valD
  rfl
theorem val_draws {d e f : D} : valD [(.inr "cells", d), (.inr "mixed", e), (.inr "draws", f)] (.inr "draws") = some f := by
  unfold valD
  rfl
theorem put_draws {d e f g : D} : putD [(.inr "cells", d), (.inr "mixed", e), (.inr "draws", f)] (.inr "draws") g = [(.inr "cells", d), (.inr "mixed", e), (.inr "draws", g)] := by
  unfold putD
  rfl
theorem atI_mem {xs : List D} {r : Int} (h0 : 0 ≤ r) (h1 : r < xs.length) : ∃ d, atI xs r = some d ∧ d ∈ xs := by
  have hr : r.toNat < xs.length := by omega
  refine ⟨xs[r.toNat], ?_, List.getElem_mem hr⟩
  have : atI xs ((r.toNat : Nat) : Int) = some xs[r.toNat] := atI_nat (by simp [hr])
  have e : ((r.toNat : Nat) : Int) = r := by omega
  rw [e] at this
  exact this

/-! data of a size, with no address within -/
mutual
def nos : D → Bool
  | .tup ds => noss ds
  | .lst ds => noss ds
  | .slst _ | .ref _ | .ty _ => false
  | _ => true
def noss : List D → Bool
  | [] => true
  | d :: ds => nos d && noss ds
end
structure Itm (c k : Nat) (d : D) : Prop where
  sh : shOk d = true
  no : nos d = true
  cs : cst d ≤ c
  dp : dep d ≤ k
structure Itl (c k : Nat) (xs : List D) : Prop where
  sh : shOks xs = true
  no : noss xs = true
  cs : csts xs ≤ c
  dp : deps xs ≤ k
theorem Itm.mono {c k c' k' : Nat} {d : D} (h : Itm c k d) (hc : c ≤ c') (hk : k ≤ k') : Itm c' k' d := ⟨h.sh, h.no, Nat.le_trans h.cs hc, Nat.le_trans h.dp hk⟩
theorem Itl.mono {c k c' k' : Nat} {d : List D} (h : Itl c k d) (hc : c ≤ c') (hk : k ≤ k') : Itl c' k' d := ⟨h.sh, h.no, Nat.le_trans h.cs hc, Nat.le_trans h.dp hk⟩
theorem Itl.nil {c k : Nat} : Itl c k [] := ⟨rfl, rfl, Nat.zero_le _, Nat.zero_le _⟩
theorem Itl.cons {c c' k : Nat} {d : D} {xs : List D} (h : Itm c k d) (r : Itl c' k xs) : Itl (c + 2 + c') k (d :: xs) := ⟨by rw [shOks, h.sh, r.sh]; rfl, by rw [noss, h.no, r.no]; rfl, by rw [csts]; have := h.cs; have := r.cs; omega, by rw [deps]; exact Nat.max_le.mpr ⟨h.dp, r.dp⟩⟩
theorem Itl.append {c c' k : Nat} : ∀ {xs ys : List D}, Itl c k xs → Itl c' k ys → Itl (c + c') k (xs ++ ys)
  | [], ys, _, h => h.mono (by omega) (Nat.le_refl _)
  | x :: xs, ys, h, h' => by
    have a1 : shOk x = true ∧ shOks xs = true := by have := h.sh; rw [shOks] at this; simpa using this
    have a2 : nos x = true ∧ noss xs = true := by have := h.no; rw [noss] at this; simpa using this
    have a3 : cst x + 2 + csts xs ≤ c := by have := h.cs; rw [csts] at this; exact this
    have a4 : dep x ≤ k ∧ deps xs ≤ k := by have := h.dp; rw [deps] at this; exact Nat.max_le.mp this
    have hx : Itm (cst x) k x := ⟨a1.1, a2.1, Nat.le_refl _, a4.1⟩
    have hr : Itl (c - (cst x + 2)) k xs := ⟨a1.2, a2.2, by omega, a4.2⟩
    exact (Itl.cons hx (Itl.append hr h')).mono (by omega) (Nat.le_refl _)
theorem Itl.parts {c k : Nat} {x : D} {xs : List D} (h : Itl c k (x :: xs)) : Itm c k x ∧ Itl c k xs ∧ cst x + 2 + csts xs ≤ c := by
  have a1 : shOk x = true ∧ shOks xs = true := by have := h.sh; rw [shOks] at this; simpa using this
  have a2 : nos x = true ∧ noss xs = true := by have := h.no; rw [noss] at this; simpa using this
  have a3 : cst x + 2 + csts xs ≤ c := by have := h.cs; rw [csts] at this; exact this
  have a4 : dep x ≤ k ∧ deps xs ≤ k := by have := h.dp; rw [deps] at this; exact Nat.max_le.mp this
  exact ⟨⟨a1.1, a2.1, by omega, a4.1⟩, ⟨a1.2, a2.2, by omega, a4.2⟩, a3⟩
theorem Itl.take {c k : Nat} : ∀ {xs : List D} (n : Nat), Itl c k xs → Itl c k (xs.take n)
  | _, 0, _ => by rw [List.take_zero]; exact Itl.nil
  | [], _ + 1, h => h
  | x :: xs, n + 1, h => by
    obtain ⟨h1, h2, h3⟩ := h.parts
    have hx : Itm (cst x) k x := ⟨h1.sh, h1.no, Nat.le_refl _, h1.dp⟩
    have hr : Itl (c - (cst x + 2)) k (xs.take n) := Itl.take n ⟨h2.sh, h2.no, by omega, h2.dp⟩
    exact (Itl.cons hx hr).mono (by omega) (Nat.le_refl _)
theorem Itl.drop {c k : Nat} : ∀ {xs : List D} (n : Nat), Itl c k xs → Itl c k (xs.drop n)
  | _, 0, h => h
  | [], _ + 1, h => h
  | x :: xs, n + 1, h => Itl.drop n h.parts.2.1
theorem Itl.cut {c k : Nat} {xs : List D} {lo hi : Option Int} (h : Itl c k xs) : Itl c k (cutL xs lo hi) := (h.drop _).take _
theorem Itl.mem {c k : Nat} : ∀ {xs : List D} {d : D}, Itl c k xs → d ∈ xs → Itm c k d
  | x :: xs, d, h, m => by
    rcases List.mem_cons.mp m with e | m
    · rw [e]; exact h.parts.1
    · exact Itl.mem h.parts.2.1 m
theorem Itl.len {c k : Nat} : ∀ {xs : List D}, Itl c k xs → 2 * xs.length ≤ c
  | [], _ => Nat.zero_le _
  | x :: xs, h => by
    obtain ⟨h1, h2, h3⟩ := h.parts
    have := Itl.len (c := c - (cst x + 2)) ⟨h2.sh, h2.no, by omega, h2.dp⟩
    rw [List.length_cons]
    omega
theorem Itl.all {c k n : Nat} : ∀ {xs : List D}, (∀ d ∈ xs, Itm c k d) → xs.length ≤ n → Itl (n * (c + 2)) k xs
  | [], _, _ => Itl.nil
  | x :: xs, h, hl => by
    rw [List.length_cons] at hl
    cases n with
    | zero => omega
    | succ m =>
      have ih := Itl.all (n := m) (fun d hd => h d (List.mem_cons_of_mem _ hd)) (by omega)
      refine (Itl.cons (h x List.mem_cons_self) ih).mono ?_ (Nat.le_refl _)
      rw [Nat.succ_mul]
      omega
theorem Itm.tup {c k : Nat} {xs : List D} (h : Itl c k xs) : Itm (c + 3) (k + 1) (.tup xs) := ⟨by rw [shOk]; exact h.sh, by rw [nos]; exact h.no, by rw [cst]; have := h.cs; omega, by rw [dep]; have := h.dp; omega⟩
theorem Itm.lst {c k : Nat} {xs : List D} (h : Itl c k xs) : Itm (c + 3) (k + 1) (.lst xs) := ⟨by rw [shOk]; exact h.sh, by rw [nos]; exact h.no, by rw [cst]; have := h.cs; omega, by rw [dep]; have := h.dp; omega⟩
theorem Itm.of_tup {c k : Nat} {xs : List D} (h : Itm c k (.tup xs)) : Itl c k xs := ⟨by have := h.sh; rw [shOk] at this; exact this, by have := h.no; rw [nos] at this; exact this, by have := h.cs; rw [cst] at this; omega, by have := h.dp; rw [dep] at this; omega⟩
theorem Itm.of_lst {c k : Nat} {xs : List D} (h : Itm c k (.lst xs)) : Itl c k xs := ⟨by have := h.sh; rw [shOk] at this; exact this, by have := h.no; rw [nos] at this; exact this, by have := h.cs; rw [cst] at this; omega, by have := h.dp; rw [dep] at this; omega⟩
theorem Itm.str {c k : Nat} {x : Str} (h : Itm c k (.str x)) : 10 * x.length + 4 ≤ c := by have := h.cs; rw [cst] at this; exact this
theorem Itm.ofStr {k : Nat} {x : Str} (h : x.cps.toList.all (fun c => decide (c < 1114112)) = true) : Itm (10 * x.length + 4) k (.str x) := ⟨by rw [shOk]; exact h, rfl, by rw [cst]; exact Nat.le_refl _, Nat.zero_le _⟩
theorem Itm.int {k : Nat} {i : Int} (h : i.natAbs.log2 < 1920) : Itm 2000 k (.int i) := ⟨by rw [shOk]; exact decide_eq_true h, rfl, by rw [cst]; exact Nat.le_refl _, Nat.zero_le _⟩
theorem Itm.non {k : Nat} : Itm 5 k .non := ⟨rfl, rfl, (by show (5 : Nat) ≤ 5; decide), Nat.zero_le _⟩
theorem Itm.bl {k : Nat} {b : Bool} : Itm 5 k (.bl b) := ⟨rfl, rfl, (by show (5 : Nat) ≤ 5; decide), Nat.zero_le _⟩
/-- a written value -/
theorem Itm.dec {c k : Nat} {d : D} (h : (shOk d && nos d && decide (cst d ≤ c) && decide (dep d ≤ k)) = true) : Itm c k d := by
  simp only [Bool.and_eq_true, decide_eq_true_eq] at h
  exact ⟨h.1.1.1, h.1.1.2, h.1.2, h.2⟩
theorem Itm.repr {c k : Nat} {d : D} (h : Itm c k d) (hc : c ≤ 1000000) (hk : k ≤ 100) : shOk d = true ∧ cst d ≤ 1000000 ∧ dep d ≤ 100 := ⟨h.sh, Nat.le_trans h.cs hc, Nat.le_trans h.dp hk⟩
end Fx

namespace Fx
open PySem PySem.Spec PyProof.Rows L2
theorem reprChar_head (q c : Nat) : (Builtin.Str.reprChar q c).head? = some 92 ∨ Builtin.Str.reprChar q c = [c] := by
  unfold Builtin.Str.reprChar
  repeat' split
  all_goals first
    | exact .inr rfl
    | exact .inl rfl
theorem repr_list (x : Str) : (reprText x).cps.toList = reprQuote x :: (x.cps.toList.flatMap (Builtin.Str.reprChar (reprQuote x)) ++ [reprQuote x]) := by
  unfold reprText
  have h : ∀ (q : Nat) (l : List Nat) (acc : Array Nat), (l.foldl (fun out c => out ++ (Builtin.Str.reprChar q c).toArray) acc).toList = acc.toList ++ l.flatMap (Builtin.Str.reprChar q) := by
    intro q l
    induction l with
    | nil => intro acc; simp
    | cons c l ih => intro acc; rw [List.foldl_cons, ih]; simp
  show (Array.push _ _).toList = _
  rw [Array.toList_push, ← Array.foldl_toList, h]
  rfl
theorem repr_T {x : Str} (h : reprText x = ("'T'" : Str)) : x = ("T" : Str) := by
  have e := repr_list x
  rw [h] at e
  have e0 : (("'T'" : Str)).cps.toList = [39, 84, 39] := by decide +kernel
  rw [e0] at e
  have e1 : reprQuote x = 39 := by injection e with a; exact a.symm
  rw [e1] at e
  have e2 : [84] ++ [39] = x.cps.toList.flatMap (Builtin.Str.reprChar 39) ++ [39] := by injection e
  have e3 := (List.append_inj_left' e2 rfl).symm
  have e4 : x.cps.toList = [84] := by
    cases hx : x.cps.toList with
    | nil => rw [hx] at e3; cases e3
    | cons c l =>
      rw [hx, List.flatMap_cons] at e3
      rcases reprChar_head 39 c with a | a
      · cases hc : Builtin.Str.reprChar 39 c with
        | nil => rw [hc] at a; cases a
        | cons y ys =>
          rw [hc] at a e3
          cases a
          injection e3 with b
          cases b
      · rw [a] at e3
        injection e3 with b1 b2
        subst b1
        cases l with
        | nil => rfl
        | cons d l =>
          exfalso
          change List.flatMap (Builtin.Str.reprChar 39) (d :: l) = [] at b2
          rw [List.flatMap_cons] at b2
          rcases reprChar_head 39 d with a | a
          · cases hc : Builtin.Str.reprChar 39 d with
            | nil => rw [hc] at a; cases a
            | cons y ys => rw [hc] at b2; cases b2
          · rw [a] at b2; cases b2
  cases x with
  | mk a =>
    have : a = #[84] := Array.toList_inj.mp e4
    rw [this]
    decide +kernel
theorem ends_of {x y : Str} {c : Nat} {z : Str} (h : x ++ y = z) (hy : y.cps.toList = [c]) : z.cps.toList.getLast? = some c := by
  rw [← h]
  show (x.cps ++ y.cps).toList.getLast? = _
  rw [Array.toList_append, hy]
  simp
theorem shw_T (d : D) (h : shOk d = true) (hn : ∀ x, d ≠ .str x) : shw d ≠ ("'T'" : Str) := by
  have e0 : (("'T'" : Str)).cps.toList = [39, 84, 39] := by decide +kernel
  have e1 : (("'T'" : Str)).cps.toList.getLast? = some 39 := by decide +kernel
  intro e
  unfold shw at e
  cases d with
  | non => rw [py, PyData.shown] at e; exact absurd e (by decide +kernel)
  | bl b => rw [py, PyData.shown] at e; cases b <;> exact absurd e (by decide +kernel)
  | int i =>
    rw [py, PyData.shown] at e
    have := int_text_free' 84 ⟨by decide, by decide⟩ i
    rw [e, e0] at this
    exact this (by decide)
  | str x => exact hn x rfl
  | tup xs =>
    rw [py, PyData.shown] at e
    unfold tupleText at e
    split at e
    · have e2 : ∃ y : Str, y ++ (")" : Str) = ("'T'" : Str) := by
        refine ⟨("(" : Str) ++ Str.join ", " (PyData.shownAll (pys xs)) ++ ("," : Str), ?_⟩
        rw [← e]
        have : ((",)" : String) : Str) = ("," : Str) ++ (")" : Str) := by decide +kernel
        rw [this]
        apply congrArg PySem.Str.mk
        exact Array.append_assoc
      obtain ⟨y, e2⟩ := e2
      have := ends_of (c := 41) e2 (by decide +kernel)
      rw [e1] at this
      cases this
    · have := ends_of (c := 41) e (by decide +kernel)
      rw [e1] at this
      cases this
  | lst xs =>
    rw [py, PyData.shown] at e
    have := ends_of (c := 93) e (by decide +kernel)
    rw [e1] at this
    cases this
  | slst xs =>
    rw [py, PyData.shown] at e
    have := ends_of (c := 93) e (by decide +kernel)
    rw [e1] at this
    cases this
  | dic kvs =>
    rw [py, PyData.shown] at e
    have := ends_of (c := 125) e (by decide +kernel)
    rw [e1] at this
    cases this
  | ref _ => cases h
  | ty _ => cases h
end Fx

namespace Fx
open PySem PySem.Spec PyProof.Rows L2
/-! functions that draw from the hand -/
def R_gen (P : D → Prop) : RD
  | [.ref h], M, F => ∃ c, HandAt M h c ∧ ∀ d M', P d → HandAt M' h c → Oth h c M M' → F d M'
  | _, _, _ => False
theorem ln_gen {P : D → Prop} : ∀ xs M F, R_gen P xs M F → xs.length = 1 := by
  intro xs M F h
  unfold R_gen at h
  split at h
  · rfl
  · exact h.elim
/-- a list written by drawing, after its row is known -/
def lcE (t : Tg) (C : TTd) (E : TEd) (vs : List Nat) (ds : Ds) (xs : List D) (M1 : Mp) (F : DK) : Prop := ∀ L, M1 L = none → ∃ W : Nat → List D → Mp → Prop, W 0 [] (updM M1 L (.lst [])) ∧
  (∀ i d acc M', xs[i]? = some d → W i acc M' → acc.length < 1000000 ∧ gD t d (wipeD ds vs) fun ds2 => C ds2 M' fun b M2 => br b
    (E ds2 M2 fun y M3 => M3 L = some (.lst acc) ∧ W (i + 1) (acc ++ [y]) (updM M3 L (.lst (acc ++ [y]))))
    (W (i + 1) acc M2)) ∧ ∀ acc M', W xs.length acc M' → M' L = some (.lst acc) ∧ F (.lst acc) (delM M' L)
theorem q_lc {T : TId} {t : Tg} {C : TTd} {E : TEd} {vs : List Nat} {ds : Ds} {M : Mp} {F : DK} : lcD T t C E vs ds M F = T ds M fun xs M1 => lcE t C E vs ds xs M1 F := rfl
theorem HandAt.upd {M : Mp} {h c L : Addr} {m : MO} (hd : HandAt M h c) (h1 : L ≠ h) (h2 : L ≠ c) : HandAt (updM M L m) h c := by
  obtain ⟨cells, a, n, e1, e2, r⟩ := hd
  exact ⟨cells, a, n, (updM_ne h1.symm).trans e1, (updM_ne h2.symm).trans e2, r⟩
theorem HandAt.del {M : Mp} {h c L : Addr} (hd : HandAt M h c) (h1 : L ≠ h) (h2 : L ≠ c) : HandAt (delM M L) h c := by
  obtain ⟨cells, a, n, e1, e2, r⟩ := hd
  refine ⟨cells, a, n, ?_, ?_, r⟩
  · unfold delM
    rw [if_neg h1.symm]
    exact e1
  · unfold delM
    rw [if_neg h2.symm]
    exact e2
theorem HandAt.off {M : Mp} {h c L : Addr} (hd : HandAt M h c) (hL : M L = none) : L ≠ h ∧ L ≠ c := by
  obtain ⟨cells, a, n, e1, e2, r⟩ := hd
  refine ⟨fun e => ?_, fun e => ?_⟩
  · rw [e, e1] at hL; cases hL
  · rw [e, e2] at hL; cases hL
theorem lc_draw {t : Tg} {E : TEd} {vs : List Nat} {ds : Ds} {M : Mp} {F : DK} {xs : List D} {h c : Addr} (P : D → Prop) (hd : HandAt M h c) (hl : xs.length ≤ 1000000)
    (he : ∀ d ∈ xs, gD t d (wipeD ds vs) fun ds2 => ∀ M' (G : DK), HandAt M' h c → (∀ y M2, P y → HandAt M2 h c → Oth h c M' M2 → G y M2) → E ds2 M' G)
    (hF : ∀ ys M', ys.length = xs.length → (∀ y ∈ ys, P y) → HandAt M' h c → Oth h c M M' → F (.lst ys) M') : lcE t yesD E vs ds xs M F := by
  intro L hL
  obtain ⟨o1, o2⟩ := hd.off hL
  refine ⟨fun i acc M' => acc.length = i ∧ (∀ y ∈ acc, P y) ∧ M' L = some (.lst acc) ∧ HandAt M' h c ∧ (∀ b, b ≠ h → b ≠ c → b ≠ L → M' b = M b), ⟨rfl, fun y hy => absurd hy (by simp), updM_same, hd.upd o1 o2, fun b _ _ hb => updM_ne hb⟩, fun i d acc M' hi ⟨w1, w2, w3, w4, w5⟩ => ?_, fun acc M' ⟨w1, w2, w3, w4, w5⟩ => ?_⟩
  · have hx : i < xs.length := (List.getElem?_eq_some_iff.mp hi).1
    refine ⟨by omega, gD_mono t (fun ds2 k => ?_) (he d (List.mem_of_getElem? hi))⟩
    refine k M' _ w4 fun y M2 py h2 ot => ⟨?_, ?_, ?_, updM_same, h2.upd o1 o2, fun b b1 b2 b3 => ?_⟩
    · rw [ot L o1 o2]
      exact w3
    · rw [List.length_append, w1]
      rfl
    · intro z hz
      rcases List.mem_append.mp hz with q | q
      · exact w2 z q
      · rw [List.mem_singleton.mp q]
        exact py
    · rw [updM_ne b3, ot b b1 b2]
      exact w5 b b1 b2 b3
  · refine ⟨w3, hF acc _ w1 w2 (w4.del o1 o2) fun b b1 b2 => ?_⟩
    unfold delM
    by_cases q : b = L
    · rw [if_pos q, q]
      exact hL.symm
    · rw [if_neg q]
      exact w5 b b1 b2 q
/-- a loop, after its row is known -/
def forE (t : Tg) (S : TSd) (B : Endd) (ds : Ds) (xs : List D) (M1 : Mp) : Prop := ∃ W : Nat → Ds → Mp → Prop, W 0 ds M1 ∧
  (∀ i d ds' M', xs[i]? = some d → W i ds' M' → gD t d ds' fun ds2 => S { B with nx := W (i + 1), ct := W (i + 1), bk := B.nx } ds2 M') ∧ ∀ ds' M', W xs.length ds' M' → B.nx ds' M'
theorem q_for {T : TId} {t : Tg} {S : TSd} {B : Endd} {ds : Ds} {M : Mp} : forD T t S B ds M = T ds M fun xs M1 => forE t S B ds xs M1 := rfl
theorem for_inv {t : Tg} {S : TSd} {B : Endd} {ds : Ds} {xs : List D} {M1 : Mp} (W : Nat → Ds → Mp → Prop) (h0 : W 0 ds M1)
    (ht : ∀ i d ds' M', xs[i]? = some d → W i ds' M' → gD t d ds' fun ds2 => S { B with nx := W (i + 1), ct := W (i + 1), bk := B.nx } ds2 M') (hd : ∀ ds' M', W xs.length ds' M' → B.nx ds' M') : forE t S B ds xs M1 := ⟨W, h0, ht, hd⟩
theorem join_flat (xs : List Str) : (Txt.join ("" : Str) xs).cps.toList = xs.flatMap fun x => x.cps.toList := by
  have h : ∀ (l : List Str) (acc : Array Nat), (l.foldl (fun acc (p : Str) => acc ++ ("" : Str).cps ++ p.cps) acc).toList = acc.toList ++ l.flatMap fun x => x.cps.toList := by
    intro l
    induction l with
    | nil => intro acc; simp
    | cons c l ih =>
      intro acc
      have e : ("" : Str).cps = #[] := by decide +kernel
      rw [List.foldl_cons, ih, e]
      simp
  cases xs with
  | nil => rfl
  | cons x xs => exact h xs x.cps
/-- a text joined of letters -/
theorem join_Itm {k : Nat} {xs : List Str} {n : Nat} (hl : xs.length ≤ n) (h : ∀ x ∈ xs, ∃ c, c < 1114112 ∧ x = ⟨#[c]⟩) : Itm (10 * n + 4) k (.str (Txt.join ("" : Str) xs)) := by
  have e := join_flat xs
  have a1 : ∀ l : List Str, (∀ x ∈ l, ∃ c, c < 1114112 ∧ x = ⟨#[c]⟩) → (l.flatMap fun x => x.cps.toList).length = l.length ∧ (l.flatMap fun x => x.cps.toList).all (fun c => decide (c < 1114112)) = true := by
    intro l
    induction l with
    | nil => intro _; exact ⟨rfl, rfl⟩
    | cons x l ih =>
      intro g
      obtain ⟨b1, b2⟩ := ih fun z hz => g z (List.mem_cons_of_mem _ hz)
      obtain ⟨c, hc, rfl⟩ := g x List.mem_cons_self
      rw [List.flatMap_cons]
      refine ⟨?_, ?_⟩
      · rw [List.length_append, b1, List.length_cons]
        exact Nat.add_comm 1 _
      · rw [List.all_append, b2, Bool.and_true]
        show (decide (c < 1114112) && true) = true
        rw [decide_eq_true hc]
        rfl
  obtain ⟨b1, b2⟩ := a1 xs h
  rw [← e] at b1 b2
  have b3 : (Txt.join ("" : Str) xs).length = xs.length := by
    rw [← b1]
    show Array.size _ = _
    simp
  exact (Itm.ofStr b2).mono (by omega) (Nat.le_refl _)
end Fx

namespace K02
open PySem PySem.Spec PyProof.Rows L2 Fx
def T_is_name : TSd := (seqD (ifS (orT (notT (tstD (isiD .str (vD 0)))) (notT (tstD (chainD (ltR fun i j => decide (i ≤ j)) (ltR fun i j => decide (i ≤ j)) (cD (.int 1)) (bltD lenR (consD (vD 0) nilD)) (cD (.int 8)))))) (retD (cD (.bl false))) nextD) (retD (bltD allR (consD (lcD (seqI (vD 0)) (.nm 1) yesD (opD (inR false) (vD 1) (cD (.str "abcdefghijklmnopqrstuvwxyz"))) [1]) nilD))))
def T_has_hole : TSd := (retD (andV (isiD .str (opD ixR (vD 0) (negD (cD (.int 1))))) (opD eqR (opD ixR (vD 0) (negD (cD (.int 1)))) (cD (.str "T")))))
def T_l_hand : TSd := (seqD (parD 1 2 (consD (bltD listR (consD (sliD (vD 0) noO (someO (cD (.int 63)))) nilD)) (consD (cD (.int 98502)) nilD))) (seqD (forD (seqI (vD 1)) (.nm 3) (asgD (opD modR (opD addR (opD addR (opD mulR (vD 2) (cD (.int 40014))) (opD modR (vD 3) (cD (.int 2147483549)))) (cD (.int 19))) (cD (.int 2147483563))) (.nm 2))) (retD (dispD true ["cells", "mixed", "draws"] (consD (revM (vD 1)) (consD (vD 2) (consD (cD (.int 0)) nilD)))))))
def T_l_draw : TSd := (seqD (putS (vD 0) (cD (.str "draws")) (opD addR (opD ixR (vD 0) (cD (.str "draws"))) (cD (.int 1)))) (seqD (asgD (opD addR (opD ixR (vD 0) (cD (.str "mixed"))) (opD mulR (cD (.int 70003)) (opD ixR (vD 0) (cD (.str "draws"))))) (.nm 2)) (seqD (ifS (tstD (opD neR (opD ixR (vD 0) (cD (.str "cells"))) (lstD nilD))) (seqD (asgD (bm0D isLst popR (opD ixR (vD 0) (cD (.str "cells")))) (.nm 3)) (seqD (ifS (tstD (opD (ltR fun i j => decide (j ≤ i)) (vD 3) (opD powR (cD (.int 10)) (cD (.int 18))))) (seqD (dropD (bmD isLst appR (opD ixR (vD 0) (cD (.str "cells"))) (consD (opD fdivR (vD 3) (vD 1)) nilD))) (retD (opD modR (vD 3) (vD 1)))) nextD) (asgD (opD addR (vD 2) (vD 3)) (.nm 2)))) nextD) (seqD (asgD (opD modR (opD mulR (opD modR (vD 2) (cD (.int 2147483549))) (cD (.int 40692))) (cD (.int 2147483399))) (.nm 2)) (seqD (asgD (opD modR (opD addR (opD addR (opD mulR (vD 2) (vD 2)) (opD mulR (cD (.int 60017)) (opD ixR (vD 0) (cD (.str "draws"))))) (cD (.int 5))) (cD (.int 2147483563))) (.nm 2)) (retD (opD modR (opD fdivR (opD modR (opD mulR (vD 2) (cD (.int 39373))) (cD (.int 2147483549))) (cD (.int 32))) (vD 1))))))))
def T_l_is_name : TSd := (seqD (ifS (orT (notT (tstD (isiD .str (vD 0)))) (orT (tstD (opD eqR (bltD lenR (consD (vD 0) nilD)) (cD (.int 0)))) (tstD (opD (ltR fun i j => decide (j < i)) (bltD lenR (consD (vD 0) nilD)) (cD (.int 8)))))) (retD (cD (.bl false))) nextD) (retD (opD eqR (lcD (seqI (vD 0)) (.nm 1) (orT (tstD (opD (ltR fun i j => decide (i < j)) (bltD ordR (consD (vD 1) nilD)) (bltD ordR (consD (cD (.str "a")) nilD)))) (tstD (opD (ltR fun i j => decide (j < i)) (bltD ordR (consD (vD 1) nilD)) (bltD ordR (consD (cD (.str "z")) nilD))))) (vD 1) [1]) (lstD nilD))))
def T_is_kind (R_is_name : RD) : TSd := (retD (andV (isiD .tup (vD 0)) (andV (opD neR (vD 0) (tupD nilD)) (bltD allR (consD (lcD (seqI (vD 0)) (.nm 1) yesD (callD R_is_name (consD (vD 1) nilD)) [1]) nilD)))))
def T_is_pattern (R_has_hole : RD) (R_is_name : RD) : TSd := (seqD (ifS (orT (notT (tstD (isiD .tup (vD 0)))) (orT (tstD (opD eqR (vD 0) (tupD nilD))) (notT (tstD (bltD allR (consD (lcD (seqI (sliD (vD 0) noO (someO (negD (cD (.int 1)))))) (.nm 1) yesD (callD R_is_name (consD (vD 1) nilD)) [1]) nilD)))))) (retD (cD (.bl false))) nextD) (retD (orV (callD R_is_name (consD (opD ixR (vD 0) (negD (cD (.int 1)))) nilD)) (callD R_has_hole (consD (vD 0) nilD)))))
def T_l_pick (R_l_draw : RD) : TSd := (retD (opD ixR (vD 1) (callD R_l_draw (consD (vD 0) (consD (bltD lenR (consD (vD 1) nilD)) nilD)))))
def T_l_due (R_l_is_name : RD) : TSd := (seqD (ifS (tstD (isiD .str (vD 0))) (retD (lstD (consD (callD R_l_is_name (consD (vD 0) nilD)) (consD (cD (.bl false)) (consD (cD (.bl false)) nilD))))) nextD) (seqD (ifS (orT (notT (tstD (isiD .tup (vD 0)))) (tstD (opD eqR (bltD lenR (consD (vD 0) nilD)) (cD (.int 0))))) (retD (lstD (consD (cD (.bl false)) (consD (cD (.bl false)) (consD (cD (.bl false)) nilD))))) nextD) (seqD (ifS (tstD (opD neR (lcD (seqI (sliD (vD 0) noO (someO (negD (cD (.int 1)))))) (.nm 1) (notT (tstD (callD R_l_is_name (consD (vD 1) nilD)))) (vD 1) [1]) (lstD nilD))) (retD (lstD (consD (cD (.bl false)) (consD (cD (.bl false)) (consD (cD (.bl false)) nilD))))) nextD) (seqD (ifS (tstD (callD R_l_is_name (consD (opD ixR (vD 0) (negD (cD (.int 1)))) nilD))) (retD (lstD (consD (cD (.bl false)) (consD (cD (.bl true)) (consD (cD (.bl true)) nilD))))) nextD) (retD (lstD (consD (cD (.bl false)) (consD (cD (.bl false)) (consD (opD eqR (bltD reprR (consD (opD ixR (vD 0) (negD (cD (.int 1)))) nilD)) (cD (.str "'T'"))) nilD)))))))))
def T_l_name (R_l_draw : RD) (R_l_pick : RD) : TSd := (seqD (ifS (tstD (opD eqR (callD R_l_draw (consD (vD 0) (consD (cD (.int 3)) nilD))) (cD (.int 0)))) (retD (callD R_l_pick (consD (vD 0) (consD (lstD (consD (cD (.str "let")) (consD (cD (.str "if")) (consD (cD (.str "give")) (consD (cD (.str "list")) (consD (cD (.str "opt")) (consD (cD (.str "num")) (consD (cD (.str "t")) (consD (cD (.str "z")) (consD (cD (.str "a")) (consD (cD (.str "tt")) nilD))))))))))) nilD)))) nextD) (seqD (asgD (cD (.str "abcdefghijklmnopqrstuvwxyz")) (.nm 1)) (retD (m1D joinR (cD (.str "")) (lcD (rngI (consD (opD addR (cD (.int 1)) (callD R_l_draw (consD (vD 0) (consD (cD (.int 8)) nilD)))) nilD)) (.nm 2) yesD (opD ixR (vD 1) (callD R_l_draw (consD (vD 0) (consD (cD (.int 26)) nilD)))) [2])))))
def T_l_odd (R_l_pick : RD) : TSd := (seqD (asgD (lstD (consD (cD (.str "")) (consD (cD (.str "abcdefghi")) (consD (cD (.str "aT")) (consD (cD (.str "T")) (consD (cD (.str "Tt")) (consD (cD (.str "a1")) (consD (cD (.str "a b")) (consD (cD (.str "a\n")) (consD (cD (.str "list<num>")) (consD (cD (.str "`")) (consD (cD (.str "{")) (consD (cD (.str "A")) (consD (cD .non) (consD (cD (.bl true)) (consD (cD (.int 0)) (consD (cD (.int 7)) (consD (tupD nilD) nilD)))))))))))))))))) (.nm 1)) (retD (callD R_l_pick (consD (vD 0) (consD (opD addR (vD 1) (lstD (consD (lstD nilD) (consD (cD (.dic [])) (consD (tupD (consD (cD (.str "num")) nilD)) (consD (tupD (consD (cD (.str "T")) nilD)) (consD (lstD (consD (cD (.str "num")) nilD)) (consD (tupD (consD (tupD nilD) nilD)) (consD (cD (.str "abcdefgh")) (consD (cD (.str "z")) nilD)))))))))) nilD)))))
def T_l_right (R_is_pattern : RD) (R_is_kind : RD) (R_is_name : RD) (R_l_due : RD) : TSd := (seqD (parD 1 2 (consD (bltD reprR (consD (vD 0) nilD)) (consD (bltD reprR (consD (callD R_l_due (consD (vD 0) nilD)) nilD)) nilD))) (seqD (asgD (lstD (consD (callD R_is_name (consD (vD 0) nilD)) (consD (callD R_is_kind (consD (vD 0) nilD)) (consD (callD R_is_pattern (consD (vD 0) nilD)) nilD)))) (.nm 3)) (seqD (asgD (lstD (consD (callKD R_is_name kid nilD (consD (vD 0) nilD)) (consD (callKD R_is_kind kid nilD (consD (vD 0) nilD)) (consD (callKD R_is_pattern kid nilD (consD (vD 0) nilD)) nilD)))) (.nm 4)) (retD (andV (opD eqR (bltD reprR (consD (vD 3) nilD)) (vD 2)) (andV (opD eqR (bltD reprR (consD (vD 4) nilD)) (vD 2)) (opD eqR (bltD reprR (consD (vD 0) nilD)) (vD 1))))))))
def T_l_long (R_l_pick : RD) (R_l_draw : RD) : TSd := (seqD (parD 1 2 (consD (callD R_l_pick (consD (vD 0) (consD (lstD (consD (cD (.int 1300)) (consD (cD (.int 3999)) nilD))) nilD))) (consD (callD R_l_draw (consD (vD 0) (consD (cD (.int 1300)) nilD))) nilD))) (seqD (asgD (opD mulR (lstD (consD (cD (.str "a")) (consD (cD (.str "zz")) nilD))) (opD fdivR (vD 1) (cD (.int 2)))) (.nm 3)) (retD (lstD (consD (bltD tupleR (consD (vD 3) nilD)) (consD (bltD tupleR (consD (opD addR (vD 3) (lstD (consD (cD (.str "T")) nilD))) nilD)) (consD (bltD tupleR (consD (opD addR (opD addR (sliD (vD 3) noO (someO (vD 2))) (lstD (consD (callD R_l_pick (consD (vD 0) (consD (lstD (consD (cD (.str "T")) (consD (cD (.str "A")) (consD (cD (.int 0)) nilD)))) nilD))) nilD))) (sliD (vD 3) (someO (vD 2)) noO)) nilD)) nilD)))))))
def T_l_pattern (R_l_pick : RD) (R_l_name : RD) : TSd := (seqD (asgD (lcD (rngI (consD (callD R_l_pick (consD (vD 0) (consD (lstD (consD (cD (.int 0)) (consD (cD (.int 0)) (consD (cD (.int 1)) (consD (cD (.int 2)) (consD (cD (.int 8)) nilD)))))) nilD))) nilD)) (.nm 2) yesD (callD R_l_name (consD (vD 0) nilD)) [2]) (.nm 1)) (retD (bltD tupleR (consD (opD addR (vD 1) (lstD (consD (callD R_l_pick (consD (vD 0) (consD (lstD (consD (cD (.str "T")) (consD (callD R_l_name (consD (vD 0) nilD)) (consD (callD R_l_name (consD (vD 0) nilD)) nilD)))) nilD))) nilD))) nilD))))
def T_l_bent (R_l_odd : RD) (R_l_pick : RD) (R_l_name : RD) (R_l_draw : RD) : TSd := (seqD (parD 2 3 (consD (callD R_l_draw (consD (vD 0) (consD (opD addR (bltD lenR (consD (vD 1) nilD)) (cD (.int 1))) nilD))) (consD (callD R_l_draw (consD (vD 0) (consD (cD (.int 9)) nilD))) nilD))) (seqD (ifS (tstD (opD eqR (vD 3) (cD (.int 0)))) (retD (bltD listR (consD (vD 1) nilD))) nextD) (seqD (ifS (tstD (opD eqR (vD 3) (cD (.int 1)))) (retD (tupD (consD (vD 1) nilD))) nextD) (seqD (ifS (tstD (opD eqR (vD 3) (cD (.int 2)))) (retD (opD addR (sliD (vD 1) noO (someO (vD 2))) (sliD (vD 1) (someO (opD addR (vD 2) (cD (.int 1)))) noO))) nextD) (seqD (ifS (tstD (opD eqR (vD 3) (cD (.int 3)))) (retD (opD addR (opD addR (sliD (vD 1) noO (someO (vD 2))) (sliD (vD 1) (someO (vD 2)) (someO (opD addR (vD 2) (cD (.int 1)))))) (sliD (vD 1) (someO (vD 2)) noO))) nextD) (seqD (ifS (tstD (opD eqR (vD 3) (cD (.int 4)))) (retD (opD addR (opD addR (sliD (vD 1) noO (someO (vD 2))) (tupD (consD (cD (.str "T")) nilD))) (sliD (vD 1) (someO (vD 2)) noO))) nextD) (seqD (ifS (tstD (opD eqR (vD 3) (cD (.int 5)))) (retD (opD addR (vD 1) (tupD (consD (callD R_l_name (consD (vD 0) nilD)) nilD)))) nextD) (seqD (ifS (andT (tstD (opD eqR (vD 3) (cD (.int 6)))) (tstD (opD neR (vD 1) (tupD nilD)))) (retD (opD addR (sliD (vD 1) noO (someO (negD (cD (.int 1))))) (tupD (consD (callD R_l_pick (consD (vD 0) (consD (lstD (consD (cD (.str "T")) (consD (cD (.str "t")) (consD (cD (.str "TT")) (consD (tupD (consD (cD (.str "T")) nilD)) nilD))))) nilD))) nilD)))) nextD) (retD (opD addR (opD addR (sliD (vD 1) noO (someO (vD 2))) (tupD (consD (callD R_l_odd (consD (vD 0) nilD)) nilD))) (sliD (vD 1) (someO (opD addR (vD 2) (cD (.int 1)))) noO)))))))))))
def T_law (R_l_odd : RD) (R_l_name : RD) (R_l_right : RD) (R_l_pick : RD) (R_l_bent : RD) (R_l_pattern : RD) (R_l_long : RD) (R_l_hand : RD) : TSd := (seqD (asgD (callD R_l_hand (consD (vD 0) nilD)) (.nm 1)) (seqD (forD (seqI (callD R_l_long (consD (vD 1) nilD))) (.nm 2) (ifS (notT (tstD (callD R_l_right (consD (vD 2) nilD)))) (retD (cD (.bl false))) nextD)) (seqD (forD (rngI (consD (cD (.int 30)) nilD)) (.nm 3) (seqD (asgD (callD R_l_pattern (consD (vD 1) nilD)) (.nm 2)) (seqD (forD (rngI (consD (callD R_l_pick (consD (vD 1) (consD (lstD (consD (cD (.int 0)) (consD (cD (.int 0)) (consD (cD (.int 1)) (consD (cD (.int 1)) (consD (cD (.int 2)) nilD)))))) nilD))) nilD)) (.nm 4) (asgD (ifE (tstD (isiD .tup (vD 2))) (callD R_l_bent (consD (vD 1) (consD (vD 2) nilD))) (callD R_l_odd (consD (vD 1) nilD))) (.nm 2))) (forD (seqI (lstD (consD (vD 2) (consD (callD R_l_name (consD (vD 1) nilD)) (consD (callD R_l_odd (consD (vD 1) nilD)) (consD (tupD (consD (callD R_l_odd (consD (vD 1) nilD)) nilD)) (consD (tupD (consD (callD R_l_name (consD (vD 1) nilD)) (consD (callD R_l_odd (consD (vD 1) nilD)) nilD))) nilD))))))) (.nm 5) (ifS (notT (tstD (callD R_l_right (consD (vD 5) nilD)))) (retD (cD (.bl false))) nextD))))) (retD (cD (.bl true))))))
end K02

namespace K02
open PySem L2 Fx
theorem rd_l_pick : ∀ ds M F, R_pick ds M F → T_l_pick R_draw { nx := fun _ M' => F .non M', rt := F } (startD 2 ds) M := by
  intro ds M F h
  unfold R_pick at h
  split at h
  · next h' xs =>
    obtain ⟨c, hd, h0, h1, hF⟩ := h
    simp only [T_l_pick, q_v, q_c, q_tup, q_lst, q_op, q_nil, q_cons, q_tst, q_tru, q_andT, q_orT, q_notT, q_andV, q_orV, q_notV, q_ifE, q_next, q_seq, q_asg, q_drop, q_ret, q_retN, q_ifS, q_par, q_isi, q_blt, q_call, q_callK, q_kid, q_kswap, q_chain, q_neg, q_isN, q_notN, q_noO, q_someO, q_sli, q_rev, q_revM, q_bm, q_bm0, q_m1, q_seqI, q_rng, q_rng2, q_enum, q_zip, q_yes, q_put, e_bl, e_int, e_str, e_lst, e_n_non, e_n_bl, e_n_int, e_n_str, e_n_tup, e_n_lst, e_n_slst, e_n_dic, e_n_ref, e_seq_l, e_seq_s, e_seq_t, e_seq_z, e_rev_l, e_rev_s, e_i1, e_i2, e_l1, e_l1s, e_l2, e_p2, e_sl, e_o, e_ob, e_on, e_ml, e_md, e_c, e_tru_b, e_tru_n, e_tru_i, e_tru_t, e_tru_l, t_str_non, t_tup_non, t_int_non, t_bool_non, t_lst_non, t_dict_non, t_str_bl, t_tup_bl, t_int_bl, t_bool_bl, t_lst_bl, t_dict_bl, t_str_int, t_tup_int, t_int_int, t_bool_int, t_lst_int, t_dict_int, t_str_str, t_tup_str, t_int_str, t_bool_str, t_lst_str, t_dict_str, t_str_tup, t_tup_tup, t_int_tup, t_bool_tup, t_lst_tup, t_dict_tup, t_str_lst, t_tup_lst, t_int_lst, t_bool_lst, t_lst_lst, t_dict_lst, t_str_dic, t_tup_dic, t_int_dic, t_bool_dic, t_lst_dic, t_dict_dic, r_add_i, r_add_s, r_add_t, r_add_l, r_sub, r_mul, r_mul_l, r_fdiv, r_mod, r_pow, r_lt, r_ix_l, r_ix_t, r_ix_s, r_ix_rl, r_ix_rd, r_sl_l, r_sl_sl, r_sl_t, r_sl_s, r_len_l, r_len_sl, r_len_t, r_len_s, r_len_r, r_all, r_any, r_tuple_l, r_tuple_sl, r_tuple_t, r_tuple_r, r_list_l, r_list_sl, r_list_t, r_list_r, r_ord, r_repr, r_pop, r_app, r_ext, r_join, r_join_t, r_isl_r, r_isl_l, r_in, r_put_d, r_put_l, r_eq_i, r_eq_s, r_ne_i, r_ne_s, r_eq_t0, r_ne_t0, r_eq_r0, r_ne_r0, r_eq_l0, r_ne_l0, r_start, gD, gsD, wipeD, br_not, br_true, br_false, br_dec, List.map_cons, List.map_nil, List.length_cons, List.length_nil, List.replicate_succ, List.replicate_zero, List.cons_append, List.nil_append, List.getElem?_cons_zero, List.getElem?_cons_succ, List.getElem?_nil, List.set_cons_zero, List.set_cons_succ, Nat.reduceAdd, Nat.reduceSub, Nat.reduceLeDiff, Nat.zero_add, updM_same, true_and, List.isEmpty_nil, List.isEmpty_cons, Bool.not_true, Bool.not_false, Bool.not_not]
    refine ⟨c, hd, by omega, by omega, fun r M' r0 r1 hd' o => ?_⟩
    obtain ⟨d, e, m⟩ := atI_mem r0 r1
    simp only [r_ix_l, e, e_o]
    exact hF d M' m hd' o
  · exact h.elim
theorem rd_l_draw : ∀ ds M F, R_draw ds M F → T_l_draw { nx := fun _ M' => F .non M', rt := F } (startD 4 ds) M := by
  intro ds M F h
  unfold R_draw at h
  split at h
  · next h' many =>
    obtain ⟨c, hd, h0, h1, hF⟩ := h
    have ne := hd.ne
    obtain ⟨cells, m, n, e1, e2, m0, m1, n0, cl⟩ := hd
    have fin : ∀ (x : Int) (cs : List Int) (M' : Mp), M' h' = some (.dic [(.inr "cells", .ref c), (.inr "mixed", .int m), (.inr "draws", .int (n + 1))]) → M' c = some (.lst (cs.map D.int)) → cs.length ≤ 63 → Oth h' c M M' → F (.int (x % many)) M' := fun x cs M' a1 a2 a3 o =>
      hF _ _ (Int.emod_nonneg _ (by omega)) (Int.emod_lt_of_pos _ h0) ⟨cs, m, n + 1, a1, a2, m0, m1, by omega, a3⟩ o
    simp only [T_l_draw, q_v, q_c, q_tup, q_lst, q_op, q_nil, q_cons, q_tst, q_tru, q_andT, q_orT, q_notT, q_andV, q_orV, q_notV, q_ifE, q_next, q_seq, q_asg, q_drop, q_ret, q_retN, q_ifS, q_par, q_isi, q_blt, q_call, q_callK, q_kid, q_kswap, q_chain, q_neg, q_isN, q_notN, q_noO, q_someO, q_sli, q_rev, q_revM, q_bm, q_bm0, q_m1, q_seqI, q_rng, q_rng2, q_enum, q_zip, q_yes, q_put, e_bl, e_int, e_str, e_lst, e_n_non, e_n_bl, e_n_int, e_n_str, e_n_tup, e_n_lst, e_n_slst, e_n_dic, e_n_ref, e_seq_l, e_seq_s, e_seq_t, e_seq_z, e_rev_l, e_rev_s, e_i1, e_i2, e_l1, e_l1s, e_l2, e_p2, e_sl, e_o, e_ob, e_on, e_ml, e_md, e_c, e_tru_b, e_tru_n, e_tru_i, e_tru_t, e_tru_l, t_str_non, t_tup_non, t_int_non, t_bool_non, t_lst_non, t_dict_non, t_str_bl, t_tup_bl, t_int_bl, t_bool_bl, t_lst_bl, t_dict_bl, t_str_int, t_tup_int, t_int_int, t_bool_int, t_lst_int, t_dict_int, t_str_str, t_tup_str, t_int_str, t_bool_str, t_lst_str, t_dict_str, t_str_tup, t_tup_tup, t_int_tup, t_bool_tup, t_lst_tup, t_dict_tup, t_str_lst, t_tup_lst, t_int_lst, t_bool_lst, t_lst_lst, t_dict_lst, t_str_dic, t_tup_dic, t_int_dic, t_bool_dic, t_lst_dic, t_dict_dic, r_add_i, r_add_s, r_add_t, r_add_l, r_sub, r_mul, r_mul_l, r_fdiv, r_mod, r_pow, r_lt, r_ix_l, r_ix_t, r_ix_s, r_ix_rl, r_ix_rd, r_sl_l, r_sl_sl, r_sl_t, r_sl_s, r_len_l, r_len_sl, r_len_t, r_len_s, r_len_r, r_all, r_any, r_tuple_l, r_tuple_sl, r_tuple_t, r_tuple_r, r_list_l, r_list_sl, r_list_t, r_list_r, r_ord, r_repr, r_pop, r_app, r_ext, r_join, r_join_t, r_isl_r, r_isl_l, r_in, r_put_d, r_put_l, r_eq_i, r_eq_s, r_ne_i, r_ne_s, r_eq_t0, r_ne_t0, r_eq_r0, r_ne_r0, r_eq_l0, r_ne_l0, r_start, gD, gsD, wipeD, br_not, br_true, br_false, br_dec, List.map_cons, List.map_nil, List.length_cons, List.length_nil, List.replicate_succ, List.replicate_zero, List.cons_append, List.nil_append, List.getElem?_cons_zero, List.getElem?_cons_succ, List.getElem?_nil, List.set_cons_zero, List.set_cons_succ, Nat.reduceAdd, Nat.reduceSub, Nat.reduceLeDiff, Nat.zero_add, updM_same, true_and, List.isEmpty_nil, List.isEmpty_cons, Bool.not_true, Bool.not_false, Bool.not_not, e1, val_draws, put_draws, val_mixed, val_cells, updM_ne (Ne.symm ne), e2]
    refine ⟨by decide, .inl (by decide), ?_⟩
    rcases List.eq_nil_or_concat cells with rfl | ⟨cs, x, rfl⟩
    · simp only [List.map_nil, List.isEmpty_nil, Bool.not_true, br_false]
      repeat (refine ⟨by omega, ?_⟩)
      exact fin _ [] _ updM_same ((updM_ne (Ne.symm ne)).trans e2) (by decide) fun b hb _ => updM_ne hb
    · have cl' : cs.length + 1 ≤ 63 := by simpa using cl
      have t1 : ((cs.concat x).map D.int).isEmpty = false := by simp
      have t2 : ((cs.concat x).map D.int).getLast? = some (.int x) := by simp
      have t3 : ((cs.concat x).map D.int).dropLast = cs.map D.int := by simp
      simp only [t1, t2, t3, Bool.not_false, q_v, q_c, q_tup, q_lst, q_op, q_nil, q_cons, q_tst, q_tru, q_andT, q_orT, q_notT, q_andV, q_orV, q_notV, q_ifE, q_next, q_seq, q_asg, q_drop, q_ret, q_retN, q_ifS, q_par, q_isi, q_blt, q_call, q_callK, q_kid, q_kswap, q_chain, q_neg, q_isN, q_notN, q_noO, q_someO, q_sli, q_rev, q_revM, q_bm, q_bm0, q_m1, q_seqI, q_rng, q_rng2, q_enum, q_zip, q_yes, q_put, e_bl, e_int, e_str, e_lst, e_n_non, e_n_bl, e_n_int, e_n_str, e_n_tup, e_n_lst, e_n_slst, e_n_dic, e_n_ref, e_seq_l, e_seq_s, e_seq_t, e_seq_z, e_rev_l, e_rev_s, e_i1, e_i2, e_l1, e_l1s, e_l2, e_p2, e_sl, e_o, e_ob, e_on, e_ml, e_md, e_c, e_tru_b, e_tru_n, e_tru_i, e_tru_t, e_tru_l, t_str_non, t_tup_non, t_int_non, t_bool_non, t_lst_non, t_dict_non, t_str_bl, t_tup_bl, t_int_bl, t_bool_bl, t_lst_bl, t_dict_bl, t_str_int, t_tup_int, t_int_int, t_bool_int, t_lst_int, t_dict_int, t_str_str, t_tup_str, t_int_str, t_bool_str, t_lst_str, t_dict_str, t_str_tup, t_tup_tup, t_int_tup, t_bool_tup, t_lst_tup, t_dict_tup, t_str_lst, t_tup_lst, t_int_lst, t_bool_lst, t_lst_lst, t_dict_lst, t_str_dic, t_tup_dic, t_int_dic, t_bool_dic, t_lst_dic, t_dict_dic, r_add_i, r_add_s, r_add_t, r_add_l, r_sub, r_mul, r_mul_l, r_fdiv, r_mod, r_pow, r_lt, r_ix_l, r_ix_t, r_ix_s, r_ix_rl, r_ix_rd, r_sl_l, r_sl_sl, r_sl_t, r_sl_s, r_len_l, r_len_sl, r_len_t, r_len_s, r_len_r, r_all, r_any, r_tuple_l, r_tuple_sl, r_tuple_t, r_tuple_r, r_list_l, r_list_sl, r_list_t, r_list_r, r_ord, r_repr, r_pop, r_app, r_ext, r_join, r_join_t, r_isl_r, r_isl_l, r_in, r_put_d, r_put_l, r_eq_i, r_eq_s, r_ne_i, r_ne_s, r_eq_t0, r_ne_t0, r_eq_r0, r_ne_r0, r_eq_l0, r_ne_l0, r_start, gD, gsD, wipeD, br_not, br_true, br_false, br_dec, List.map_cons, List.map_nil, List.length_cons, List.length_nil, List.replicate_succ, List.replicate_zero, List.cons_append, List.nil_append, List.getElem?_cons_zero, List.getElem?_cons_succ, List.getElem?_nil, List.set_cons_zero, List.set_cons_succ, Nat.reduceAdd, Nat.reduceSub, Nat.reduceLeDiff, Nat.zero_add, updM_same, true_and, List.isEmpty_nil, List.isEmpty_cons, Bool.not_true, Bool.not_false, Bool.not_not, updM_ne ne, val_cells, val_draws]
      refine ⟨by decide, fun _ => ?_, fun _ => ?_⟩
      · refine ⟨⟨h0, h1⟩, by rw [List.length_map]; omega, h0, ?_⟩
        refine fin _ (cs ++ [x / many]) _ ?_ ?_ (by rw [List.length_append, List.length_cons, List.length_nil]; omega) fun b hb hc => ?_
        · rw [updM_ne ne, updM_ne ne, updM_same]
        · rw [updM_same, List.map_append]
          rfl
        · rw [updM_ne hc, updM_ne hc, updM_ne hb]
      · repeat (refine ⟨by omega, ?_⟩)
        refine fin _ cs _ ?_ updM_same (by omega) fun b hb hc => ?_
        · rw [updM_ne ne, updM_same]
        · rw [updM_ne hc, updM_ne hb]
  · exact h.elim
theorem rd_l_hand : ∀ ds M F, R_hand ds M F → T_l_hand { nx := fun _ M' => F .non M', rt := F } (startD 4 ds) M := by
  intro ds M F h
  unfold R_hand at h
  split at h
  · next xs =>
    obtain ⟨ns, rfl, hl, hF⟩ := h
    have ec : cutL (ns.map D.int) none (some 63) = ns.map D.int := cut_all rfl (by
      show min 63 _ = _
      rw [List.length_map]
      omega)
    simp only [T_l_hand, q_v, q_c, q_tup, q_lst, q_op, q_nil, q_cons, q_tst, q_tru, q_andT, q_orT, q_notT, q_andV, q_orV, q_notV, q_ifE, q_next, q_seq, q_asg, q_drop, q_ret, q_retN, q_ifS, q_par, q_isi, q_blt, q_call, q_callK, q_kid, q_kswap, q_chain, q_neg, q_isN, q_notN, q_noO, q_someO, q_sli, q_rev, q_revM, q_bm, q_bm0, q_m1, q_seqI, q_rng, q_rng2, q_enum, q_zip, q_yes, q_put, e_bl, e_int, e_str, e_lst, e_n_non, e_n_bl, e_n_int, e_n_str, e_n_tup, e_n_lst, e_n_slst, e_n_dic, e_n_ref, e_seq_l, e_seq_s, e_seq_t, e_seq_z, e_rev_l, e_rev_s, e_i1, e_i2, e_l1, e_l1s, e_l2, e_p2, e_sl, e_o, e_ob, e_on, e_ml, e_md, e_c, e_tru_b, e_tru_n, e_tru_i, e_tru_t, e_tru_l, t_str_non, t_tup_non, t_int_non, t_bool_non, t_lst_non, t_dict_non, t_str_bl, t_tup_bl, t_int_bl, t_bool_bl, t_lst_bl, t_dict_bl, t_str_int, t_tup_int, t_int_int, t_bool_int, t_lst_int, t_dict_int, t_str_str, t_tup_str, t_int_str, t_bool_str, t_lst_str, t_dict_str, t_str_tup, t_tup_tup, t_int_tup, t_bool_tup, t_lst_tup, t_dict_tup, t_str_lst, t_tup_lst, t_int_lst, t_bool_lst, t_lst_lst, t_dict_lst, t_str_dic, t_tup_dic, t_int_dic, t_bool_dic, t_lst_dic, t_dict_dic, r_add_i, r_add_s, r_add_t, r_add_l, r_sub, r_mul, r_mul_l, r_fdiv, r_mod, r_pow, r_lt, r_ix_l, r_ix_t, r_ix_s, r_ix_rl, r_ix_rd, r_sl_l, r_sl_sl, r_sl_t, r_sl_s, r_len_l, r_len_sl, r_len_t, r_len_s, r_len_r, r_all, r_any, r_tuple_l, r_tuple_sl, r_tuple_t, r_tuple_r, r_list_l, r_list_sl, r_list_t, r_list_r, r_ord, r_repr, r_pop, r_app, r_ext, r_join, r_join_t, r_isl_r, r_isl_l, r_in, r_put_d, r_put_l, r_eq_i, r_eq_s, r_ne_i, r_ne_s, r_eq_t0, r_ne_t0, r_eq_r0, r_ne_r0, r_eq_l0, r_ne_l0, r_start, gD, gsD, wipeD, br_not, br_true, br_false, br_dec, List.map_cons, List.map_nil, List.length_cons, List.length_nil, List.replicate_succ, List.replicate_zero, List.cons_append, List.nil_append, List.getElem?_cons_zero, List.getElem?_cons_succ, List.getElem?_nil, List.set_cons_zero, List.set_cons_succ, Nat.reduceAdd, Nat.reduceSub, Nat.reduceLeDiff, Nat.zero_add, updM_same, true_and, List.isEmpty_nil, List.isEmpty_cons, Bool.not_true, Bool.not_false, Bool.not_not, forD, ec]
    refine ⟨fun i ds' M' => M' = M ∧ ∃ m x, ds' = [some (D.slst (ns.map D.int)), some (.lst (ns.map D.int)), some (.int m), x] ∧ 0 ≤ m ∧ m < 2147483563, ⟨rfl, 98502, none, rfl, by decide, by decide⟩, fun i d ds' M' hd hw => ?_, fun ds' M' hw => ?_⟩
    · obtain ⟨rfl, m, x, rfl, m0, m1⟩ := hw
      rw [List.getElem?_map] at hd
      cases e : ns[i]? with
      | none => rw [e] at hd; cases hd
      | some k =>
        rw [e] at hd
        cases hd
        simp only [q_v, q_c, q_tup, q_lst, q_op, q_nil, q_cons, q_tst, q_tru, q_andT, q_orT, q_notT, q_andV, q_orV, q_notV, q_ifE, q_next, q_seq, q_asg, q_drop, q_ret, q_retN, q_ifS, q_par, q_isi, q_blt, q_call, q_callK, q_kid, q_kswap, q_chain, q_neg, q_isN, q_notN, q_noO, q_someO, q_sli, q_rev, q_revM, q_bm, q_bm0, q_m1, q_seqI, q_rng, q_rng2, q_enum, q_zip, q_yes, q_put, e_bl, e_int, e_str, e_lst, e_n_non, e_n_bl, e_n_int, e_n_str, e_n_tup, e_n_lst, e_n_slst, e_n_dic, e_n_ref, e_seq_l, e_seq_s, e_seq_t, e_seq_z, e_rev_l, e_rev_s, e_i1, e_i2, e_l1, e_l1s, e_l2, e_p2, e_sl, e_o, e_ob, e_on, e_ml, e_md, e_c, e_tru_b, e_tru_n, e_tru_i, e_tru_t, e_tru_l, t_str_non, t_tup_non, t_int_non, t_bool_non, t_lst_non, t_dict_non, t_str_bl, t_tup_bl, t_int_bl, t_bool_bl, t_lst_bl, t_dict_bl, t_str_int, t_tup_int, t_int_int, t_bool_int, t_lst_int, t_dict_int, t_str_str, t_tup_str, t_int_str, t_bool_str, t_lst_str, t_dict_str, t_str_tup, t_tup_tup, t_int_tup, t_bool_tup, t_lst_tup, t_dict_tup, t_str_lst, t_tup_lst, t_int_lst, t_bool_lst, t_lst_lst, t_dict_lst, t_str_dic, t_tup_dic, t_int_dic, t_bool_dic, t_lst_dic, t_dict_dic, r_add_i, r_add_s, r_add_t, r_add_l, r_sub, r_mul, r_mul_l, r_fdiv, r_mod, r_pow, r_lt, r_ix_l, r_ix_t, r_ix_s, r_ix_rl, r_ix_rd, r_sl_l, r_sl_sl, r_sl_t, r_sl_s, r_len_l, r_len_sl, r_len_t, r_len_s, r_len_r, r_all, r_any, r_tuple_l, r_tuple_sl, r_tuple_t, r_tuple_r, r_list_l, r_list_sl, r_list_t, r_list_r, r_ord, r_repr, r_pop, r_app, r_ext, r_join, r_join_t, r_isl_r, r_isl_l, r_in, r_put_d, r_put_l, r_eq_i, r_eq_s, r_ne_i, r_ne_s, r_eq_t0, r_ne_t0, r_eq_r0, r_ne_r0, r_eq_l0, r_ne_l0, r_start, gD, gsD, wipeD, br_not, br_true, br_false, br_dec, List.map_cons, List.map_nil, List.length_cons, List.length_nil, List.replicate_succ, List.replicate_zero, List.cons_append, List.nil_append, List.getElem?_cons_zero, List.getElem?_cons_succ, List.getElem?_nil, List.set_cons_zero, List.set_cons_succ, Nat.reduceAdd, Nat.reduceSub, Nat.reduceLeDiff, Nat.zero_add, updM_same, true_and, List.isEmpty_nil, List.isEmpty_cons, Bool.not_true, Bool.not_false, Bool.not_not]
        refine ⟨by omega, by omega, by omega, _, _, rfl, ?_, ?_⟩
        · exact Int.emod_nonneg _ (by decide)
        · exact Int.emod_lt_of_pos _ (by decide)
    · obtain ⟨rfl, m, x, rfl, m0, m1⟩ := hw
      intro p hp
      simp only [q_v, q_c, q_tup, q_lst, q_op, q_nil, q_cons, q_tst, q_tru, q_andT, q_orT, q_notT, q_andV, q_orV, q_notV, q_ifE, q_next, q_seq, q_asg, q_drop, q_ret, q_retN, q_ifS, q_par, q_isi, q_blt, q_call, q_callK, q_kid, q_kswap, q_chain, q_neg, q_isN, q_notN, q_noO, q_someO, q_sli, q_rev, q_revM, q_bm, q_bm0, q_m1, q_seqI, q_rng, q_rng2, q_enum, q_zip, q_yes, q_put, e_bl, e_int, e_str, e_lst, e_n_non, e_n_bl, e_n_int, e_n_str, e_n_tup, e_n_lst, e_n_slst, e_n_dic, e_n_ref, e_seq_l, e_seq_s, e_seq_t, e_seq_z, e_rev_l, e_rev_s, e_i1, e_i2, e_l1, e_l1s, e_l2, e_p2, e_sl, e_o, e_ob, e_on, e_ml, e_md, e_c, e_tru_b, e_tru_n, e_tru_i, e_tru_t, e_tru_l, t_str_non, t_tup_non, t_int_non, t_bool_non, t_lst_non, t_dict_non, t_str_bl, t_tup_bl, t_int_bl, t_bool_bl, t_lst_bl, t_dict_bl, t_str_int, t_tup_int, t_int_int, t_bool_int, t_lst_int, t_dict_int, t_str_str, t_tup_str, t_int_str, t_bool_str, t_lst_str, t_dict_str, t_str_tup, t_tup_tup, t_int_tup, t_bool_tup, t_lst_tup, t_dict_tup, t_str_lst, t_tup_lst, t_int_lst, t_bool_lst, t_lst_lst, t_dict_lst, t_str_dic, t_tup_dic, t_int_dic, t_bool_dic, t_lst_dic, t_dict_dic, r_add_i, r_add_s, r_add_t, r_add_l, r_sub, r_mul, r_mul_l, r_fdiv, r_mod, r_pow, r_lt, r_ix_l, r_ix_t, r_ix_s, r_ix_rl, r_ix_rd, r_sl_l, r_sl_sl, r_sl_t, r_sl_s, r_len_l, r_len_sl, r_len_t, r_len_s, r_len_r, r_all, r_any, r_tuple_l, r_tuple_sl, r_tuple_t, r_tuple_r, r_list_l, r_list_sl, r_list_t, r_list_r, r_ord, r_repr, r_pop, r_app, r_ext, r_join, r_join_t, r_isl_r, r_isl_l, r_in, r_put_d, r_put_l, r_eq_i, r_eq_s, r_ne_i, r_ne_s, r_eq_t0, r_ne_t0, r_eq_r0, r_ne_r0, r_eq_l0, r_ne_l0, r_start, gD, gsD, wipeD, br_not, br_true, br_false, br_dec, List.map_cons, List.map_nil, List.length_cons, List.length_nil, List.replicate_succ, List.replicate_zero, List.cons_append, List.nil_append, List.getElem?_cons_zero, List.getElem?_cons_succ, List.getElem?_nil, List.set_cons_zero, List.set_cons_succ, Nat.reduceAdd, Nat.reduceSub, Nat.reduceLeDiff, Nat.zero_add, updM_same, true_and, List.isEmpty_nil, List.isEmpty_cons, Bool.not_true, Bool.not_false, Bool.not_not]
      intro c hc
      have cp : c ≠ p := fun e => by
        rw [e, updM_same] at hc
        cases hc
      rw [updM_ne cp] at hc
      refine ⟨?_, hF p c _ hp hc ⟨ns.reverse, m, 0, updM_same, ?_, m0, m1, by decide, by rw [List.length_reverse]; exact hl⟩ fun b hb hb' => ?_⟩
      · rw [updM_ne cp.symm, updM_same]
      · rw [updM_ne cp, updM_same, List.map_reverse]
      · rw [updM_ne hb, updM_ne hb', updM_ne hb]
  · exact h.elim
end K02

namespace K02
open PySem L2 Fx

def abc : List Nat := ("abcdefghijklmnopqrstuvwxyz" : Str).cps.toList
def letB (x : Str) : Bool := x.cps.toList.all fun c => decide (c ∈ abc)
def nameB : D → Bool
  | .str x => decide (1 ≤ x.length) && decide (x.length ≤ 8) && letB x
  | _ => false
theorem nameB_str (x : Str) : nameB (.str x) = (decide (1 ≤ x.length) && decide (x.length ≤ 8) && letB x) := rfl
theorem mem_abc (c : Nat) : c ∈ abc ↔ 97 ≤ c ∧ c ≤ 122 := by
  have e : abc = List.range' 97 26 := by decide +kernel
  rw [e, List.mem_range'_1]
  omega
/-- a value that may be asked about -/
def vd : D → Bool
  | .str x => decide (x.length ≤ 1000000)
  | .slst _ | .ref _ | .ty _ => false
  | _ => true
def R_is_name : RD
  | [d], M, F => vd d = true ∧ F (.bl (nameB d)) M
  | _, _, _ => False
theorem ln_is_name : ∀ xs M F, R_is_name xs M F → xs.length = 1 := by
  intro xs M F h
  unfold R_is_name at h
  split at h
  · rfl
  · exact h.elim
theorem mem_signs {x : Str} {d : D} (h : d ∈ signs x) : ∃ c, c ∈ x.cps.toList ∧ d = .str ⟨#[c]⟩ := by
  unfold signs at h
  obtain ⟨c, h1, h2⟩ := List.mem_map.mp h
  exact ⟨c, h1, h2.symm⟩
theorem signs_len (x : Str) : (signs x).length = x.length := by
  unfold signs
  rw [List.length_map]
  simp [Str.length]
def sgB : D → D
  | .str z => .bl (eC' z)
  | d => d
where eC' (z : Str) : Bool := match z.cps.toList with
  | [c] => decide (c ∈ abc)
  | _ => false
theorem all_signs (x : Str) : ((signs x).map sgB).all isBl = true ∧ ((signs x).map sgB).all getBl = letB x := by
  unfold signs letB
  constructor
  · rw [List.map_map, List.all_map]
    exact List.all_eq_true.mpr fun c _ => rfl
  · rw [List.map_map, List.all_map]
    rfl
theorem rd_is_name : ∀ ds M F, R_is_name ds M F → T_is_name { nx := fun _ M' => F .non M', rt := F } (startD 2 ds) M := by
  intro ds M F h
  unfold R_is_name at h
  split at h
  · next d =>
    obtain ⟨hv, h⟩ := h
    cases d with
    | str x =>
      have hl : x.length ≤ 1000000 := by simpa [vd] using hv
      simp only [T_is_name, q_v, q_c, q_tup, q_lst, q_op, q_nil, q_cons, q_tst, q_tru, q_andT, q_orT, q_notT, q_andV, q_orV, q_notV, q_ifE, q_next, q_seq, q_asg, q_drop, q_ret, q_retN, q_ifS, q_par, q_isi, q_blt, q_call, q_callK, q_kid, q_kswap, q_chain, q_neg, q_isN, q_notN, q_noO, q_someO, q_sli, q_rev, q_revM, q_bm, q_bm0, q_m1, q_seqI, q_rng, q_rng2, q_enum, q_zip, q_yes, q_put, e_bl, e_int, e_str, e_lst, e_n_non, e_n_bl, e_n_int, e_n_str, e_n_tup, e_n_lst, e_n_slst, e_n_dic, e_n_ref, e_seq_l, e_seq_s, e_seq_t, e_seq_z, e_rev_l, e_rev_s, e_i1, e_i2, e_l1, e_l1s, e_l2, e_p2, e_sl, e_o, e_ob, e_on, e_ml, e_md, e_c, e_tru_b, e_tru_n, e_tru_i, e_tru_t, e_tru_l, t_str_non, t_tup_non, t_int_non, t_bool_non, t_lst_non, t_dict_non, t_str_bl, t_tup_bl, t_int_bl, t_bool_bl, t_lst_bl, t_dict_bl, t_str_int, t_tup_int, t_int_int, t_bool_int, t_lst_int, t_dict_int, t_str_str, t_tup_str, t_int_str, t_bool_str, t_lst_str, t_dict_str, t_str_tup, t_tup_tup, t_int_tup, t_bool_tup, t_lst_tup, t_dict_tup, t_str_lst, t_tup_lst, t_int_lst, t_bool_lst, t_lst_lst, t_dict_lst, t_str_dic, t_tup_dic, t_int_dic, t_bool_dic, t_lst_dic, t_dict_dic, r_add_i, r_add_s, r_add_t, r_add_l, r_sub, r_mul, r_mul_l, r_fdiv, r_mod, r_pow, r_lt, r_ix_l, r_ix_t, r_ix_s, r_ix_rl, r_ix_rd, r_sl_l, r_sl_sl, r_sl_t, r_sl_s, r_len_l, r_len_sl, r_len_t, r_len_s, r_len_r, r_all, r_any, r_tuple_l, r_tuple_sl, r_tuple_t, r_tuple_r, r_list_l, r_list_sl, r_list_t, r_list_r, r_ord, r_repr, r_pop, r_app, r_ext, r_join, r_join_t, r_isl_r, r_isl_l, r_in, r_put_d, r_put_l, r_eq_i, r_eq_s, r_ne_i, r_ne_s, r_eq_t0, r_ne_t0, r_eq_r0, r_ne_r0, r_eq_l0, r_ne_l0, r_start, gD, gsD, wipeD, br_not, br_true, br_false, br_dec, List.map_cons, List.map_nil, List.length_cons, List.length_nil, List.replicate_succ, List.replicate_zero, List.cons_append, List.nil_append, List.getElem?_cons_zero, List.getElem?_cons_succ, List.getElem?_nil, List.set_cons_zero, List.set_cons_succ, Nat.reduceAdd, Nat.reduceSub, Nat.reduceLeDiff, Nat.zero_add, updM_same, true_and, List.isEmpty_nil, List.isEmpty_cons, Bool.not_true, Bool.not_false, Bool.not_not]
      refine ⟨hl, fun h1 => ⟨fun h2 => ?_, fun h2 => ?_⟩, fun h1 => ?_⟩
      · refine lc_map sgB (xs := signs x) (by rw [signs_len]; exact hl) (fun G g => ?_) (fun d hd => ?_) ?_
        · simp only [q_v, q_c, q_tup, q_lst, q_op, q_nil, q_cons, q_tst, q_tru, q_andT, q_orT, q_notT, q_andV, q_orV, q_notV, q_ifE, q_next, q_seq, q_asg, q_drop, q_ret, q_retN, q_ifS, q_par, q_isi, q_blt, q_call, q_callK, q_kid, q_kswap, q_chain, q_neg, q_isN, q_notN, q_noO, q_someO, q_sli, q_rev, q_revM, q_bm, q_bm0, q_m1, q_seqI, q_rng, q_rng2, q_enum, q_zip, q_yes, q_put, e_bl, e_int, e_str, e_lst, e_n_non, e_n_bl, e_n_int, e_n_str, e_n_tup, e_n_lst, e_n_slst, e_n_dic, e_n_ref, e_seq_l, e_seq_s, e_seq_t, e_seq_z, e_rev_l, e_rev_s, e_i1, e_i2, e_l1, e_l1s, e_l2, e_p2, e_sl, e_o, e_ob, e_on, e_ml, e_md, e_c, e_tru_b, e_tru_n, e_tru_i, e_tru_t, e_tru_l, t_str_non, t_tup_non, t_int_non, t_bool_non, t_lst_non, t_dict_non, t_str_bl, t_tup_bl, t_int_bl, t_bool_bl, t_lst_bl, t_dict_bl, t_str_int, t_tup_int, t_int_int, t_bool_int, t_lst_int, t_dict_int, t_str_str, t_tup_str, t_int_str, t_bool_str, t_lst_str, t_dict_str, t_str_tup, t_tup_tup, t_int_tup, t_bool_tup, t_lst_tup, t_dict_tup, t_str_lst, t_tup_lst, t_int_lst, t_bool_lst, t_lst_lst, t_dict_lst, t_str_dic, t_tup_dic, t_int_dic, t_bool_dic, t_lst_dic, t_dict_dic, r_add_i, r_add_s, r_add_t, r_add_l, r_sub, r_mul, r_mul_l, r_fdiv, r_mod, r_pow, r_lt, r_ix_l, r_ix_t, r_ix_s, r_ix_rl, r_ix_rd, r_sl_l, r_sl_sl, r_sl_t, r_sl_s, r_len_l, r_len_sl, r_len_t, r_len_s, r_len_r, r_all, r_any, r_tuple_l, r_tuple_sl, r_tuple_t, r_tuple_r, r_list_l, r_list_sl, r_list_t, r_list_r, r_ord, r_repr, r_pop, r_app, r_ext, r_join, r_join_t, r_isl_r, r_isl_l, r_in, r_put_d, r_put_l, r_eq_i, r_eq_s, r_ne_i, r_ne_s, r_eq_t0, r_ne_t0, r_eq_r0, r_ne_r0, r_eq_l0, r_ne_l0, r_start, gD, gsD, wipeD, br_not, br_true, br_false, br_dec, List.map_cons, List.map_nil, List.length_cons, List.length_nil, List.replicate_succ, List.replicate_zero, List.cons_append, List.nil_append, List.getElem?_cons_zero, List.getElem?_cons_succ, List.getElem?_nil, List.set_cons_zero, List.set_cons_succ, Nat.reduceAdd, Nat.reduceSub, Nat.reduceLeDiff, Nat.zero_add, updM_same, true_and, List.isEmpty_nil, List.isEmpty_cons, Bool.not_true, Bool.not_false, Bool.not_not]
          exact g
        · obtain ⟨c, _, rfl⟩ := mem_signs hd
          simp only [q_v, q_c, q_tup, q_lst, q_op, q_nil, q_cons, q_tst, q_tru, q_andT, q_orT, q_notT, q_andV, q_orV, q_notV, q_ifE, q_next, q_seq, q_asg, q_drop, q_ret, q_retN, q_ifS, q_par, q_isi, q_blt, q_call, q_callK, q_kid, q_kswap, q_chain, q_neg, q_isN, q_notN, q_noO, q_someO, q_sli, q_rev, q_revM, q_bm, q_bm0, q_m1, q_seqI, q_rng, q_rng2, q_enum, q_zip, q_yes, q_put, e_bl, e_int, e_str, e_lst, e_n_non, e_n_bl, e_n_int, e_n_str, e_n_tup, e_n_lst, e_n_slst, e_n_dic, e_n_ref, e_seq_l, e_seq_s, e_seq_t, e_seq_z, e_rev_l, e_rev_s, e_i1, e_i2, e_l1, e_l1s, e_l2, e_p2, e_sl, e_o, e_ob, e_on, e_ml, e_md, e_c, e_tru_b, e_tru_n, e_tru_i, e_tru_t, e_tru_l, t_str_non, t_tup_non, t_int_non, t_bool_non, t_lst_non, t_dict_non, t_str_bl, t_tup_bl, t_int_bl, t_bool_bl, t_lst_bl, t_dict_bl, t_str_int, t_tup_int, t_int_int, t_bool_int, t_lst_int, t_dict_int, t_str_str, t_tup_str, t_int_str, t_bool_str, t_lst_str, t_dict_str, t_str_tup, t_tup_tup, t_int_tup, t_bool_tup, t_lst_tup, t_dict_tup, t_str_lst, t_tup_lst, t_int_lst, t_bool_lst, t_lst_lst, t_dict_lst, t_str_dic, t_tup_dic, t_int_dic, t_bool_dic, t_lst_dic, t_dict_dic, r_add_i, r_add_s, r_add_t, r_add_l, r_sub, r_mul, r_mul_l, r_fdiv, r_mod, r_pow, r_lt, r_ix_l, r_ix_t, r_ix_s, r_ix_rl, r_ix_rd, r_sl_l, r_sl_sl, r_sl_t, r_sl_s, r_len_l, r_len_sl, r_len_t, r_len_s, r_len_r, r_all, r_any, r_tuple_l, r_tuple_sl, r_tuple_t, r_tuple_r, r_list_l, r_list_sl, r_list_t, r_list_r, r_ord, r_repr, r_pop, r_app, r_ext, r_join, r_join_t, r_isl_r, r_isl_l, r_in, r_put_d, r_put_l, r_eq_i, r_eq_s, r_ne_i, r_ne_s, r_eq_t0, r_ne_t0, r_eq_r0, r_ne_r0, r_eq_l0, r_ne_l0, r_start, gD, gsD, wipeD, br_not, br_true, br_false, br_dec, List.map_cons, List.map_nil, List.length_cons, List.length_nil, List.replicate_succ, List.replicate_zero, List.cons_append, List.nil_append, List.getElem?_cons_zero, List.getElem?_cons_succ, List.getElem?_nil, List.set_cons_zero, List.set_cons_succ, Nat.reduceAdd, Nat.reduceSub, Nat.reduceLeDiff, Nat.zero_add, updM_same, true_and, List.isEmpty_nil, List.isEmpty_cons, Bool.not_true, Bool.not_false, Bool.not_not]
          intro M' G g
          exact g
        · obtain ⟨a1, a2⟩ := all_signs x
          simp only [q_v, q_c, q_tup, q_lst, q_op, q_nil, q_cons, q_tst, q_tru, q_andT, q_orT, q_notT, q_andV, q_orV, q_notV, q_ifE, q_next, q_seq, q_asg, q_drop, q_ret, q_retN, q_ifS, q_par, q_isi, q_blt, q_call, q_callK, q_kid, q_kswap, q_chain, q_neg, q_isN, q_notN, q_noO, q_someO, q_sli, q_rev, q_revM, q_bm, q_bm0, q_m1, q_seqI, q_rng, q_rng2, q_enum, q_zip, q_yes, q_put, e_bl, e_int, e_str, e_lst, e_n_non, e_n_bl, e_n_int, e_n_str, e_n_tup, e_n_lst, e_n_slst, e_n_dic, e_n_ref, e_seq_l, e_seq_s, e_seq_t, e_seq_z, e_rev_l, e_rev_s, e_i1, e_i2, e_l1, e_l1s, e_l2, e_p2, e_sl, e_o, e_ob, e_on, e_ml, e_md, e_c, e_tru_b, e_tru_n, e_tru_i, e_tru_t, e_tru_l, t_str_non, t_tup_non, t_int_non, t_bool_non, t_lst_non, t_dict_non, t_str_bl, t_tup_bl, t_int_bl, t_bool_bl, t_lst_bl, t_dict_bl, t_str_int, t_tup_int, t_int_int, t_bool_int, t_lst_int, t_dict_int, t_str_str, t_tup_str, t_int_str, t_bool_str, t_lst_str, t_dict_str, t_str_tup, t_tup_tup, t_int_tup, t_bool_tup, t_lst_tup, t_dict_tup, t_str_lst, t_tup_lst, t_int_lst, t_bool_lst, t_lst_lst, t_dict_lst, t_str_dic, t_tup_dic, t_int_dic, t_bool_dic, t_lst_dic, t_dict_dic, r_add_i, r_add_s, r_add_t, r_add_l, r_sub, r_mul, r_mul_l, r_fdiv, r_mod, r_pow, r_lt, r_ix_l, r_ix_t, r_ix_s, r_ix_rl, r_ix_rd, r_sl_l, r_sl_sl, r_sl_t, r_sl_s, r_len_l, r_len_sl, r_len_t, r_len_s, r_len_r, r_all, r_any, r_tuple_l, r_tuple_sl, r_tuple_t, r_tuple_r, r_list_l, r_list_sl, r_list_t, r_list_r, r_ord, r_repr, r_pop, r_app, r_ext, r_join, r_join_t, r_isl_r, r_isl_l, r_in, r_put_d, r_put_l, r_eq_i, r_eq_s, r_ne_i, r_ne_s, r_eq_t0, r_ne_t0, r_eq_r0, r_ne_r0, r_eq_l0, r_ne_l0, r_start, gD, gsD, wipeD, br_not, br_true, br_false, br_dec, List.map_cons, List.map_nil, List.length_cons, List.length_nil, List.replicate_succ, List.replicate_zero, List.cons_append, List.nil_append, List.getElem?_cons_zero, List.getElem?_cons_succ, List.getElem?_nil, List.set_cons_zero, List.set_cons_succ, Nat.reduceAdd, Nat.reduceSub, Nat.reduceLeDiff, Nat.zero_add, updM_same, true_and, List.isEmpty_nil, List.isEmpty_cons, Bool.not_true, Bool.not_false, Bool.not_not]
          refine ⟨a1, ?_⟩
          rw [a2]
          have e : nameB (.str x) = letB x := by
            rw [nameB_str, decide_eq_true (show 1 ≤ x.length by omega), decide_eq_true (show x.length ≤ 8 by omega)]
            rfl
          rw [← e]
          exact h
      · have e : nameB (.str x) = false := by
          rw [nameB_str, decide_eq_false (show ¬ x.length ≤ 8 by omega)]
          simp
        rw [← e]
        exact h
      · have e : nameB (.str x) = false := by
          rw [nameB_str, decide_eq_false (show ¬ 1 ≤ x.length by omega)]
          simp
        rw [← e]
        exact h
    | slst _ => simp [vd] at hv
    | ref _ => simp [vd] at hv
    | ty _ => simp [vd] at hv
    | _ => simp only [T_is_name, q_v, q_c, q_tup, q_lst, q_op, q_nil, q_cons, q_tst, q_tru, q_andT, q_orT, q_notT, q_andV, q_orV, q_notV, q_ifE, q_next, q_seq, q_asg, q_drop, q_ret, q_retN, q_ifS, q_par, q_isi, q_blt, q_call, q_callK, q_kid, q_kswap, q_chain, q_neg, q_isN, q_notN, q_noO, q_someO, q_sli, q_rev, q_revM, q_bm, q_bm0, q_m1, q_seqI, q_rng, q_rng2, q_enum, q_zip, q_yes, q_put, e_bl, e_int, e_str, e_lst, e_n_non, e_n_bl, e_n_int, e_n_str, e_n_tup, e_n_lst, e_n_slst, e_n_dic, e_n_ref, e_seq_l, e_seq_s, e_seq_t, e_seq_z, e_rev_l, e_rev_s, e_i1, e_i2, e_l1, e_l1s, e_l2, e_p2, e_sl, e_o, e_ob, e_on, e_ml, e_md, e_c, e_tru_b, e_tru_n, e_tru_i, e_tru_t, e_tru_l, t_str_non, t_tup_non, t_int_non, t_bool_non, t_lst_non, t_dict_non, t_str_bl, t_tup_bl, t_int_bl, t_bool_bl, t_lst_bl, t_dict_bl, t_str_int, t_tup_int, t_int_int, t_bool_int, t_lst_int, t_dict_int, t_str_str, t_tup_str, t_int_str, t_bool_str, t_lst_str, t_dict_str, t_str_tup, t_tup_tup, t_int_tup, t_bool_tup, t_lst_tup, t_dict_tup, t_str_lst, t_tup_lst, t_int_lst, t_bool_lst, t_lst_lst, t_dict_lst, t_str_dic, t_tup_dic, t_int_dic, t_bool_dic, t_lst_dic, t_dict_dic, r_add_i, r_add_s, r_add_t, r_add_l, r_sub, r_mul, r_mul_l, r_fdiv, r_mod, r_pow, r_lt, r_ix_l, r_ix_t, r_ix_s, r_ix_rl, r_ix_rd, r_sl_l, r_sl_sl, r_sl_t, r_sl_s, r_len_l, r_len_sl, r_len_t, r_len_s, r_len_r, r_all, r_any, r_tuple_l, r_tuple_sl, r_tuple_t, r_tuple_r, r_list_l, r_list_sl, r_list_t, r_list_r, r_ord, r_repr, r_pop, r_app, r_ext, r_join, r_join_t, r_isl_r, r_isl_l, r_in, r_put_d, r_put_l, r_eq_i, r_eq_s, r_ne_i, r_ne_s, r_eq_t0, r_ne_t0, r_eq_r0, r_ne_r0, r_eq_l0, r_ne_l0, r_start, gD, gsD, wipeD, br_not, br_true, br_false, br_dec, List.map_cons, List.map_nil, List.length_cons, List.length_nil, List.replicate_succ, List.replicate_zero, List.cons_append, List.nil_append, List.getElem?_cons_zero, List.getElem?_cons_succ, List.getElem?_nil, List.set_cons_zero, List.set_cons_succ, Nat.reduceAdd, Nat.reduceSub, Nat.reduceLeDiff, Nat.zero_add, updM_same, true_and, List.isEmpty_nil, List.isEmpty_cons, Bool.not_true, Bool.not_false, Bool.not_not]; exact h
  · exact h.elim
theorem ec_a {K : Nat → Prop} : eC "a" K = K 97 := rfl
theorem ec_z {K : Nat → Prop} : eC "z" K = K 122 := rfl
def badB : D → Bool
  | .str z => match z.cps.toList with
    | [c] => decide ((c : Int) < 97) || decide (122 < (c : Int))
    | _ => false
  | _ => false
theorem badB_c (c : Nat) : badB (.str ⟨#[c]⟩) = (decide ((c : Int) < 97) || decide (122 < (c : Int))) := rfl
theorem bad_let (x : Str) : (((signs x).filter badB).map id).isEmpty = letB x := by
  rw [List.map_id]
  unfold signs letB
  induction x.cps.toList with
  | nil => rfl
  | cons c l ih =>
    rw [List.map_cons, List.filter_cons, badB_c, List.all_cons, ← ih]
    by_cases h : c ∈ abc
    · have h' := (mem_abc c).mp h
      rw [decide_eq_false (show ¬ (c : Int) < 97 by omega), decide_eq_false (show ¬ 122 < (c : Int) by omega), decide_eq_true h]
      rfl
    · have h' : (c : Int) < 97 ∨ 122 < (c : Int) := by
        rcases Nat.lt_or_ge c 97 with q | q
        · left
          omega
        · right
          rcases Nat.lt_or_ge 122 c with r | r
          · omega
          · exact absurd ((mem_abc c).mpr ⟨q, r⟩) h
      have e : (decide ((c : Int) < 97) || decide (122 < (c : Int))) = true := by simpa using h'
      rw [e, decide_eq_false h]
      rfl
theorem rd_l_is_name : ∀ ds M F, R_is_name ds M F → T_l_is_name { nx := fun _ M' => F .non M', rt := F } (startD 2 ds) M := by
  intro ds M F h
  unfold R_is_name at h
  split at h
  · next d =>
    obtain ⟨hv, h⟩ := h
    cases d with
    | str x =>
      have hl : x.length ≤ 1000000 := by simpa [vd] using hv
      rw [nameB_str] at h
      simp only [T_l_is_name, q_v, q_c, q_tup, q_lst, q_op, q_nil, q_cons, q_tst, q_tru, q_andT, q_orT, q_notT, q_andV, q_orV, q_notV, q_ifE, q_next, q_seq, q_asg, q_drop, q_ret, q_retN, q_ifS, q_par, q_isi, q_blt, q_call, q_callK, q_kid, q_kswap, q_chain, q_neg, q_isN, q_notN, q_noO, q_someO, q_sli, q_rev, q_revM, q_bm, q_bm0, q_m1, q_seqI, q_rng, q_rng2, q_enum, q_zip, q_yes, q_put, e_bl, e_int, e_str, e_lst, e_n_non, e_n_bl, e_n_int, e_n_str, e_n_tup, e_n_lst, e_n_slst, e_n_dic, e_n_ref, e_seq_l, e_seq_s, e_seq_t, e_seq_z, e_rev_l, e_rev_s, e_i1, e_i2, e_l1, e_l1s, e_l2, e_p2, e_sl, e_o, e_ob, e_on, e_ml, e_md, e_c, e_tru_b, e_tru_n, e_tru_i, e_tru_t, e_tru_l, t_str_non, t_tup_non, t_int_non, t_bool_non, t_lst_non, t_dict_non, t_str_bl, t_tup_bl, t_int_bl, t_bool_bl, t_lst_bl, t_dict_bl, t_str_int, t_tup_int, t_int_int, t_bool_int, t_lst_int, t_dict_int, t_str_str, t_tup_str, t_int_str, t_bool_str, t_lst_str, t_dict_str, t_str_tup, t_tup_tup, t_int_tup, t_bool_tup, t_lst_tup, t_dict_tup, t_str_lst, t_tup_lst, t_int_lst, t_bool_lst, t_lst_lst, t_dict_lst, t_str_dic, t_tup_dic, t_int_dic, t_bool_dic, t_lst_dic, t_dict_dic, r_add_i, r_add_s, r_add_t, r_add_l, r_sub, r_mul, r_mul_l, r_fdiv, r_mod, r_pow, r_lt, r_ix_l, r_ix_t, r_ix_s, r_ix_rl, r_ix_rd, r_sl_l, r_sl_sl, r_sl_t, r_sl_s, r_len_l, r_len_sl, r_len_t, r_len_s, r_len_r, r_all, r_any, r_tuple_l, r_tuple_sl, r_tuple_t, r_tuple_r, r_list_l, r_list_sl, r_list_t, r_list_r, r_ord, r_repr, r_pop, r_app, r_ext, r_join, r_join_t, r_isl_r, r_isl_l, r_in, r_put_d, r_put_l, r_eq_i, r_eq_s, r_ne_i, r_ne_s, r_eq_t0, r_ne_t0, r_eq_r0, r_ne_r0, r_eq_l0, r_ne_l0, r_start, gD, gsD, wipeD, br_not, br_true, br_false, br_dec, List.map_cons, List.map_nil, List.length_cons, List.length_nil, List.replicate_succ, List.replicate_zero, List.cons_append, List.nil_append, List.getElem?_cons_zero, List.getElem?_cons_succ, List.getElem?_nil, List.set_cons_zero, List.set_cons_succ, Nat.reduceAdd, Nat.reduceSub, Nat.reduceLeDiff, Nat.zero_add, updM_same, true_and, List.isEmpty_nil, List.isEmpty_cons, Bool.not_true, Bool.not_false, Bool.not_not]
      refine ⟨hl, fun h1 => ?_, fun h1 => ⟨hl, fun h2 => ?_, fun h2 => ?_⟩⟩
      · rw [decide_eq_false (show ¬ 1 ≤ x.length by omega)] at h
        exact h
      · rw [decide_eq_false (show ¬ x.length ≤ 8 by omega), Bool.and_false] at h
        exact h
      · rw [decide_eq_true (show 1 ≤ x.length by omega), decide_eq_true (show x.length ≤ 8 by omega)] at h
        refine lc_pure badB id (xs := signs x) (by rw [signs_len]; exact hl) (fun G g => ?_) (fun d hd => ?_) ?_
        · simp only [q_v, q_c, q_tup, q_lst, q_op, q_nil, q_cons, q_tst, q_tru, q_andT, q_orT, q_notT, q_andV, q_orV, q_notV, q_ifE, q_next, q_seq, q_asg, q_drop, q_ret, q_retN, q_ifS, q_par, q_isi, q_blt, q_call, q_callK, q_kid, q_kswap, q_chain, q_neg, q_isN, q_notN, q_noO, q_someO, q_sli, q_rev, q_revM, q_bm, q_bm0, q_m1, q_seqI, q_rng, q_rng2, q_enum, q_zip, q_yes, q_put, e_bl, e_int, e_str, e_lst, e_n_non, e_n_bl, e_n_int, e_n_str, e_n_tup, e_n_lst, e_n_slst, e_n_dic, e_n_ref, e_seq_l, e_seq_s, e_seq_t, e_seq_z, e_rev_l, e_rev_s, e_i1, e_i2, e_l1, e_l1s, e_l2, e_p2, e_sl, e_o, e_ob, e_on, e_ml, e_md, e_c, e_tru_b, e_tru_n, e_tru_i, e_tru_t, e_tru_l, t_str_non, t_tup_non, t_int_non, t_bool_non, t_lst_non, t_dict_non, t_str_bl, t_tup_bl, t_int_bl, t_bool_bl, t_lst_bl, t_dict_bl, t_str_int, t_tup_int, t_int_int, t_bool_int, t_lst_int, t_dict_int, t_str_str, t_tup_str, t_int_str, t_bool_str, t_lst_str, t_dict_str, t_str_tup, t_tup_tup, t_int_tup, t_bool_tup, t_lst_tup, t_dict_tup, t_str_lst, t_tup_lst, t_int_lst, t_bool_lst, t_lst_lst, t_dict_lst, t_str_dic, t_tup_dic, t_int_dic, t_bool_dic, t_lst_dic, t_dict_dic, r_add_i, r_add_s, r_add_t, r_add_l, r_sub, r_mul, r_mul_l, r_fdiv, r_mod, r_pow, r_lt, r_ix_l, r_ix_t, r_ix_s, r_ix_rl, r_ix_rd, r_sl_l, r_sl_sl, r_sl_t, r_sl_s, r_len_l, r_len_sl, r_len_t, r_len_s, r_len_r, r_all, r_any, r_tuple_l, r_tuple_sl, r_tuple_t, r_tuple_r, r_list_l, r_list_sl, r_list_t, r_list_r, r_ord, r_repr, r_pop, r_app, r_ext, r_join, r_join_t, r_isl_r, r_isl_l, r_in, r_put_d, r_put_l, r_eq_i, r_eq_s, r_ne_i, r_ne_s, r_eq_t0, r_ne_t0, r_eq_r0, r_ne_r0, r_eq_l0, r_ne_l0, r_start, gD, gsD, wipeD, br_not, br_true, br_false, br_dec, List.map_cons, List.map_nil, List.length_cons, List.length_nil, List.replicate_succ, List.replicate_zero, List.cons_append, List.nil_append, List.getElem?_cons_zero, List.getElem?_cons_succ, List.getElem?_nil, List.set_cons_zero, List.set_cons_succ, Nat.reduceAdd, Nat.reduceSub, Nat.reduceLeDiff, Nat.zero_add, updM_same, true_and, List.isEmpty_nil, List.isEmpty_cons, Bool.not_true, Bool.not_false, Bool.not_not]
          exact g
        · obtain ⟨c, _, rfl⟩ := mem_signs hd
          simp only [q_v, q_c, q_tup, q_lst, q_op, q_nil, q_cons, q_tst, q_tru, q_andT, q_orT, q_notT, q_andV, q_orV, q_notV, q_ifE, q_next, q_seq, q_asg, q_drop, q_ret, q_retN, q_ifS, q_par, q_isi, q_blt, q_call, q_callK, q_kid, q_kswap, q_chain, q_neg, q_isN, q_notN, q_noO, q_someO, q_sli, q_rev, q_revM, q_bm, q_bm0, q_m1, q_seqI, q_rng, q_rng2, q_enum, q_zip, q_yes, q_put, e_bl, e_int, e_str, e_lst, e_n_non, e_n_bl, e_n_int, e_n_str, e_n_tup, e_n_lst, e_n_slst, e_n_dic, e_n_ref, e_seq_l, e_seq_s, e_seq_t, e_seq_z, e_rev_l, e_rev_s, e_i1, e_i2, e_l1, e_l1s, e_l2, e_p2, e_sl, e_o, e_ob, e_on, e_ml, e_md, e_c, e_tru_b, e_tru_n, e_tru_i, e_tru_t, e_tru_l, t_str_non, t_tup_non, t_int_non, t_bool_non, t_lst_non, t_dict_non, t_str_bl, t_tup_bl, t_int_bl, t_bool_bl, t_lst_bl, t_dict_bl, t_str_int, t_tup_int, t_int_int, t_bool_int, t_lst_int, t_dict_int, t_str_str, t_tup_str, t_int_str, t_bool_str, t_lst_str, t_dict_str, t_str_tup, t_tup_tup, t_int_tup, t_bool_tup, t_lst_tup, t_dict_tup, t_str_lst, t_tup_lst, t_int_lst, t_bool_lst, t_lst_lst, t_dict_lst, t_str_dic, t_tup_dic, t_int_dic, t_bool_dic, t_lst_dic, t_dict_dic, r_add_i, r_add_s, r_add_t, r_add_l, r_sub, r_mul, r_mul_l, r_fdiv, r_mod, r_pow, r_lt, r_ix_l, r_ix_t, r_ix_s, r_ix_rl, r_ix_rd, r_sl_l, r_sl_sl, r_sl_t, r_sl_s, r_len_l, r_len_sl, r_len_t, r_len_s, r_len_r, r_all, r_any, r_tuple_l, r_tuple_sl, r_tuple_t, r_tuple_r, r_list_l, r_list_sl, r_list_t, r_list_r, r_ord, r_repr, r_pop, r_app, r_ext, r_join, r_join_t, r_isl_r, r_isl_l, r_in, r_put_d, r_put_l, r_eq_i, r_eq_s, r_ne_i, r_ne_s, r_eq_t0, r_ne_t0, r_eq_r0, r_ne_r0, r_eq_l0, r_ne_l0, r_start, gD, gsD, wipeD, br_not, br_true, br_false, br_dec, List.map_cons, List.map_nil, List.length_cons, List.length_nil, List.replicate_succ, List.replicate_zero, List.cons_append, List.nil_append, List.getElem?_cons_zero, List.getElem?_cons_succ, List.getElem?_nil, List.set_cons_zero, List.set_cons_succ, Nat.reduceAdd, Nat.reduceSub, Nat.reduceLeDiff, Nat.zero_add, updM_same, true_and, List.isEmpty_nil, List.isEmpty_cons, Bool.not_true, Bool.not_false, Bool.not_not, ec_a, ec_z, badB_c]
          refine ⟨fun M' G g => ⟨fun q => ?_, fun q => ?_⟩, fun _ M' G g => g⟩
          · have q' : (c : Int) < 97 := q
            rw [decide_eq_true q'] at g
            exact g
          · have q' : ¬ (c : Int) < 97 := q
            rw [decide_eq_false q'] at g
            exact g
        · simp only [q_v, q_c, q_tup, q_lst, q_op, q_nil, q_cons, q_tst, q_tru, q_andT, q_orT, q_notT, q_andV, q_orV, q_notV, q_ifE, q_next, q_seq, q_asg, q_drop, q_ret, q_retN, q_ifS, q_par, q_isi, q_blt, q_call, q_callK, q_kid, q_kswap, q_chain, q_neg, q_isN, q_notN, q_noO, q_someO, q_sli, q_rev, q_revM, q_bm, q_bm0, q_m1, q_seqI, q_rng, q_rng2, q_enum, q_zip, q_yes, q_put, e_bl, e_int, e_str, e_lst, e_n_non, e_n_bl, e_n_int, e_n_str, e_n_tup, e_n_lst, e_n_slst, e_n_dic, e_n_ref, e_seq_l, e_seq_s, e_seq_t, e_seq_z, e_rev_l, e_rev_s, e_i1, e_i2, e_l1, e_l1s, e_l2, e_p2, e_sl, e_o, e_ob, e_on, e_ml, e_md, e_c, e_tru_b, e_tru_n, e_tru_i, e_tru_t, e_tru_l, t_str_non, t_tup_non, t_int_non, t_bool_non, t_lst_non, t_dict_non, t_str_bl, t_tup_bl, t_int_bl, t_bool_bl, t_lst_bl, t_dict_bl, t_str_int, t_tup_int, t_int_int, t_bool_int, t_lst_int, t_dict_int, t_str_str, t_tup_str, t_int_str, t_bool_str, t_lst_str, t_dict_str, t_str_tup, t_tup_tup, t_int_tup, t_bool_tup, t_lst_tup, t_dict_tup, t_str_lst, t_tup_lst, t_int_lst, t_bool_lst, t_lst_lst, t_dict_lst, t_str_dic, t_tup_dic, t_int_dic, t_bool_dic, t_lst_dic, t_dict_dic, r_add_i, r_add_s, r_add_t, r_add_l, r_sub, r_mul, r_mul_l, r_fdiv, r_mod, r_pow, r_lt, r_ix_l, r_ix_t, r_ix_s, r_ix_rl, r_ix_rd, r_sl_l, r_sl_sl, r_sl_t, r_sl_s, r_len_l, r_len_sl, r_len_t, r_len_s, r_len_r, r_all, r_any, r_tuple_l, r_tuple_sl, r_tuple_t, r_tuple_r, r_list_l, r_list_sl, r_list_t, r_list_r, r_ord, r_repr, r_pop, r_app, r_ext, r_join, r_join_t, r_isl_r, r_isl_l, r_in, r_put_d, r_put_l, r_eq_i, r_eq_s, r_ne_i, r_ne_s, r_eq_t0, r_ne_t0, r_eq_r0, r_ne_r0, r_eq_l0, r_ne_l0, r_start, gD, gsD, wipeD, br_not, br_true, br_false, br_dec, List.map_cons, List.map_nil, List.length_cons, List.length_nil, List.replicate_succ, List.replicate_zero, List.cons_append, List.nil_append, List.getElem?_cons_zero, List.getElem?_cons_succ, List.getElem?_nil, List.set_cons_zero, List.set_cons_succ, Nat.reduceAdd, Nat.reduceSub, Nat.reduceLeDiff, Nat.zero_add, updM_same, true_and, List.isEmpty_nil, List.isEmpty_cons, Bool.not_true, Bool.not_false, Bool.not_not]
          rw [bad_let]
          exact h
    | slst _ => simp [vd] at hv
    | ref _ => simp [vd] at hv
    | ty _ => simp [vd] at hv
    | _ => simp only [T_l_is_name, q_v, q_c, q_tup, q_lst, q_op, q_nil, q_cons, q_tst, q_tru, q_andT, q_orT, q_notT, q_andV, q_orV, q_notV, q_ifE, q_next, q_seq, q_asg, q_drop, q_ret, q_retN, q_ifS, q_par, q_isi, q_blt, q_call, q_callK, q_kid, q_kswap, q_chain, q_neg, q_isN, q_notN, q_noO, q_someO, q_sli, q_rev, q_revM, q_bm, q_bm0, q_m1, q_seqI, q_rng, q_rng2, q_enum, q_zip, q_yes, q_put, e_bl, e_int, e_str, e_lst, e_n_non, e_n_bl, e_n_int, e_n_str, e_n_tup, e_n_lst, e_n_slst, e_n_dic, e_n_ref, e_seq_l, e_seq_s, e_seq_t, e_seq_z, e_rev_l, e_rev_s, e_i1, e_i2, e_l1, e_l1s, e_l2, e_p2, e_sl, e_o, e_ob, e_on, e_ml, e_md, e_c, e_tru_b, e_tru_n, e_tru_i, e_tru_t, e_tru_l, t_str_non, t_tup_non, t_int_non, t_bool_non, t_lst_non, t_dict_non, t_str_bl, t_tup_bl, t_int_bl, t_bool_bl, t_lst_bl, t_dict_bl, t_str_int, t_tup_int, t_int_int, t_bool_int, t_lst_int, t_dict_int, t_str_str, t_tup_str, t_int_str, t_bool_str, t_lst_str, t_dict_str, t_str_tup, t_tup_tup, t_int_tup, t_bool_tup, t_lst_tup, t_dict_tup, t_str_lst, t_tup_lst, t_int_lst, t_bool_lst, t_lst_lst, t_dict_lst, t_str_dic, t_tup_dic, t_int_dic, t_bool_dic, t_lst_dic, t_dict_dic, r_add_i, r_add_s, r_add_t, r_add_l, r_sub, r_mul, r_mul_l, r_fdiv, r_mod, r_pow, r_lt, r_ix_l, r_ix_t, r_ix_s, r_ix_rl, r_ix_rd, r_sl_l, r_sl_sl, r_sl_t, r_sl_s, r_len_l, r_len_sl, r_len_t, r_len_s, r_len_r, r_all, r_any, r_tuple_l, r_tuple_sl, r_tuple_t, r_tuple_r, r_list_l, r_list_sl, r_list_t, r_list_r, r_ord, r_repr, r_pop, r_app, r_ext, r_join, r_join_t, r_isl_r, r_isl_l, r_in, r_put_d, r_put_l, r_eq_i, r_eq_s, r_ne_i, r_ne_s, r_eq_t0, r_ne_t0, r_eq_r0, r_ne_r0, r_eq_l0, r_ne_l0, r_start, gD, gsD, wipeD, br_not, br_true, br_false, br_dec, List.map_cons, List.map_nil, List.length_cons, List.length_nil, List.replicate_succ, List.replicate_zero, List.cons_append, List.nil_append, List.getElem?_cons_zero, List.getElem?_cons_succ, List.getElem?_nil, List.set_cons_zero, List.set_cons_succ, Nat.reduceAdd, Nat.reduceSub, Nat.reduceLeDiff, Nat.zero_add, updM_same, true_and, List.isEmpty_nil, List.isEmpty_cons, Bool.not_true, Bool.not_false, Bool.not_not]; exact h
  · exact h.elim

/-! kinds and patterns -/
def vdT : D → Bool
  | .tup xs => xs.all vd && decide (xs.length ≤ 1000000)
  | d => vd d
def kindB : D → Bool
  | .tup xs => !xs.isEmpty && xs.all nameB
  | _ => false
def isHole : D → Bool
  | .str x => decide (x = ("T" : Str))
  | _ => false
def patB : D → Bool
  | .tup xs => match xs.getLast? with
    | some l => xs.dropLast.all nameB && (nameB l || isHole l)
    | none => false
  | _ => false
def R_is_kind : RD
  | [d], M, F => vdT d = true ∧ F (.bl (kindB d)) M
  | _, _, _ => False
def R_is_pattern : RD
  | [d], M, F => vdT d = true ∧ F (.bl (patB d)) M
  | _, _, _ => False
def R_has_hole : RD
  | [.tup xs], M, F => ∃ l, xs.getLast? = some l ∧ vd l = true ∧ F (.bl (isHole l)) M
  | _, _, _ => False
theorem ln_is_kind : ∀ xs M F, R_is_kind xs M F → xs.length = 1 := by
  intro xs M F h
  unfold R_is_kind at h
  split at h
  · rfl
  · exact h.elim
theorem ln_is_pattern : ∀ xs M F, R_is_pattern xs M F → xs.length = 1 := by
  intro xs M F h
  unfold R_is_pattern at h
  split at h
  · rfl
  · exact h.elim
theorem ln_has_hole : ∀ xs M F, R_has_hole xs M F → xs.length = 1 := by
  intro xs M F h
  unfold R_has_hole at h
  split at h
  · rfl
  · exact h.elim
theorem atI_neg1 {xs : List D} {l : D} (h : xs.getLast? = some l) : atI xs (-1) = some l := by
  obtain ⟨ys, e⟩ := List.getLast?_eq_some_iff.mp h
  rw [e]
  exact atI_last _ _
theorem rd_has_hole : ∀ ds M F, R_has_hole ds M F → T_has_hole { nx := fun _ M' => F .non M', rt := F } (startD 1 ds) M := by
  intro ds M F h
  unfold R_has_hole at h
  split at h
  · next xs =>
    obtain ⟨l, hl, hv, h⟩ := h
    simp only [T_has_hole, q_v, q_c, q_tup, q_lst, q_op, q_nil, q_cons, q_tst, q_tru, q_andT, q_orT, q_notT, q_andV, q_orV, q_notV, q_ifE, q_next, q_seq, q_asg, q_drop, q_ret, q_retN, q_ifS, q_par, q_isi, q_blt, q_call, q_callK, q_kid, q_kswap, q_chain, q_neg, q_isN, q_notN, q_noO, q_someO, q_sli, q_rev, q_revM, q_bm, q_bm0, q_m1, q_seqI, q_rng, q_rng2, q_enum, q_zip, q_yes, q_put, e_bl, e_int, e_str, e_lst, e_n_non, e_n_bl, e_n_int, e_n_str, e_n_tup, e_n_lst, e_n_slst, e_n_dic, e_n_ref, e_seq_l, e_seq_s, e_seq_t, e_seq_z, e_rev_l, e_rev_s, e_i1, e_i2, e_l1, e_l1s, e_l2, e_p2, e_sl, e_o, e_ob, e_on, e_ml, e_md, e_c, e_tru_b, e_tru_n, e_tru_i, e_tru_t, e_tru_l, t_str_non, t_tup_non, t_int_non, t_bool_non, t_lst_non, t_dict_non, t_str_bl, t_tup_bl, t_int_bl, t_bool_bl, t_lst_bl, t_dict_bl, t_str_int, t_tup_int, t_int_int, t_bool_int, t_lst_int, t_dict_int, t_str_str, t_tup_str, t_int_str, t_bool_str, t_lst_str, t_dict_str, t_str_tup, t_tup_tup, t_int_tup, t_bool_tup, t_lst_tup, t_dict_tup, t_str_lst, t_tup_lst, t_int_lst, t_bool_lst, t_lst_lst, t_dict_lst, t_str_dic, t_tup_dic, t_int_dic, t_bool_dic, t_lst_dic, t_dict_dic, r_add_i, r_add_s, r_add_t, r_add_l, r_sub, r_mul, r_mul_l, r_fdiv, r_mod, r_pow, r_lt, r_ix_l, r_ix_t, r_ix_s, r_ix_rl, r_ix_rd, r_sl_l, r_sl_sl, r_sl_t, r_sl_s, r_len_l, r_len_sl, r_len_t, r_len_s, r_len_r, r_all, r_any, r_tuple_l, r_tuple_sl, r_tuple_t, r_tuple_r, r_list_l, r_list_sl, r_list_t, r_list_r, r_ord, r_repr, r_pop, r_app, r_ext, r_join, r_join_t, r_isl_r, r_isl_l, r_in, r_put_d, r_put_l, r_eq_i, r_eq_s, r_ne_i, r_ne_s, r_eq_t0, r_ne_t0, r_eq_r0, r_ne_r0, r_eq_l0, r_ne_l0, r_start, gD, gsD, wipeD, br_not, br_true, br_false, br_dec, List.map_cons, List.map_nil, List.length_cons, List.length_nil, List.replicate_succ, List.replicate_zero, List.cons_append, List.nil_append, List.getElem?_cons_zero, List.getElem?_cons_succ, List.getElem?_nil, List.set_cons_zero, List.set_cons_succ, Nat.reduceAdd, Nat.reduceSub, Nat.reduceLeDiff, Nat.zero_add, updM_same, true_and, List.isEmpty_nil, List.isEmpty_cons, Bool.not_true, Bool.not_false, Bool.not_not, atI_neg1 hl]
    cases l with
    | str x => simp only [q_v, q_c, q_tup, q_lst, q_op, q_nil, q_cons, q_tst, q_tru, q_andT, q_orT, q_notT, q_andV, q_orV, q_notV, q_ifE, q_next, q_seq, q_asg, q_drop, q_ret, q_retN, q_ifS, q_par, q_isi, q_blt, q_call, q_callK, q_kid, q_kswap, q_chain, q_neg, q_isN, q_notN, q_noO, q_someO, q_sli, q_rev, q_revM, q_bm, q_bm0, q_m1, q_seqI, q_rng, q_rng2, q_enum, q_zip, q_yes, q_put, e_bl, e_int, e_str, e_lst, e_n_non, e_n_bl, e_n_int, e_n_str, e_n_tup, e_n_lst, e_n_slst, e_n_dic, e_n_ref, e_seq_l, e_seq_s, e_seq_t, e_seq_z, e_rev_l, e_rev_s, e_i1, e_i2, e_l1, e_l1s, e_l2, e_p2, e_sl, e_o, e_ob, e_on, e_ml, e_md, e_c, e_tru_b, e_tru_n, e_tru_i, e_tru_t, e_tru_l, t_str_non, t_tup_non, t_int_non, t_bool_non, t_lst_non, t_dict_non, t_str_bl, t_tup_bl, t_int_bl, t_bool_bl, t_lst_bl, t_dict_bl, t_str_int, t_tup_int, t_int_int, t_bool_int, t_lst_int, t_dict_int, t_str_str, t_tup_str, t_int_str, t_bool_str, t_lst_str, t_dict_str, t_str_tup, t_tup_tup, t_int_tup, t_bool_tup, t_lst_tup, t_dict_tup, t_str_lst, t_tup_lst, t_int_lst, t_bool_lst, t_lst_lst, t_dict_lst, t_str_dic, t_tup_dic, t_int_dic, t_bool_dic, t_lst_dic, t_dict_dic, r_add_i, r_add_s, r_add_t, r_add_l, r_sub, r_mul, r_mul_l, r_fdiv, r_mod, r_pow, r_lt, r_ix_l, r_ix_t, r_ix_s, r_ix_rl, r_ix_rd, r_sl_l, r_sl_sl, r_sl_t, r_sl_s, r_len_l, r_len_sl, r_len_t, r_len_s, r_len_r, r_all, r_any, r_tuple_l, r_tuple_sl, r_tuple_t, r_tuple_r, r_list_l, r_list_sl, r_list_t, r_list_r, r_ord, r_repr, r_pop, r_app, r_ext, r_join, r_join_t, r_isl_r, r_isl_l, r_in, r_put_d, r_put_l, r_eq_i, r_eq_s, r_ne_i, r_ne_s, r_eq_t0, r_ne_t0, r_eq_r0, r_ne_r0, r_eq_l0, r_ne_l0, r_start, gD, gsD, wipeD, br_not, br_true, br_false, br_dec, List.map_cons, List.map_nil, List.length_cons, List.length_nil, List.replicate_succ, List.replicate_zero, List.cons_append, List.nil_append, List.getElem?_cons_zero, List.getElem?_cons_succ, List.getElem?_nil, List.set_cons_zero, List.set_cons_succ, Nat.reduceAdd, Nat.reduceSub, Nat.reduceLeDiff, Nat.zero_add, updM_same, true_and, List.isEmpty_nil, List.isEmpty_cons, Bool.not_true, Bool.not_false, Bool.not_not]; exact h
    | slst _ => simp [vd] at hv
    | ref _ => simp [vd] at hv
    | ty _ => simp [vd] at hv
    | _ => simp only [q_v, q_c, q_tup, q_lst, q_op, q_nil, q_cons, q_tst, q_tru, q_andT, q_orT, q_notT, q_andV, q_orV, q_notV, q_ifE, q_next, q_seq, q_asg, q_drop, q_ret, q_retN, q_ifS, q_par, q_isi, q_blt, q_call, q_callK, q_kid, q_kswap, q_chain, q_neg, q_isN, q_notN, q_noO, q_someO, q_sli, q_rev, q_revM, q_bm, q_bm0, q_m1, q_seqI, q_rng, q_rng2, q_enum, q_zip, q_yes, q_put, e_bl, e_int, e_str, e_lst, e_n_non, e_n_bl, e_n_int, e_n_str, e_n_tup, e_n_lst, e_n_slst, e_n_dic, e_n_ref, e_seq_l, e_seq_s, e_seq_t, e_seq_z, e_rev_l, e_rev_s, e_i1, e_i2, e_l1, e_l1s, e_l2, e_p2, e_sl, e_o, e_ob, e_on, e_ml, e_md, e_c, e_tru_b, e_tru_n, e_tru_i, e_tru_t, e_tru_l, t_str_non, t_tup_non, t_int_non, t_bool_non, t_lst_non, t_dict_non, t_str_bl, t_tup_bl, t_int_bl, t_bool_bl, t_lst_bl, t_dict_bl, t_str_int, t_tup_int, t_int_int, t_bool_int, t_lst_int, t_dict_int, t_str_str, t_tup_str, t_int_str, t_bool_str, t_lst_str, t_dict_str, t_str_tup, t_tup_tup, t_int_tup, t_bool_tup, t_lst_tup, t_dict_tup, t_str_lst, t_tup_lst, t_int_lst, t_bool_lst, t_lst_lst, t_dict_lst, t_str_dic, t_tup_dic, t_int_dic, t_bool_dic, t_lst_dic, t_dict_dic, r_add_i, r_add_s, r_add_t, r_add_l, r_sub, r_mul, r_mul_l, r_fdiv, r_mod, r_pow, r_lt, r_ix_l, r_ix_t, r_ix_s, r_ix_rl, r_ix_rd, r_sl_l, r_sl_sl, r_sl_t, r_sl_s, r_len_l, r_len_sl, r_len_t, r_len_s, r_len_r, r_all, r_any, r_tuple_l, r_tuple_sl, r_tuple_t, r_tuple_r, r_list_l, r_list_sl, r_list_t, r_list_r, r_ord, r_repr, r_pop, r_app, r_ext, r_join, r_join_t, r_isl_r, r_isl_l, r_in, r_put_d, r_put_l, r_eq_i, r_eq_s, r_ne_i, r_ne_s, r_eq_t0, r_ne_t0, r_eq_r0, r_ne_r0, r_eq_l0, r_ne_l0, r_start, gD, gsD, wipeD, br_not, br_true, br_false, br_dec, List.map_cons, List.map_nil, List.length_cons, List.length_nil, List.replicate_succ, List.replicate_zero, List.cons_append, List.nil_append, List.getElem?_cons_zero, List.getElem?_cons_succ, List.getElem?_nil, List.set_cons_zero, List.set_cons_succ, Nat.reduceAdd, Nat.reduceSub, Nat.reduceLeDiff, Nat.zero_add, updM_same, true_and, List.isEmpty_nil, List.isEmpty_cons, Bool.not_true, Bool.not_false, Bool.not_not]; exact h
  · exact h.elim
theorem all_nameB (xs : List D) : (xs.map fun d => D.bl (nameB d)).all isBl = true ∧ (xs.map fun d => D.bl (nameB d)).all getBl = xs.all nameB := by
  constructor
  · rw [List.all_map]
    exact List.all_eq_true.mpr fun _ _ => rfl
  · rw [List.all_map]
    rfl
theorem rd_is_kind : ∀ ds M F, R_is_kind ds M F → T_is_kind R_is_name { nx := fun _ M' => F .non M', rt := F } (startD 2 ds) M := by
  intro ds M F h
  unfold R_is_kind at h
  split at h
  · next d =>
    obtain ⟨hv, h⟩ := h
    cases d with
    | tup xs =>
      have hv' : xs.all vd = true ∧ xs.length ≤ 1000000 := by simpa [vdT] using hv
      cases xs with
      | nil => simp only [T_is_kind, q_v, q_c, q_tup, q_lst, q_op, q_nil, q_cons, q_tst, q_tru, q_andT, q_orT, q_notT, q_andV, q_orV, q_notV, q_ifE, q_next, q_seq, q_asg, q_drop, q_ret, q_retN, q_ifS, q_par, q_isi, q_blt, q_call, q_callK, q_kid, q_kswap, q_chain, q_neg, q_isN, q_notN, q_noO, q_someO, q_sli, q_rev, q_revM, q_bm, q_bm0, q_m1, q_seqI, q_rng, q_rng2, q_enum, q_zip, q_yes, q_put, e_bl, e_int, e_str, e_lst, e_n_non, e_n_bl, e_n_int, e_n_str, e_n_tup, e_n_lst, e_n_slst, e_n_dic, e_n_ref, e_seq_l, e_seq_s, e_seq_t, e_seq_z, e_rev_l, e_rev_s, e_i1, e_i2, e_l1, e_l1s, e_l2, e_p2, e_sl, e_o, e_ob, e_on, e_ml, e_md, e_c, e_tru_b, e_tru_n, e_tru_i, e_tru_t, e_tru_l, t_str_non, t_tup_non, t_int_non, t_bool_non, t_lst_non, t_dict_non, t_str_bl, t_tup_bl, t_int_bl, t_bool_bl, t_lst_bl, t_dict_bl, t_str_int, t_tup_int, t_int_int, t_bool_int, t_lst_int, t_dict_int, t_str_str, t_tup_str, t_int_str, t_bool_str, t_lst_str, t_dict_str, t_str_tup, t_tup_tup, t_int_tup, t_bool_tup, t_lst_tup, t_dict_tup, t_str_lst, t_tup_lst, t_int_lst, t_bool_lst, t_lst_lst, t_dict_lst, t_str_dic, t_tup_dic, t_int_dic, t_bool_dic, t_lst_dic, t_dict_dic, r_add_i, r_add_s, r_add_t, r_add_l, r_sub, r_mul, r_mul_l, r_fdiv, r_mod, r_pow, r_lt, r_ix_l, r_ix_t, r_ix_s, r_ix_rl, r_ix_rd, r_sl_l, r_sl_sl, r_sl_t, r_sl_s, r_len_l, r_len_sl, r_len_t, r_len_s, r_len_r, r_all, r_any, r_tuple_l, r_tuple_sl, r_tuple_t, r_tuple_r, r_list_l, r_list_sl, r_list_t, r_list_r, r_ord, r_repr, r_pop, r_app, r_ext, r_join, r_join_t, r_isl_r, r_isl_l, r_in, r_put_d, r_put_l, r_eq_i, r_eq_s, r_ne_i, r_ne_s, r_eq_t0, r_ne_t0, r_eq_r0, r_ne_r0, r_eq_l0, r_ne_l0, r_start, gD, gsD, wipeD, br_not, br_true, br_false, br_dec, List.map_cons, List.map_nil, List.length_cons, List.length_nil, List.replicate_succ, List.replicate_zero, List.cons_append, List.nil_append, List.getElem?_cons_zero, List.getElem?_cons_succ, List.getElem?_nil, List.set_cons_zero, List.set_cons_succ, Nat.reduceAdd, Nat.reduceSub, Nat.reduceLeDiff, Nat.zero_add, updM_same, true_and, List.isEmpty_nil, List.isEmpty_cons, Bool.not_true, Bool.not_false, Bool.not_not]; exact h
      | cons y ys =>
        simp only [T_is_kind, q_v, q_c, q_tup, q_lst, q_op, q_nil, q_cons, q_tst, q_tru, q_andT, q_orT, q_notT, q_andV, q_orV, q_notV, q_ifE, q_next, q_seq, q_asg, q_drop, q_ret, q_retN, q_ifS, q_par, q_isi, q_blt, q_call, q_callK, q_kid, q_kswap, q_chain, q_neg, q_isN, q_notN, q_noO, q_someO, q_sli, q_rev, q_revM, q_bm, q_bm0, q_m1, q_seqI, q_rng, q_rng2, q_enum, q_zip, q_yes, q_put, e_bl, e_int, e_str, e_lst, e_n_non, e_n_bl, e_n_int, e_n_str, e_n_tup, e_n_lst, e_n_slst, e_n_dic, e_n_ref, e_seq_l, e_seq_s, e_seq_t, e_seq_z, e_rev_l, e_rev_s, e_i1, e_i2, e_l1, e_l1s, e_l2, e_p2, e_sl, e_o, e_ob, e_on, e_ml, e_md, e_c, e_tru_b, e_tru_n, e_tru_i, e_tru_t, e_tru_l, t_str_non, t_tup_non, t_int_non, t_bool_non, t_lst_non, t_dict_non, t_str_bl, t_tup_bl, t_int_bl, t_bool_bl, t_lst_bl, t_dict_bl, t_str_int, t_tup_int, t_int_int, t_bool_int, t_lst_int, t_dict_int, t_str_str, t_tup_str, t_int_str, t_bool_str, t_lst_str, t_dict_str, t_str_tup, t_tup_tup, t_int_tup, t_bool_tup, t_lst_tup, t_dict_tup, t_str_lst, t_tup_lst, t_int_lst, t_bool_lst, t_lst_lst, t_dict_lst, t_str_dic, t_tup_dic, t_int_dic, t_bool_dic, t_lst_dic, t_dict_dic, r_add_i, r_add_s, r_add_t, r_add_l, r_sub, r_mul, r_mul_l, r_fdiv, r_mod, r_pow, r_lt, r_ix_l, r_ix_t, r_ix_s, r_ix_rl, r_ix_rd, r_sl_l, r_sl_sl, r_sl_t, r_sl_s, r_len_l, r_len_sl, r_len_t, r_len_s, r_len_r, r_all, r_any, r_tuple_l, r_tuple_sl, r_tuple_t, r_tuple_r, r_list_l, r_list_sl, r_list_t, r_list_r, r_ord, r_repr, r_pop, r_app, r_ext, r_join, r_join_t, r_isl_r, r_isl_l, r_in, r_put_d, r_put_l, r_eq_i, r_eq_s, r_ne_i, r_ne_s, r_eq_t0, r_ne_t0, r_eq_r0, r_ne_r0, r_eq_l0, r_ne_l0, r_start, gD, gsD, wipeD, br_not, br_true, br_false, br_dec, List.map_cons, List.map_nil, List.length_cons, List.length_nil, List.replicate_succ, List.replicate_zero, List.cons_append, List.nil_append, List.getElem?_cons_zero, List.getElem?_cons_succ, List.getElem?_nil, List.set_cons_zero, List.set_cons_succ, Nat.reduceAdd, Nat.reduceSub, Nat.reduceLeDiff, Nat.zero_add, updM_same, true_and, List.isEmpty_nil, List.isEmpty_cons, Bool.not_true, Bool.not_false, Bool.not_not]
        refine lc_map (fun d => .bl (nameB d)) (xs := y :: ys) hv'.2 (fun G g => ?_) (fun d hd => ?_) ?_
        · simp only [q_v, q_c, q_tup, q_lst, q_op, q_nil, q_cons, q_tst, q_tru, q_andT, q_orT, q_notT, q_andV, q_orV, q_notV, q_ifE, q_next, q_seq, q_asg, q_drop, q_ret, q_retN, q_ifS, q_par, q_isi, q_blt, q_call, q_callK, q_kid, q_kswap, q_chain, q_neg, q_isN, q_notN, q_noO, q_someO, q_sli, q_rev, q_revM, q_bm, q_bm0, q_m1, q_seqI, q_rng, q_rng2, q_enum, q_zip, q_yes, q_put, e_bl, e_int, e_str, e_lst, e_n_non, e_n_bl, e_n_int, e_n_str, e_n_tup, e_n_lst, e_n_slst, e_n_dic, e_n_ref, e_seq_l, e_seq_s, e_seq_t, e_seq_z, e_rev_l, e_rev_s, e_i1, e_i2, e_l1, e_l1s, e_l2, e_p2, e_sl, e_o, e_ob, e_on, e_ml, e_md, e_c, e_tru_b, e_tru_n, e_tru_i, e_tru_t, e_tru_l, t_str_non, t_tup_non, t_int_non, t_bool_non, t_lst_non, t_dict_non, t_str_bl, t_tup_bl, t_int_bl, t_bool_bl, t_lst_bl, t_dict_bl, t_str_int, t_tup_int, t_int_int, t_bool_int, t_lst_int, t_dict_int, t_str_str, t_tup_str, t_int_str, t_bool_str, t_lst_str, t_dict_str, t_str_tup, t_tup_tup, t_int_tup, t_bool_tup, t_lst_tup, t_dict_tup, t_str_lst, t_tup_lst, t_int_lst, t_bool_lst, t_lst_lst, t_dict_lst, t_str_dic, t_tup_dic, t_int_dic, t_bool_dic, t_lst_dic, t_dict_dic, r_add_i, r_add_s, r_add_t, r_add_l, r_sub, r_mul, r_mul_l, r_fdiv, r_mod, r_pow, r_lt, r_ix_l, r_ix_t, r_ix_s, r_ix_rl, r_ix_rd, r_sl_l, r_sl_sl, r_sl_t, r_sl_s, r_len_l, r_len_sl, r_len_t, r_len_s, r_len_r, r_all, r_any, r_tuple_l, r_tuple_sl, r_tuple_t, r_tuple_r, r_list_l, r_list_sl, r_list_t, r_list_r, r_ord, r_repr, r_pop, r_app, r_ext, r_join, r_join_t, r_isl_r, r_isl_l, r_in, r_put_d, r_put_l, r_eq_i, r_eq_s, r_ne_i, r_ne_s, r_eq_t0, r_ne_t0, r_eq_r0, r_ne_r0, r_eq_l0, r_ne_l0, r_start, gD, gsD, wipeD, br_not, br_true, br_false, br_dec, List.map_cons, List.map_nil, List.length_cons, List.length_nil, List.replicate_succ, List.replicate_zero, List.cons_append, List.nil_append, List.getElem?_cons_zero, List.getElem?_cons_succ, List.getElem?_nil, List.set_cons_zero, List.set_cons_succ, Nat.reduceAdd, Nat.reduceSub, Nat.reduceLeDiff, Nat.zero_add, updM_same, true_and, List.isEmpty_nil, List.isEmpty_cons, Bool.not_true, Bool.not_false, Bool.not_not]
          exact g
        · simp only [q_v, q_c, q_tup, q_lst, q_op, q_nil, q_cons, q_tst, q_tru, q_andT, q_orT, q_notT, q_andV, q_orV, q_notV, q_ifE, q_next, q_seq, q_asg, q_drop, q_ret, q_retN, q_ifS, q_par, q_isi, q_blt, q_call, q_callK, q_kid, q_kswap, q_chain, q_neg, q_isN, q_notN, q_noO, q_someO, q_sli, q_rev, q_revM, q_bm, q_bm0, q_m1, q_seqI, q_rng, q_rng2, q_enum, q_zip, q_yes, q_put, e_bl, e_int, e_str, e_lst, e_n_non, e_n_bl, e_n_int, e_n_str, e_n_tup, e_n_lst, e_n_slst, e_n_dic, e_n_ref, e_seq_l, e_seq_s, e_seq_t, e_seq_z, e_rev_l, e_rev_s, e_i1, e_i2, e_l1, e_l1s, e_l2, e_p2, e_sl, e_o, e_ob, e_on, e_ml, e_md, e_c, e_tru_b, e_tru_n, e_tru_i, e_tru_t, e_tru_l, t_str_non, t_tup_non, t_int_non, t_bool_non, t_lst_non, t_dict_non, t_str_bl, t_tup_bl, t_int_bl, t_bool_bl, t_lst_bl, t_dict_bl, t_str_int, t_tup_int, t_int_int, t_bool_int, t_lst_int, t_dict_int, t_str_str, t_tup_str, t_int_str, t_bool_str, t_lst_str, t_dict_str, t_str_tup, t_tup_tup, t_int_tup, t_bool_tup, t_lst_tup, t_dict_tup, t_str_lst, t_tup_lst, t_int_lst, t_bool_lst, t_lst_lst, t_dict_lst, t_str_dic, t_tup_dic, t_int_dic, t_bool_dic, t_lst_dic, t_dict_dic, r_add_i, r_add_s, r_add_t, r_add_l, r_sub, r_mul, r_mul_l, r_fdiv, r_mod, r_pow, r_lt, r_ix_l, r_ix_t, r_ix_s, r_ix_rl, r_ix_rd, r_sl_l, r_sl_sl, r_sl_t, r_sl_s, r_len_l, r_len_sl, r_len_t, r_len_s, r_len_r, r_all, r_any, r_tuple_l, r_tuple_sl, r_tuple_t, r_tuple_r, r_list_l, r_list_sl, r_list_t, r_list_r, r_ord, r_repr, r_pop, r_app, r_ext, r_join, r_join_t, r_isl_r, r_isl_l, r_in, r_put_d, r_put_l, r_eq_i, r_eq_s, r_ne_i, r_ne_s, r_eq_t0, r_ne_t0, r_eq_r0, r_ne_r0, r_eq_l0, r_ne_l0, r_start, gD, gsD, wipeD, br_not, br_true, br_false, br_dec, List.map_cons, List.map_nil, List.length_cons, List.length_nil, List.replicate_succ, List.replicate_zero, List.cons_append, List.nil_append, List.getElem?_cons_zero, List.getElem?_cons_succ, List.getElem?_nil, List.set_cons_zero, List.set_cons_succ, Nat.reduceAdd, Nat.reduceSub, Nat.reduceLeDiff, Nat.zero_add, updM_same, true_and, List.isEmpty_nil, List.isEmpty_cons, Bool.not_true, Bool.not_false, Bool.not_not]
          intro M' G g
          exact ⟨List.all_eq_true.mp hv'.1 d hd, g⟩
        · obtain ⟨a1, a2⟩ := all_nameB (y :: ys)
          simp only [r_all]
          refine ⟨a1, ?_⟩
          rw [a2]
          exact h
    | slst _ => simp [vdT, vd] at hv
    | ref _ => simp [vdT, vd] at hv
    | ty _ => simp [vdT, vd] at hv
    | _ => simp only [T_is_kind, q_v, q_c, q_tup, q_lst, q_op, q_nil, q_cons, q_tst, q_tru, q_andT, q_orT, q_notT, q_andV, q_orV, q_notV, q_ifE, q_next, q_seq, q_asg, q_drop, q_ret, q_retN, q_ifS, q_par, q_isi, q_blt, q_call, q_callK, q_kid, q_kswap, q_chain, q_neg, q_isN, q_notN, q_noO, q_someO, q_sli, q_rev, q_revM, q_bm, q_bm0, q_m1, q_seqI, q_rng, q_rng2, q_enum, q_zip, q_yes, q_put, e_bl, e_int, e_str, e_lst, e_n_non, e_n_bl, e_n_int, e_n_str, e_n_tup, e_n_lst, e_n_slst, e_n_dic, e_n_ref, e_seq_l, e_seq_s, e_seq_t, e_seq_z, e_rev_l, e_rev_s, e_i1, e_i2, e_l1, e_l1s, e_l2, e_p2, e_sl, e_o, e_ob, e_on, e_ml, e_md, e_c, e_tru_b, e_tru_n, e_tru_i, e_tru_t, e_tru_l, t_str_non, t_tup_non, t_int_non, t_bool_non, t_lst_non, t_dict_non, t_str_bl, t_tup_bl, t_int_bl, t_bool_bl, t_lst_bl, t_dict_bl, t_str_int, t_tup_int, t_int_int, t_bool_int, t_lst_int, t_dict_int, t_str_str, t_tup_str, t_int_str, t_bool_str, t_lst_str, t_dict_str, t_str_tup, t_tup_tup, t_int_tup, t_bool_tup, t_lst_tup, t_dict_tup, t_str_lst, t_tup_lst, t_int_lst, t_bool_lst, t_lst_lst, t_dict_lst, t_str_dic, t_tup_dic, t_int_dic, t_bool_dic, t_lst_dic, t_dict_dic, r_add_i, r_add_s, r_add_t, r_add_l, r_sub, r_mul, r_mul_l, r_fdiv, r_mod, r_pow, r_lt, r_ix_l, r_ix_t, r_ix_s, r_ix_rl, r_ix_rd, r_sl_l, r_sl_sl, r_sl_t, r_sl_s, r_len_l, r_len_sl, r_len_t, r_len_s, r_len_r, r_all, r_any, r_tuple_l, r_tuple_sl, r_tuple_t, r_tuple_r, r_list_l, r_list_sl, r_list_t, r_list_r, r_ord, r_repr, r_pop, r_app, r_ext, r_join, r_join_t, r_isl_r, r_isl_l, r_in, r_put_d, r_put_l, r_eq_i, r_eq_s, r_ne_i, r_ne_s, r_eq_t0, r_ne_t0, r_eq_r0, r_ne_r0, r_eq_l0, r_ne_l0, r_start, gD, gsD, wipeD, br_not, br_true, br_false, br_dec, List.map_cons, List.map_nil, List.length_cons, List.length_nil, List.replicate_succ, List.replicate_zero, List.cons_append, List.nil_append, List.getElem?_cons_zero, List.getElem?_cons_succ, List.getElem?_nil, List.set_cons_zero, List.set_cons_succ, Nat.reduceAdd, Nat.reduceSub, Nat.reduceLeDiff, Nat.zero_add, updM_same, true_and, List.isEmpty_nil, List.isEmpty_cons, Bool.not_true, Bool.not_false, Bool.not_not]; exact h
  · exact h.elim
theorem cut_init {xs : List D} : cutL xs none (some (-1)) = xs.dropLast := by
  unfold cutL
  rw [HT.sIx_none]
  show (xs.drop 0).take ((if (-1 : Int) < 0 then (-1 + (xs.length : Int)).toNat else min (-1 : Int).toNat xs.length) - 0) = _
  rw [if_pos (by decide), List.drop_zero, List.dropLast_eq_take]
  congr 1
  omega
theorem rd_is_pattern : ∀ ds M F, R_is_pattern ds M F → T_is_pattern R_has_hole R_is_name { nx := fun _ M' => F .non M', rt := F } (startD 2 ds) M := by
  intro ds M F h
  unfold R_is_pattern at h
  split at h
  · next d =>
    obtain ⟨hv, h⟩ := h
    cases d with
    | tup xs =>
      have hv' : xs.all vd = true ∧ xs.length ≤ 1000000 := by simpa [vdT] using hv
      cases hx : xs.getLast? with
      | none =>
        have e : xs = [] := List.getLast?_eq_none_iff.mp hx
        subst e
        simp only [T_is_pattern, q_v, q_c, q_tup, q_lst, q_op, q_nil, q_cons, q_tst, q_tru, q_andT, q_orT, q_notT, q_andV, q_orV, q_notV, q_ifE, q_next, q_seq, q_asg, q_drop, q_ret, q_retN, q_ifS, q_par, q_isi, q_blt, q_call, q_callK, q_kid, q_kswap, q_chain, q_neg, q_isN, q_notN, q_noO, q_someO, q_sli, q_rev, q_revM, q_bm, q_bm0, q_m1, q_seqI, q_rng, q_rng2, q_enum, q_zip, q_yes, q_put, e_bl, e_int, e_str, e_lst, e_n_non, e_n_bl, e_n_int, e_n_str, e_n_tup, e_n_lst, e_n_slst, e_n_dic, e_n_ref, e_seq_l, e_seq_s, e_seq_t, e_seq_z, e_rev_l, e_rev_s, e_i1, e_i2, e_l1, e_l1s, e_l2, e_p2, e_sl, e_o, e_ob, e_on, e_ml, e_md, e_c, e_tru_b, e_tru_n, e_tru_i, e_tru_t, e_tru_l, t_str_non, t_tup_non, t_int_non, t_bool_non, t_lst_non, t_dict_non, t_str_bl, t_tup_bl, t_int_bl, t_bool_bl, t_lst_bl, t_dict_bl, t_str_int, t_tup_int, t_int_int, t_bool_int, t_lst_int, t_dict_int, t_str_str, t_tup_str, t_int_str, t_bool_str, t_lst_str, t_dict_str, t_str_tup, t_tup_tup, t_int_tup, t_bool_tup, t_lst_tup, t_dict_tup, t_str_lst, t_tup_lst, t_int_lst, t_bool_lst, t_lst_lst, t_dict_lst, t_str_dic, t_tup_dic, t_int_dic, t_bool_dic, t_lst_dic, t_dict_dic, r_add_i, r_add_s, r_add_t, r_add_l, r_sub, r_mul, r_mul_l, r_fdiv, r_mod, r_pow, r_lt, r_ix_l, r_ix_t, r_ix_s, r_ix_rl, r_ix_rd, r_sl_l, r_sl_sl, r_sl_t, r_sl_s, r_len_l, r_len_sl, r_len_t, r_len_s, r_len_r, r_all, r_any, r_tuple_l, r_tuple_sl, r_tuple_t, r_tuple_r, r_list_l, r_list_sl, r_list_t, r_list_r, r_ord, r_repr, r_pop, r_app, r_ext, r_join, r_join_t, r_isl_r, r_isl_l, r_in, r_put_d, r_put_l, r_eq_i, r_eq_s, r_ne_i, r_ne_s, r_eq_t0, r_ne_t0, r_eq_r0, r_ne_r0, r_eq_l0, r_ne_l0, r_start, gD, gsD, wipeD, br_not, br_true, br_false, br_dec, List.map_cons, List.map_nil, List.length_cons, List.length_nil, List.replicate_succ, List.replicate_zero, List.cons_append, List.nil_append, List.getElem?_cons_zero, List.getElem?_cons_succ, List.getElem?_nil, List.set_cons_zero, List.set_cons_succ, Nat.reduceAdd, Nat.reduceSub, Nat.reduceLeDiff, Nat.zero_add, updM_same, true_and, List.isEmpty_nil, List.isEmpty_cons, Bool.not_true, Bool.not_false, Bool.not_not]
        exact h
      | some l =>
        obtain ⟨ys, e⟩ := List.getLast?_eq_some_iff.mp hx
        have e1 : xs.isEmpty = false := by rw [e]; simp
        have e2 : patB (.tup xs) = (xs.dropLast.all nameB && (nameB l || isHole l)) := by
          show (match xs.getLast? with | some l => xs.dropLast.all nameB && (nameB l || isHole l) | none => false) = _
          rw [hx]
        have hm : l ∈ xs := by rw [e]; simp
        have vl := List.all_eq_true.mp hv'.1 l hm
        rw [e2] at h
        simp only [T_is_pattern, q_v, q_c, q_tup, q_lst, q_op, q_nil, q_cons, q_tst, q_tru, q_andT, q_orT, q_notT, q_andV, q_orV, q_notV, q_ifE, q_next, q_seq, q_asg, q_drop, q_ret, q_retN, q_ifS, q_par, q_isi, q_blt, q_call, q_callK, q_kid, q_kswap, q_chain, q_neg, q_isN, q_notN, q_noO, q_someO, q_sli, q_rev, q_revM, q_bm, q_bm0, q_m1, q_seqI, q_rng, q_rng2, q_enum, q_zip, q_yes, q_put, e_bl, e_int, e_str, e_lst, e_n_non, e_n_bl, e_n_int, e_n_str, e_n_tup, e_n_lst, e_n_slst, e_n_dic, e_n_ref, e_seq_l, e_seq_s, e_seq_t, e_seq_z, e_rev_l, e_rev_s, e_i1, e_i2, e_l1, e_l1s, e_l2, e_p2, e_sl, e_o, e_ob, e_on, e_ml, e_md, e_c, e_tru_b, e_tru_n, e_tru_i, e_tru_t, e_tru_l, t_str_non, t_tup_non, t_int_non, t_bool_non, t_lst_non, t_dict_non, t_str_bl, t_tup_bl, t_int_bl, t_bool_bl, t_lst_bl, t_dict_bl, t_str_int, t_tup_int, t_int_int, t_bool_int, t_lst_int, t_dict_int, t_str_str, t_tup_str, t_int_str, t_bool_str, t_lst_str, t_dict_str, t_str_tup, t_tup_tup, t_int_tup, t_bool_tup, t_lst_tup, t_dict_tup, t_str_lst, t_tup_lst, t_int_lst, t_bool_lst, t_lst_lst, t_dict_lst, t_str_dic, t_tup_dic, t_int_dic, t_bool_dic, t_lst_dic, t_dict_dic, r_add_i, r_add_s, r_add_t, r_add_l, r_sub, r_mul, r_mul_l, r_fdiv, r_mod, r_pow, r_lt, r_ix_l, r_ix_t, r_ix_s, r_ix_rl, r_ix_rd, r_sl_l, r_sl_sl, r_sl_t, r_sl_s, r_len_l, r_len_sl, r_len_t, r_len_s, r_len_r, r_all, r_any, r_tuple_l, r_tuple_sl, r_tuple_t, r_tuple_r, r_list_l, r_list_sl, r_list_t, r_list_r, r_ord, r_repr, r_pop, r_app, r_ext, r_join, r_join_t, r_isl_r, r_isl_l, r_in, r_put_d, r_put_l, r_eq_i, r_eq_s, r_ne_i, r_ne_s, r_eq_t0, r_ne_t0, r_eq_r0, r_ne_r0, r_eq_l0, r_ne_l0, r_start, gD, gsD, wipeD, br_not, br_true, br_false, br_dec, List.map_cons, List.map_nil, List.length_cons, List.length_nil, List.replicate_succ, List.replicate_zero, List.cons_append, List.nil_append, List.getElem?_cons_zero, List.getElem?_cons_succ, List.getElem?_nil, List.set_cons_zero, List.set_cons_succ, Nat.reduceAdd, Nat.reduceSub, Nat.reduceLeDiff, Nat.zero_add, updM_same, true_and, List.isEmpty_nil, List.isEmpty_cons, Bool.not_true, Bool.not_false, Bool.not_not, e1, atI_neg1 hx]
        refine lc_map (fun d => .bl (nameB d)) (xs := xs.dropLast) (by rw [List.length_dropLast]; omega) (fun G g => ?_) (fun d hd => ?_) ?_
        · simp only [q_v, q_c, q_tup, q_lst, q_op, q_nil, q_cons, q_tst, q_tru, q_andT, q_orT, q_notT, q_andV, q_orV, q_notV, q_ifE, q_next, q_seq, q_asg, q_drop, q_ret, q_retN, q_ifS, q_par, q_isi, q_blt, q_call, q_callK, q_kid, q_kswap, q_chain, q_neg, q_isN, q_notN, q_noO, q_someO, q_sli, q_rev, q_revM, q_bm, q_bm0, q_m1, q_seqI, q_rng, q_rng2, q_enum, q_zip, q_yes, q_put, e_bl, e_int, e_str, e_lst, e_n_non, e_n_bl, e_n_int, e_n_str, e_n_tup, e_n_lst, e_n_slst, e_n_dic, e_n_ref, e_seq_l, e_seq_s, e_seq_t, e_seq_z, e_rev_l, e_rev_s, e_i1, e_i2, e_l1, e_l1s, e_l2, e_p2, e_sl, e_o, e_ob, e_on, e_ml, e_md, e_c, e_tru_b, e_tru_n, e_tru_i, e_tru_t, e_tru_l, t_str_non, t_tup_non, t_int_non, t_bool_non, t_lst_non, t_dict_non, t_str_bl, t_tup_bl, t_int_bl, t_bool_bl, t_lst_bl, t_dict_bl, t_str_int, t_tup_int, t_int_int, t_bool_int, t_lst_int, t_dict_int, t_str_str, t_tup_str, t_int_str, t_bool_str, t_lst_str, t_dict_str, t_str_tup, t_tup_tup, t_int_tup, t_bool_tup, t_lst_tup, t_dict_tup, t_str_lst, t_tup_lst, t_int_lst, t_bool_lst, t_lst_lst, t_dict_lst, t_str_dic, t_tup_dic, t_int_dic, t_bool_dic, t_lst_dic, t_dict_dic, r_add_i, r_add_s, r_add_t, r_add_l, r_sub, r_mul, r_mul_l, r_fdiv, r_mod, r_pow, r_lt, r_ix_l, r_ix_t, r_ix_s, r_ix_rl, r_ix_rd, r_sl_l, r_sl_sl, r_sl_t, r_sl_s, r_len_l, r_len_sl, r_len_t, r_len_s, r_len_r, r_all, r_any, r_tuple_l, r_tuple_sl, r_tuple_t, r_tuple_r, r_list_l, r_list_sl, r_list_t, r_list_r, r_ord, r_repr, r_pop, r_app, r_ext, r_join, r_join_t, r_isl_r, r_isl_l, r_in, r_put_d, r_put_l, r_eq_i, r_eq_s, r_ne_i, r_ne_s, r_eq_t0, r_ne_t0, r_eq_r0, r_ne_r0, r_eq_l0, r_ne_l0, r_start, gD, gsD, wipeD, br_not, br_true, br_false, br_dec, List.map_cons, List.map_nil, List.length_cons, List.length_nil, List.replicate_succ, List.replicate_zero, List.cons_append, List.nil_append, List.getElem?_cons_zero, List.getElem?_cons_succ, List.getElem?_nil, List.set_cons_zero, List.set_cons_succ, Nat.reduceAdd, Nat.reduceSub, Nat.reduceLeDiff, Nat.zero_add, updM_same, true_and, List.isEmpty_nil, List.isEmpty_cons, Bool.not_true, Bool.not_false, Bool.not_not, cut_init]
          exact g
        · simp only [q_v, q_c, q_tup, q_lst, q_op, q_nil, q_cons, q_tst, q_tru, q_andT, q_orT, q_notT, q_andV, q_orV, q_notV, q_ifE, q_next, q_seq, q_asg, q_drop, q_ret, q_retN, q_ifS, q_par, q_isi, q_blt, q_call, q_callK, q_kid, q_kswap, q_chain, q_neg, q_isN, q_notN, q_noO, q_someO, q_sli, q_rev, q_revM, q_bm, q_bm0, q_m1, q_seqI, q_rng, q_rng2, q_enum, q_zip, q_yes, q_put, e_bl, e_int, e_str, e_lst, e_n_non, e_n_bl, e_n_int, e_n_str, e_n_tup, e_n_lst, e_n_slst, e_n_dic, e_n_ref, e_seq_l, e_seq_s, e_seq_t, e_seq_z, e_rev_l, e_rev_s, e_i1, e_i2, e_l1, e_l1s, e_l2, e_p2, e_sl, e_o, e_ob, e_on, e_ml, e_md, e_c, e_tru_b, e_tru_n, e_tru_i, e_tru_t, e_tru_l, t_str_non, t_tup_non, t_int_non, t_bool_non, t_lst_non, t_dict_non, t_str_bl, t_tup_bl, t_int_bl, t_bool_bl, t_lst_bl, t_dict_bl, t_str_int, t_tup_int, t_int_int, t_bool_int, t_lst_int, t_dict_int, t_str_str, t_tup_str, t_int_str, t_bool_str, t_lst_str, t_dict_str, t_str_tup, t_tup_tup, t_int_tup, t_bool_tup, t_lst_tup, t_dict_tup, t_str_lst, t_tup_lst, t_int_lst, t_bool_lst, t_lst_lst, t_dict_lst, t_str_dic, t_tup_dic, t_int_dic, t_bool_dic, t_lst_dic, t_dict_dic, r_add_i, r_add_s, r_add_t, r_add_l, r_sub, r_mul, r_mul_l, r_fdiv, r_mod, r_pow, r_lt, r_ix_l, r_ix_t, r_ix_s, r_ix_rl, r_ix_rd, r_sl_l, r_sl_sl, r_sl_t, r_sl_s, r_len_l, r_len_sl, r_len_t, r_len_s, r_len_r, r_all, r_any, r_tuple_l, r_tuple_sl, r_tuple_t, r_tuple_r, r_list_l, r_list_sl, r_list_t, r_list_r, r_ord, r_repr, r_pop, r_app, r_ext, r_join, r_join_t, r_isl_r, r_isl_l, r_in, r_put_d, r_put_l, r_eq_i, r_eq_s, r_ne_i, r_ne_s, r_eq_t0, r_ne_t0, r_eq_r0, r_ne_r0, r_eq_l0, r_ne_l0, r_start, gD, gsD, wipeD, br_not, br_true, br_false, br_dec, List.map_cons, List.map_nil, List.length_cons, List.length_nil, List.replicate_succ, List.replicate_zero, List.cons_append, List.nil_append, List.getElem?_cons_zero, List.getElem?_cons_succ, List.getElem?_nil, List.set_cons_zero, List.set_cons_succ, Nat.reduceAdd, Nat.reduceSub, Nat.reduceLeDiff, Nat.zero_add, updM_same, true_and, List.isEmpty_nil, List.isEmpty_cons, Bool.not_true, Bool.not_false, Bool.not_not]
          intro M' G g
          exact ⟨List.all_eq_true.mp hv'.1 d (List.dropLast_subset _ hd), g⟩
        · obtain ⟨a1, a2⟩ := all_nameB xs.dropLast
          simp only [r_all]
          refine ⟨a1, ?_⟩
          rw [a2]
          cases ha : xs.dropLast.all nameB with
          | false =>
            rw [ha] at h
            simp only [q_v, q_c, q_tup, q_lst, q_op, q_nil, q_cons, q_tst, q_tru, q_andT, q_orT, q_notT, q_andV, q_orV, q_notV, q_ifE, q_next, q_seq, q_asg, q_drop, q_ret, q_retN, q_ifS, q_par, q_isi, q_blt, q_call, q_callK, q_kid, q_kswap, q_chain, q_neg, q_isN, q_notN, q_noO, q_someO, q_sli, q_rev, q_revM, q_bm, q_bm0, q_m1, q_seqI, q_rng, q_rng2, q_enum, q_zip, q_yes, q_put, e_bl, e_int, e_str, e_lst, e_n_non, e_n_bl, e_n_int, e_n_str, e_n_tup, e_n_lst, e_n_slst, e_n_dic, e_n_ref, e_seq_l, e_seq_s, e_seq_t, e_seq_z, e_rev_l, e_rev_s, e_i1, e_i2, e_l1, e_l1s, e_l2, e_p2, e_sl, e_o, e_ob, e_on, e_ml, e_md, e_c, e_tru_b, e_tru_n, e_tru_i, e_tru_t, e_tru_l, t_str_non, t_tup_non, t_int_non, t_bool_non, t_lst_non, t_dict_non, t_str_bl, t_tup_bl, t_int_bl, t_bool_bl, t_lst_bl, t_dict_bl, t_str_int, t_tup_int, t_int_int, t_bool_int, t_lst_int, t_dict_int, t_str_str, t_tup_str, t_int_str, t_bool_str, t_lst_str, t_dict_str, t_str_tup, t_tup_tup, t_int_tup, t_bool_tup, t_lst_tup, t_dict_tup, t_str_lst, t_tup_lst, t_int_lst, t_bool_lst, t_lst_lst, t_dict_lst, t_str_dic, t_tup_dic, t_int_dic, t_bool_dic, t_lst_dic, t_dict_dic, r_add_i, r_add_s, r_add_t, r_add_l, r_sub, r_mul, r_mul_l, r_fdiv, r_mod, r_pow, r_lt, r_ix_l, r_ix_t, r_ix_s, r_ix_rl, r_ix_rd, r_sl_l, r_sl_sl, r_sl_t, r_sl_s, r_len_l, r_len_sl, r_len_t, r_len_s, r_len_r, r_all, r_any, r_tuple_l, r_tuple_sl, r_tuple_t, r_tuple_r, r_list_l, r_list_sl, r_list_t, r_list_r, r_ord, r_repr, r_pop, r_app, r_ext, r_join, r_join_t, r_isl_r, r_isl_l, r_in, r_put_d, r_put_l, r_eq_i, r_eq_s, r_ne_i, r_ne_s, r_eq_t0, r_ne_t0, r_eq_r0, r_ne_r0, r_eq_l0, r_ne_l0, r_start, gD, gsD, wipeD, br_not, br_true, br_false, br_dec, List.map_cons, List.map_nil, List.length_cons, List.length_nil, List.replicate_succ, List.replicate_zero, List.cons_append, List.nil_append, List.getElem?_cons_zero, List.getElem?_cons_succ, List.getElem?_nil, List.set_cons_zero, List.set_cons_succ, Nat.reduceAdd, Nat.reduceSub, Nat.reduceLeDiff, Nat.zero_add, updM_same, true_and, List.isEmpty_nil, List.isEmpty_cons, Bool.not_true, Bool.not_false, Bool.not_not]
            exact h
          | true =>
            rw [ha] at h
            simp only [q_v, q_c, q_tup, q_lst, q_op, q_nil, q_cons, q_tst, q_tru, q_andT, q_orT, q_notT, q_andV, q_orV, q_notV, q_ifE, q_next, q_seq, q_asg, q_drop, q_ret, q_retN, q_ifS, q_par, q_isi, q_blt, q_call, q_callK, q_kid, q_kswap, q_chain, q_neg, q_isN, q_notN, q_noO, q_someO, q_sli, q_rev, q_revM, q_bm, q_bm0, q_m1, q_seqI, q_rng, q_rng2, q_enum, q_zip, q_yes, q_put, e_bl, e_int, e_str, e_lst, e_n_non, e_n_bl, e_n_int, e_n_str, e_n_tup, e_n_lst, e_n_slst, e_n_dic, e_n_ref, e_seq_l, e_seq_s, e_seq_t, e_seq_z, e_rev_l, e_rev_s, e_i1, e_i2, e_l1, e_l1s, e_l2, e_p2, e_sl, e_o, e_ob, e_on, e_ml, e_md, e_c, e_tru_b, e_tru_n, e_tru_i, e_tru_t, e_tru_l, t_str_non, t_tup_non, t_int_non, t_bool_non, t_lst_non, t_dict_non, t_str_bl, t_tup_bl, t_int_bl, t_bool_bl, t_lst_bl, t_dict_bl, t_str_int, t_tup_int, t_int_int, t_bool_int, t_lst_int, t_dict_int, t_str_str, t_tup_str, t_int_str, t_bool_str, t_lst_str, t_dict_str, t_str_tup, t_tup_tup, t_int_tup, t_bool_tup, t_lst_tup, t_dict_tup, t_str_lst, t_tup_lst, t_int_lst, t_bool_lst, t_lst_lst, t_dict_lst, t_str_dic, t_tup_dic, t_int_dic, t_bool_dic, t_lst_dic, t_dict_dic, r_add_i, r_add_s, r_add_t, r_add_l, r_sub, r_mul, r_mul_l, r_fdiv, r_mod, r_pow, r_lt, r_ix_l, r_ix_t, r_ix_s, r_ix_rl, r_ix_rd, r_sl_l, r_sl_sl, r_sl_t, r_sl_s, r_len_l, r_len_sl, r_len_t, r_len_s, r_len_r, r_all, r_any, r_tuple_l, r_tuple_sl, r_tuple_t, r_tuple_r, r_list_l, r_list_sl, r_list_t, r_list_r, r_ord, r_repr, r_pop, r_app, r_ext, r_join, r_join_t, r_isl_r, r_isl_l, r_in, r_put_d, r_put_l, r_eq_i, r_eq_s, r_ne_i, r_ne_s, r_eq_t0, r_ne_t0, r_eq_r0, r_ne_r0, r_eq_l0, r_ne_l0, r_start, gD, gsD, wipeD, br_not, br_true, br_false, br_dec, List.map_cons, List.map_nil, List.length_cons, List.length_nil, List.replicate_succ, List.replicate_zero, List.cons_append, List.nil_append, List.getElem?_cons_zero, List.getElem?_cons_succ, List.getElem?_nil, List.set_cons_zero, List.set_cons_succ, Nat.reduceAdd, Nat.reduceSub, Nat.reduceLeDiff, Nat.zero_add, updM_same, true_and, List.isEmpty_nil, List.isEmpty_cons, Bool.not_true, Bool.not_false, Bool.not_not]
            refine ⟨vl, ?_⟩
            cases hn : nameB l with
            | true =>
              rw [hn] at h
              simp only [q_v, q_c, q_tup, q_lst, q_op, q_nil, q_cons, q_tst, q_tru, q_andT, q_orT, q_notT, q_andV, q_orV, q_notV, q_ifE, q_next, q_seq, q_asg, q_drop, q_ret, q_retN, q_ifS, q_par, q_isi, q_blt, q_call, q_callK, q_kid, q_kswap, q_chain, q_neg, q_isN, q_notN, q_noO, q_someO, q_sli, q_rev, q_revM, q_bm, q_bm0, q_m1, q_seqI, q_rng, q_rng2, q_enum, q_zip, q_yes, q_put, e_bl, e_int, e_str, e_lst, e_n_non, e_n_bl, e_n_int, e_n_str, e_n_tup, e_n_lst, e_n_slst, e_n_dic, e_n_ref, e_seq_l, e_seq_s, e_seq_t, e_seq_z, e_rev_l, e_rev_s, e_i1, e_i2, e_l1, e_l1s, e_l2, e_p2, e_sl, e_o, e_ob, e_on, e_ml, e_md, e_c, e_tru_b, e_tru_n, e_tru_i, e_tru_t, e_tru_l, t_str_non, t_tup_non, t_int_non, t_bool_non, t_lst_non, t_dict_non, t_str_bl, t_tup_bl, t_int_bl, t_bool_bl, t_lst_bl, t_dict_bl, t_str_int, t_tup_int, t_int_int, t_bool_int, t_lst_int, t_dict_int, t_str_str, t_tup_str, t_int_str, t_bool_str, t_lst_str, t_dict_str, t_str_tup, t_tup_tup, t_int_tup, t_bool_tup, t_lst_tup, t_dict_tup, t_str_lst, t_tup_lst, t_int_lst, t_bool_lst, t_lst_lst, t_dict_lst, t_str_dic, t_tup_dic, t_int_dic, t_bool_dic, t_lst_dic, t_dict_dic, r_add_i, r_add_s, r_add_t, r_add_l, r_sub, r_mul, r_mul_l, r_fdiv, r_mod, r_pow, r_lt, r_ix_l, r_ix_t, r_ix_s, r_ix_rl, r_ix_rd, r_sl_l, r_sl_sl, r_sl_t, r_sl_s, r_len_l, r_len_sl, r_len_t, r_len_s, r_len_r, r_all, r_any, r_tuple_l, r_tuple_sl, r_tuple_t, r_tuple_r, r_list_l, r_list_sl, r_list_t, r_list_r, r_ord, r_repr, r_pop, r_app, r_ext, r_join, r_join_t, r_isl_r, r_isl_l, r_in, r_put_d, r_put_l, r_eq_i, r_eq_s, r_ne_i, r_ne_s, r_eq_t0, r_ne_t0, r_eq_r0, r_ne_r0, r_eq_l0, r_ne_l0, r_start, gD, gsD, wipeD, br_not, br_true, br_false, br_dec, List.map_cons, List.map_nil, List.length_cons, List.length_nil, List.replicate_succ, List.replicate_zero, List.cons_append, List.nil_append, List.getElem?_cons_zero, List.getElem?_cons_succ, List.getElem?_nil, List.set_cons_zero, List.set_cons_succ, Nat.reduceAdd, Nat.reduceSub, Nat.reduceLeDiff, Nat.zero_add, updM_same, true_and, List.isEmpty_nil, List.isEmpty_cons, Bool.not_true, Bool.not_false, Bool.not_not]
              exact h
            | false =>
              rw [hn] at h
              simp only [q_v, q_c, q_tup, q_lst, q_op, q_nil, q_cons, q_tst, q_tru, q_andT, q_orT, q_notT, q_andV, q_orV, q_notV, q_ifE, q_next, q_seq, q_asg, q_drop, q_ret, q_retN, q_ifS, q_par, q_isi, q_blt, q_call, q_callK, q_kid, q_kswap, q_chain, q_neg, q_isN, q_notN, q_noO, q_someO, q_sli, q_rev, q_revM, q_bm, q_bm0, q_m1, q_seqI, q_rng, q_rng2, q_enum, q_zip, q_yes, q_put, e_bl, e_int, e_str, e_lst, e_n_non, e_n_bl, e_n_int, e_n_str, e_n_tup, e_n_lst, e_n_slst, e_n_dic, e_n_ref, e_seq_l, e_seq_s, e_seq_t, e_seq_z, e_rev_l, e_rev_s, e_i1, e_i2, e_l1, e_l1s, e_l2, e_p2, e_sl, e_o, e_ob, e_on, e_ml, e_md, e_c, e_tru_b, e_tru_n, e_tru_i, e_tru_t, e_tru_l, t_str_non, t_tup_non, t_int_non, t_bool_non, t_lst_non, t_dict_non, t_str_bl, t_tup_bl, t_int_bl, t_bool_bl, t_lst_bl, t_dict_bl, t_str_int, t_tup_int, t_int_int, t_bool_int, t_lst_int, t_dict_int, t_str_str, t_tup_str, t_int_str, t_bool_str, t_lst_str, t_dict_str, t_str_tup, t_tup_tup, t_int_tup, t_bool_tup, t_lst_tup, t_dict_tup, t_str_lst, t_tup_lst, t_int_lst, t_bool_lst, t_lst_lst, t_dict_lst, t_str_dic, t_tup_dic, t_int_dic, t_bool_dic, t_lst_dic, t_dict_dic, r_add_i, r_add_s, r_add_t, r_add_l, r_sub, r_mul, r_mul_l, r_fdiv, r_mod, r_pow, r_lt, r_ix_l, r_ix_t, r_ix_s, r_ix_rl, r_ix_rd, r_sl_l, r_sl_sl, r_sl_t, r_sl_s, r_len_l, r_len_sl, r_len_t, r_len_s, r_len_r, r_all, r_any, r_tuple_l, r_tuple_sl, r_tuple_t, r_tuple_r, r_list_l, r_list_sl, r_list_t, r_list_r, r_ord, r_repr, r_pop, r_app, r_ext, r_join, r_join_t, r_isl_r, r_isl_l, r_in, r_put_d, r_put_l, r_eq_i, r_eq_s, r_ne_i, r_ne_s, r_eq_t0, r_ne_t0, r_eq_r0, r_ne_r0, r_eq_l0, r_ne_l0, r_start, gD, gsD, wipeD, br_not, br_true, br_false, br_dec, List.map_cons, List.map_nil, List.length_cons, List.length_nil, List.replicate_succ, List.replicate_zero, List.cons_append, List.nil_append, List.getElem?_cons_zero, List.getElem?_cons_succ, List.getElem?_nil, List.set_cons_zero, List.set_cons_succ, Nat.reduceAdd, Nat.reduceSub, Nat.reduceLeDiff, Nat.zero_add, updM_same, true_and, List.isEmpty_nil, List.isEmpty_cons, Bool.not_true, Bool.not_false, Bool.not_not]
              exact ⟨l, hx, vl, h⟩
    | slst _ => simp [vdT, vd] at hv
    | ref _ => simp [vdT, vd] at hv
    | ty _ => simp [vdT, vd] at hv
    | _ => simp only [T_is_pattern, q_v, q_c, q_tup, q_lst, q_op, q_nil, q_cons, q_tst, q_tru, q_andT, q_orT, q_notT, q_andV, q_orV, q_notV, q_ifE, q_next, q_seq, q_asg, q_drop, q_ret, q_retN, q_ifS, q_par, q_isi, q_blt, q_call, q_callK, q_kid, q_kswap, q_chain, q_neg, q_isN, q_notN, q_noO, q_someO, q_sli, q_rev, q_revM, q_bm, q_bm0, q_m1, q_seqI, q_rng, q_rng2, q_enum, q_zip, q_yes, q_put, e_bl, e_int, e_str, e_lst, e_n_non, e_n_bl, e_n_int, e_n_str, e_n_tup, e_n_lst, e_n_slst, e_n_dic, e_n_ref, e_seq_l, e_seq_s, e_seq_t, e_seq_z, e_rev_l, e_rev_s, e_i1, e_i2, e_l1, e_l1s, e_l2, e_p2, e_sl, e_o, e_ob, e_on, e_ml, e_md, e_c, e_tru_b, e_tru_n, e_tru_i, e_tru_t, e_tru_l, t_str_non, t_tup_non, t_int_non, t_bool_non, t_lst_non, t_dict_non, t_str_bl, t_tup_bl, t_int_bl, t_bool_bl, t_lst_bl, t_dict_bl, t_str_int, t_tup_int, t_int_int, t_bool_int, t_lst_int, t_dict_int, t_str_str, t_tup_str, t_int_str, t_bool_str, t_lst_str, t_dict_str, t_str_tup, t_tup_tup, t_int_tup, t_bool_tup, t_lst_tup, t_dict_tup, t_str_lst, t_tup_lst, t_int_lst, t_bool_lst, t_lst_lst, t_dict_lst, t_str_dic, t_tup_dic, t_int_dic, t_bool_dic, t_lst_dic, t_dict_dic, r_add_i, r_add_s, r_add_t, r_add_l, r_sub, r_mul, r_mul_l, r_fdiv, r_mod, r_pow, r_lt, r_ix_l, r_ix_t, r_ix_s, r_ix_rl, r_ix_rd, r_sl_l, r_sl_sl, r_sl_t, r_sl_s, r_len_l, r_len_sl, r_len_t, r_len_s, r_len_r, r_all, r_any, r_tuple_l, r_tuple_sl, r_tuple_t, r_tuple_r, r_list_l, r_list_sl, r_list_t, r_list_r, r_ord, r_repr, r_pop, r_app, r_ext, r_join, r_join_t, r_isl_r, r_isl_l, r_in, r_put_d, r_put_l, r_eq_i, r_eq_s, r_ne_i, r_ne_s, r_eq_t0, r_ne_t0, r_eq_r0, r_ne_r0, r_eq_l0, r_ne_l0, r_start, gD, gsD, wipeD, br_not, br_true, br_false, br_dec, List.map_cons, List.map_nil, List.length_cons, List.length_nil, List.replicate_succ, List.replicate_zero, List.cons_append, List.nil_append, List.getElem?_cons_zero, List.getElem?_cons_succ, List.getElem?_nil, List.set_cons_zero, List.set_cons_succ, Nat.reduceAdd, Nat.reduceSub, Nat.reduceLeDiff, Nat.zero_add, updM_same, true_and, List.isEmpty_nil, List.isEmpty_cons, Bool.not_true, Bool.not_false, Bool.not_not]; exact h
  · exact h.elim

/-! the law's own finding -/
def holeR (d : D) : Bool := decide (shw d = ("'T'" : Str))
def dueD (d : D) : D := .lst [.bl (nameB d), .bl (kindB d), .bl (patB d)]
def R_l_due : RD
  | [d], M, F => Itm 1000000 100 d ∧ F (dueD d) M
  | _, _, _ => False
theorem ln_l_due : ∀ xs M F, R_l_due xs M F → xs.length = 1 := by
  intro xs M F h
  unfold R_l_due at h
  split at h
  · rfl
  · exact h.elim
theorem vd_of {c k : Nat} {d : D} (h : Itm c k d) (hc : c ≤ 1000000) : K02.vd d = true := by
  cases d with
  | str x =>
    have := h.str
    show decide (x.length ≤ 1000000) = true
    exact decide_eq_true (by omega)
  | slst _ => exact absurd h.no (by simp [nos])
  | ref _ => exact absurd h.no (by simp [nos])
  | ty _ => exact absurd h.no (by simp [nos])
  | _ => rfl
theorem vdT_of {c k : Nat} {d : D} (h : Itm c k d) (hc : c ≤ 1000000) : K02.vdT d = true := by
  cases d with
  | tup xs =>
    have h1 := h.of_tup
    have h2 := h1.len
    show (xs.all K02.vd && decide (xs.length ≤ 1000000)) = true
    rw [decide_eq_true (by omega), Bool.and_true]
    exact List.all_eq_true.mpr fun d hd => vd_of (h1.mem hd) hc
  | _ => exact vd_of h hc
theorem shw_hole (d : D) (h : shOk d = true) : decide (shw d = ("'T'" : Str)) = isHole d := by
  cases d with
  | str x =>
    show decide (shw (.str x) = ("'T'" : Str)) = decide (x = ("T" : Str))
    by_cases e : x = ("T" : Str)
    · rw [e, decide_eq_true (by decide +kernel), decide_eq_true rfl]
    · rw [decide_eq_false e, decide_eq_false]
      intro q
      apply e
      unfold shw at q
      rw [py, PyData.shown_str] at q
      exact repr_T q
  | _ => exact decide_eq_false (shw_T _ h (fun _ q => by cases q))
theorem none_bad (xs : List D) : ((xs.filter fun d => !nameB d).map id).isEmpty = xs.all nameB := by
  rw [List.map_id]
  induction xs with
  | nil => rfl
  | cons x xs ih =>
    rw [List.filter_cons, List.all_cons, ← ih]
    cases nameB x <;> rfl
theorem split_last {xs : List D} {l : D} (h : xs.getLast? = some l) : xs.all nameB = (xs.dropLast.all nameB && nameB l) := by
  obtain ⟨ys, e⟩ := List.getLast?_eq_some_iff.mp h
  rw [e]
  simp
theorem not_both (l : D) : nameB l = true → isHole l = false := by
  cases l with
  | str x =>
    intro h
    show decide (x = ("T" : Str)) = false
    refine decide_eq_false fun e => ?_
    rw [e] at h
    revert h
    decide +kernel
  | _ => intro _; rfl
theorem rd_l_due : ∀ ds M F, R_l_due ds M F → T_l_due R_is_name { nx := fun _ M' => F .non M', rt := F } (startD 2 ds) M := by
  intro ds M F h
  unfold R_l_due at h
  split at h
  · next d =>
    obtain ⟨hi, h⟩ := h
    cases d with
    | str x => simp only [T_l_due, q_v, q_c, q_tup, q_lst, q_op, q_nil, q_cons, q_tst, q_tru, q_andT, q_orT, q_notT, q_andV, q_orV, q_notV, q_ifE, q_next, q_seq, q_asg, q_drop, q_ret, q_retN, q_ifS, q_par, q_isi, q_blt, q_call, q_callK, q_kid, q_kswap, q_chain, q_neg, q_isN, q_notN, q_noO, q_someO, q_sli, q_rev, q_revM, q_bm, q_bm0, q_m1, q_seqI, q_rng, q_rng2, q_enum, q_zip, q_yes, q_put, e_bl, e_int, e_str, e_lst, e_n_non, e_n_bl, e_n_int, e_n_str, e_n_tup, e_n_lst, e_n_slst, e_n_dic, e_n_ref, e_seq_l, e_seq_s, e_seq_t, e_seq_z, e_rev_l, e_rev_s, e_i1, e_i2, e_l1, e_l1s, e_l2, e_p2, e_sl, e_o, e_ob, e_on, e_ml, e_md, e_c, e_tru_b, e_tru_n, e_tru_i, e_tru_t, e_tru_l, t_str_non, t_tup_non, t_int_non, t_bool_non, t_lst_non, t_dict_non, t_str_bl, t_tup_bl, t_int_bl, t_bool_bl, t_lst_bl, t_dict_bl, t_str_int, t_tup_int, t_int_int, t_bool_int, t_lst_int, t_dict_int, t_str_str, t_tup_str, t_int_str, t_bool_str, t_lst_str, t_dict_str, t_str_tup, t_tup_tup, t_int_tup, t_bool_tup, t_lst_tup, t_dict_tup, t_str_lst, t_tup_lst, t_int_lst, t_bool_lst, t_lst_lst, t_dict_lst, t_str_dic, t_tup_dic, t_int_dic, t_bool_dic, t_lst_dic, t_dict_dic, r_add_i, r_add_s, r_add_t, r_add_l, r_sub, r_mul, r_mul_l, r_fdiv, r_mod, r_pow, r_lt, r_ix_l, r_ix_t, r_ix_s, r_ix_rl, r_ix_rd, r_sl_l, r_sl_sl, r_sl_t, r_sl_s, r_len_l, r_len_sl, r_len_t, r_len_s, r_len_r, r_all, r_any, r_tuple_l, r_tuple_sl, r_tuple_t, r_tuple_r, r_list_l, r_list_sl, r_list_t, r_list_r, r_ord, r_repr, r_pop, r_app, r_ext, r_join, r_join_t, r_isl_r, r_isl_l, r_in, r_put_d, r_put_l, r_eq_i, r_eq_s, r_ne_i, r_ne_s, r_eq_t0, r_ne_t0, r_eq_r0, r_ne_r0, r_eq_l0, r_ne_l0, r_start, gD, gsD, wipeD, br_not, br_true, br_false, br_dec, List.map_cons, List.map_nil, List.length_cons, List.length_nil, List.replicate_succ, List.replicate_zero, List.cons_append, List.nil_append, List.getElem?_cons_zero, List.getElem?_cons_succ, List.getElem?_nil, List.set_cons_zero, List.set_cons_succ, Nat.reduceAdd, Nat.reduceSub, Nat.reduceLeDiff, Nat.zero_add, updM_same, true_and, List.isEmpty_nil, List.isEmpty_cons, Bool.not_true, Bool.not_false, Bool.not_not]; exact ⟨vd_of hi (Nat.le_refl _), h⟩
    | slst _ => exact absurd hi.no (by simp [nos])
    | ref _ => exact absurd hi.no (by simp [nos])
    | ty _ => exact absurd hi.no (by simp [nos])
    | tup xs =>
      have ht := hi.of_tup
      have hl := ht.len
      simp only [T_l_due, q_v, q_c, q_tup, q_lst, q_op, q_nil, q_cons, q_tst, q_tru, q_andT, q_orT, q_notT, q_andV, q_orV, q_notV, q_ifE, q_next, q_seq, q_asg, q_drop, q_ret, q_retN, q_ifS, q_par, q_isi, q_blt, q_call, q_callK, q_kid, q_kswap, q_chain, q_neg, q_isN, q_notN, q_noO, q_someO, q_sli, q_rev, q_revM, q_bm, q_bm0, q_m1, q_seqI, q_rng, q_rng2, q_enum, q_zip, q_yes, q_put, e_bl, e_int, e_str, e_lst, e_n_non, e_n_bl, e_n_int, e_n_str, e_n_tup, e_n_lst, e_n_slst, e_n_dic, e_n_ref, e_seq_l, e_seq_s, e_seq_t, e_seq_z, e_rev_l, e_rev_s, e_i1, e_i2, e_l1, e_l1s, e_l2, e_p2, e_sl, e_o, e_ob, e_on, e_ml, e_md, e_c, e_tru_b, e_tru_n, e_tru_i, e_tru_t, e_tru_l, t_str_non, t_tup_non, t_int_non, t_bool_non, t_lst_non, t_dict_non, t_str_bl, t_tup_bl, t_int_bl, t_bool_bl, t_lst_bl, t_dict_bl, t_str_int, t_tup_int, t_int_int, t_bool_int, t_lst_int, t_dict_int, t_str_str, t_tup_str, t_int_str, t_bool_str, t_lst_str, t_dict_str, t_str_tup, t_tup_tup, t_int_tup, t_bool_tup, t_lst_tup, t_dict_tup, t_str_lst, t_tup_lst, t_int_lst, t_bool_lst, t_lst_lst, t_dict_lst, t_str_dic, t_tup_dic, t_int_dic, t_bool_dic, t_lst_dic, t_dict_dic, r_add_i, r_add_s, r_add_t, r_add_l, r_sub, r_mul, r_mul_l, r_fdiv, r_mod, r_pow, r_lt, r_ix_l, r_ix_t, r_ix_s, r_ix_rl, r_ix_rd, r_sl_l, r_sl_sl, r_sl_t, r_sl_s, r_len_l, r_len_sl, r_len_t, r_len_s, r_len_r, r_all, r_any, r_tuple_l, r_tuple_sl, r_tuple_t, r_tuple_r, r_list_l, r_list_sl, r_list_t, r_list_r, r_ord, r_repr, r_pop, r_app, r_ext, r_join, r_join_t, r_isl_r, r_isl_l, r_in, r_put_d, r_put_l, r_eq_i, r_eq_s, r_ne_i, r_ne_s, r_eq_t0, r_ne_t0, r_eq_r0, r_ne_r0, r_eq_l0, r_ne_l0, r_start, gD, gsD, wipeD, br_not, br_true, br_false, br_dec, List.map_cons, List.map_nil, List.length_cons, List.length_nil, List.replicate_succ, List.replicate_zero, List.cons_append, List.nil_append, List.getElem?_cons_zero, List.getElem?_cons_succ, List.getElem?_nil, List.set_cons_zero, List.set_cons_succ, Nat.reduceAdd, Nat.reduceSub, Nat.reduceLeDiff, Nat.zero_add, updM_same, true_and, List.isEmpty_nil, List.isEmpty_cons, Bool.not_true, Bool.not_false, Bool.not_not]
      cases hx : xs.getLast? with
      | none =>
        have e : xs = [] := List.getLast?_eq_none_iff.mp hx
        subst e
        exact ⟨fun _ => h, fun q => absurd rfl q⟩
      | some l =>
        obtain ⟨ys, e⟩ := List.getLast?_eq_some_iff.mp hx
        have hm : l ∈ xs := by rw [e]; simp
        have hne : xs.isEmpty = false := by rw [e]; simp
        have il := ht.mem hm
        have e1 : dueD (.tup xs) = .lst [.bl false, .bl (xs.dropLast.all nameB && nameB l), .bl (xs.dropLast.all nameB && (nameB l || isHole l))] := by
          unfold dueD
          have a1 : kindB (.tup xs) = (xs.dropLast.all nameB && nameB l) := by
            show (!xs.isEmpty && xs.all nameB) = _
            rw [hne, split_last hx]
            rfl
          have a2 : patB (.tup xs) = (xs.dropLast.all nameB && (nameB l || isHole l)) := by
            show (match xs.getLast? with | some l => xs.dropLast.all nameB && (nameB l || isHole l) | none => false) = _
            rw [hx]
          rw [a1, a2]
          rfl
        rw [e1] at h
        refine ⟨fun q => ?_, fun _ => ?_⟩
        · have : xs.length ≠ 0 := by rw [e]; simp
          exact absurd (by omega) this
        refine lc_pure (fun d => !nameB d) id (xs := xs.dropLast) (by rw [List.length_dropLast]; omega) (fun G g => ?_) (fun d hd => ?_) ?_
        · simp only [q_v, q_c, q_tup, q_lst, q_op, q_nil, q_cons, q_tst, q_tru, q_andT, q_orT, q_notT, q_andV, q_orV, q_notV, q_ifE, q_next, q_seq, q_asg, q_drop, q_ret, q_retN, q_ifS, q_par, q_isi, q_blt, q_call, q_callK, q_kid, q_kswap, q_chain, q_neg, q_isN, q_notN, q_noO, q_someO, q_sli, q_rev, q_revM, q_bm, q_bm0, q_m1, q_seqI, q_rng, q_rng2, q_enum, q_zip, q_yes, q_put, e_bl, e_int, e_str, e_lst, e_n_non, e_n_bl, e_n_int, e_n_str, e_n_tup, e_n_lst, e_n_slst, e_n_dic, e_n_ref, e_seq_l, e_seq_s, e_seq_t, e_seq_z, e_rev_l, e_rev_s, e_i1, e_i2, e_l1, e_l1s, e_l2, e_p2, e_sl, e_o, e_ob, e_on, e_ml, e_md, e_c, e_tru_b, e_tru_n, e_tru_i, e_tru_t, e_tru_l, t_str_non, t_tup_non, t_int_non, t_bool_non, t_lst_non, t_dict_non, t_str_bl, t_tup_bl, t_int_bl, t_bool_bl, t_lst_bl, t_dict_bl, t_str_int, t_tup_int, t_int_int, t_bool_int, t_lst_int, t_dict_int, t_str_str, t_tup_str, t_int_str, t_bool_str, t_lst_str, t_dict_str, t_str_tup, t_tup_tup, t_int_tup, t_bool_tup, t_lst_tup, t_dict_tup, t_str_lst, t_tup_lst, t_int_lst, t_bool_lst, t_lst_lst, t_dict_lst, t_str_dic, t_tup_dic, t_int_dic, t_bool_dic, t_lst_dic, t_dict_dic, r_add_i, r_add_s, r_add_t, r_add_l, r_sub, r_mul, r_mul_l, r_fdiv, r_mod, r_pow, r_lt, r_ix_l, r_ix_t, r_ix_s, r_ix_rl, r_ix_rd, r_sl_l, r_sl_sl, r_sl_t, r_sl_s, r_len_l, r_len_sl, r_len_t, r_len_s, r_len_r, r_all, r_any, r_tuple_l, r_tuple_sl, r_tuple_t, r_tuple_r, r_list_l, r_list_sl, r_list_t, r_list_r, r_ord, r_repr, r_pop, r_app, r_ext, r_join, r_join_t, r_isl_r, r_isl_l, r_in, r_put_d, r_put_l, r_eq_i, r_eq_s, r_ne_i, r_ne_s, r_eq_t0, r_ne_t0, r_eq_r0, r_ne_r0, r_eq_l0, r_ne_l0, r_start, gD, gsD, wipeD, br_not, br_true, br_false, br_dec, List.map_cons, List.map_nil, List.length_cons, List.length_nil, List.replicate_succ, List.replicate_zero, List.cons_append, List.nil_append, List.getElem?_cons_zero, List.getElem?_cons_succ, List.getElem?_nil, List.set_cons_zero, List.set_cons_succ, Nat.reduceAdd, Nat.reduceSub, Nat.reduceLeDiff, Nat.zero_add, updM_same, true_and, List.isEmpty_nil, List.isEmpty_cons, Bool.not_true, Bool.not_false, Bool.not_not, cut_init]
          exact g
        · have id' := ht.mem (List.dropLast_subset _ hd)
          simp only [q_v, q_c, q_tup, q_lst, q_op, q_nil, q_cons, q_tst, q_tru, q_andT, q_orT, q_notT, q_andV, q_orV, q_notV, q_ifE, q_next, q_seq, q_asg, q_drop, q_ret, q_retN, q_ifS, q_par, q_isi, q_blt, q_call, q_callK, q_kid, q_kswap, q_chain, q_neg, q_isN, q_notN, q_noO, q_someO, q_sli, q_rev, q_revM, q_bm, q_bm0, q_m1, q_seqI, q_rng, q_rng2, q_enum, q_zip, q_yes, q_put, e_bl, e_int, e_str, e_lst, e_n_non, e_n_bl, e_n_int, e_n_str, e_n_tup, e_n_lst, e_n_slst, e_n_dic, e_n_ref, e_seq_l, e_seq_s, e_seq_t, e_seq_z, e_rev_l, e_rev_s, e_i1, e_i2, e_l1, e_l1s, e_l2, e_p2, e_sl, e_o, e_ob, e_on, e_ml, e_md, e_c, e_tru_b, e_tru_n, e_tru_i, e_tru_t, e_tru_l, t_str_non, t_tup_non, t_int_non, t_bool_non, t_lst_non, t_dict_non, t_str_bl, t_tup_bl, t_int_bl, t_bool_bl, t_lst_bl, t_dict_bl, t_str_int, t_tup_int, t_int_int, t_bool_int, t_lst_int, t_dict_int, t_str_str, t_tup_str, t_int_str, t_bool_str, t_lst_str, t_dict_str, t_str_tup, t_tup_tup, t_int_tup, t_bool_tup, t_lst_tup, t_dict_tup, t_str_lst, t_tup_lst, t_int_lst, t_bool_lst, t_lst_lst, t_dict_lst, t_str_dic, t_tup_dic, t_int_dic, t_bool_dic, t_lst_dic, t_dict_dic, r_add_i, r_add_s, r_add_t, r_add_l, r_sub, r_mul, r_mul_l, r_fdiv, r_mod, r_pow, r_lt, r_ix_l, r_ix_t, r_ix_s, r_ix_rl, r_ix_rd, r_sl_l, r_sl_sl, r_sl_t, r_sl_s, r_len_l, r_len_sl, r_len_t, r_len_s, r_len_r, r_all, r_any, r_tuple_l, r_tuple_sl, r_tuple_t, r_tuple_r, r_list_l, r_list_sl, r_list_t, r_list_r, r_ord, r_repr, r_pop, r_app, r_ext, r_join, r_join_t, r_isl_r, r_isl_l, r_in, r_put_d, r_put_l, r_eq_i, r_eq_s, r_ne_i, r_ne_s, r_eq_t0, r_ne_t0, r_eq_r0, r_ne_r0, r_eq_l0, r_ne_l0, r_start, gD, gsD, wipeD, br_not, br_true, br_false, br_dec, List.map_cons, List.map_nil, List.length_cons, List.length_nil, List.replicate_succ, List.replicate_zero, List.cons_append, List.nil_append, List.getElem?_cons_zero, List.getElem?_cons_succ, List.getElem?_nil, List.set_cons_zero, List.set_cons_succ, Nat.reduceAdd, Nat.reduceSub, Nat.reduceLeDiff, Nat.zero_add, updM_same, true_and, List.isEmpty_nil, List.isEmpty_cons, Bool.not_true, Bool.not_false, Bool.not_not]
          refine ⟨fun M' G g => ⟨vd_of id' (Nat.le_refl _), g⟩, fun _ M' G g => g⟩
        · simp only [q_v, q_c, q_tup, q_lst, q_op, q_nil, q_cons, q_tst, q_tru, q_andT, q_orT, q_notT, q_andV, q_orV, q_notV, q_ifE, q_next, q_seq, q_asg, q_drop, q_ret, q_retN, q_ifS, q_par, q_isi, q_blt, q_call, q_callK, q_kid, q_kswap, q_chain, q_neg, q_isN, q_notN, q_noO, q_someO, q_sli, q_rev, q_revM, q_bm, q_bm0, q_m1, q_seqI, q_rng, q_rng2, q_enum, q_zip, q_yes, q_put, e_bl, e_int, e_str, e_lst, e_n_non, e_n_bl, e_n_int, e_n_str, e_n_tup, e_n_lst, e_n_slst, e_n_dic, e_n_ref, e_seq_l, e_seq_s, e_seq_t, e_seq_z, e_rev_l, e_rev_s, e_i1, e_i2, e_l1, e_l1s, e_l2, e_p2, e_sl, e_o, e_ob, e_on, e_ml, e_md, e_c, e_tru_b, e_tru_n, e_tru_i, e_tru_t, e_tru_l, t_str_non, t_tup_non, t_int_non, t_bool_non, t_lst_non, t_dict_non, t_str_bl, t_tup_bl, t_int_bl, t_bool_bl, t_lst_bl, t_dict_bl, t_str_int, t_tup_int, t_int_int, t_bool_int, t_lst_int, t_dict_int, t_str_str, t_tup_str, t_int_str, t_bool_str, t_lst_str, t_dict_str, t_str_tup, t_tup_tup, t_int_tup, t_bool_tup, t_lst_tup, t_dict_tup, t_str_lst, t_tup_lst, t_int_lst, t_bool_lst, t_lst_lst, t_dict_lst, t_str_dic, t_tup_dic, t_int_dic, t_bool_dic, t_lst_dic, t_dict_dic, r_add_i, r_add_s, r_add_t, r_add_l, r_sub, r_mul, r_mul_l, r_fdiv, r_mod, r_pow, r_lt, r_ix_l, r_ix_t, r_ix_s, r_ix_rl, r_ix_rd, r_sl_l, r_sl_sl, r_sl_t, r_sl_s, r_len_l, r_len_sl, r_len_t, r_len_s, r_len_r, r_all, r_any, r_tuple_l, r_tuple_sl, r_tuple_t, r_tuple_r, r_list_l, r_list_sl, r_list_t, r_list_r, r_ord, r_repr, r_pop, r_app, r_ext, r_join, r_join_t, r_isl_r, r_isl_l, r_in, r_put_d, r_put_l, r_eq_i, r_eq_s, r_ne_i, r_ne_s, r_eq_t0, r_ne_t0, r_eq_r0, r_ne_r0, r_eq_l0, r_ne_l0, r_start, gD, gsD, wipeD, br_not, br_true, br_false, br_dec, List.map_cons, List.map_nil, List.length_cons, List.length_nil, List.replicate_succ, List.replicate_zero, List.cons_append, List.nil_append, List.getElem?_cons_zero, List.getElem?_cons_succ, List.getElem?_nil, List.set_cons_zero, List.set_cons_succ, Nat.reduceAdd, Nat.reduceSub, Nat.reduceLeDiff, Nat.zero_add, updM_same, true_and, List.isEmpty_nil, List.isEmpty_cons, Bool.not_true, Bool.not_false, Bool.not_not, none_bad, atI_neg1 hx]
          cases ha : xs.dropLast.all nameB with
          | false =>
            rw [ha] at h
            exact h
          | true =>
            rw [ha] at h
            refine ⟨vd_of il (Nat.le_refl _), ?_⟩
            cases hn : nameB l with
            | true =>
              rw [hn] at h
              exact h
            | false =>
              rw [hn] at h
              refine ⟨il.repr (Nat.le_refl _) (Nat.le_refl _), ?_⟩
              rw [shw_hole l il.sh]
              exact h
    | _ => simp only [T_l_due, q_v, q_c, q_tup, q_lst, q_op, q_nil, q_cons, q_tst, q_tru, q_andT, q_orT, q_notT, q_andV, q_orV, q_notV, q_ifE, q_next, q_seq, q_asg, q_drop, q_ret, q_retN, q_ifS, q_par, q_isi, q_blt, q_call, q_callK, q_kid, q_kswap, q_chain, q_neg, q_isN, q_notN, q_noO, q_someO, q_sli, q_rev, q_revM, q_bm, q_bm0, q_m1, q_seqI, q_rng, q_rng2, q_enum, q_zip, q_yes, q_put, e_bl, e_int, e_str, e_lst, e_n_non, e_n_bl, e_n_int, e_n_str, e_n_tup, e_n_lst, e_n_slst, e_n_dic, e_n_ref, e_seq_l, e_seq_s, e_seq_t, e_seq_z, e_rev_l, e_rev_s, e_i1, e_i2, e_l1, e_l1s, e_l2, e_p2, e_sl, e_o, e_ob, e_on, e_ml, e_md, e_c, e_tru_b, e_tru_n, e_tru_i, e_tru_t, e_tru_l, t_str_non, t_tup_non, t_int_non, t_bool_non, t_lst_non, t_dict_non, t_str_bl, t_tup_bl, t_int_bl, t_bool_bl, t_lst_bl, t_dict_bl, t_str_int, t_tup_int, t_int_int, t_bool_int, t_lst_int, t_dict_int, t_str_str, t_tup_str, t_int_str, t_bool_str, t_lst_str, t_dict_str, t_str_tup, t_tup_tup, t_int_tup, t_bool_tup, t_lst_tup, t_dict_tup, t_str_lst, t_tup_lst, t_int_lst, t_bool_lst, t_lst_lst, t_dict_lst, t_str_dic, t_tup_dic, t_int_dic, t_bool_dic, t_lst_dic, t_dict_dic, r_add_i, r_add_s, r_add_t, r_add_l, r_sub, r_mul, r_mul_l, r_fdiv, r_mod, r_pow, r_lt, r_ix_l, r_ix_t, r_ix_s, r_ix_rl, r_ix_rd, r_sl_l, r_sl_sl, r_sl_t, r_sl_s, r_len_l, r_len_sl, r_len_t, r_len_s, r_len_r, r_all, r_any, r_tuple_l, r_tuple_sl, r_tuple_t, r_tuple_r, r_list_l, r_list_sl, r_list_t, r_list_r, r_ord, r_repr, r_pop, r_app, r_ext, r_join, r_join_t, r_isl_r, r_isl_l, r_in, r_put_d, r_put_l, r_eq_i, r_eq_s, r_ne_i, r_ne_s, r_eq_t0, r_ne_t0, r_eq_r0, r_ne_r0, r_eq_l0, r_ne_l0, r_start, gD, gsD, wipeD, br_not, br_true, br_false, br_dec, List.map_cons, List.map_nil, List.length_cons, List.length_nil, List.replicate_succ, List.replicate_zero, List.cons_append, List.nil_append, List.getElem?_cons_zero, List.getElem?_cons_succ, List.getElem?_nil, List.set_cons_zero, List.set_cons_succ, Nat.reduceAdd, Nat.reduceSub, Nat.reduceLeDiff, Nat.zero_add, updM_same, true_and, List.isEmpty_nil, List.isEmpty_cons, Bool.not_true, Bool.not_false, Bool.not_not]; exact h
  · exact h.elim
def R_l_right : RD
  | [d], M, F => Itm 1000000 100 d ∧ F (.bl true) M
  | _, _, _ => False
theorem ln_l_right : ∀ xs M F, R_l_right xs M F → xs.length = 1 := by
  intro xs M F h
  unfold R_l_right at h
  split at h
  · rfl
  · exact h.elim
theorem rd_l_right : ∀ ds M F, R_l_right ds M F → T_l_right R_is_pattern R_is_kind R_is_name R_l_due { nx := fun _ M' => F .non M', rt := F } (startD 5 ds) M := by
  intro ds M F h
  unfold R_l_right at h
  split at h
  · next d =>
    obtain ⟨hi, h⟩ := h
    have v1 := vd_of hi (Nat.le_refl _)
    have v2 := vdT_of hi (Nat.le_refl _)
    have hr := hi.repr (Nat.le_refl _) (Nat.le_refl _)
    have eq : .lst [.bl (nameB d), .bl (kindB d), .bl (patB d)] = dueD d := rfl
    have hs : shOk (dueD d) = true ∧ cst (dueD d) ≤ 1000000 ∧ dep (dueD d) ≤ 100 := ⟨rfl, by show 5 + 2 + (5 + 2 + (5 + 2 + 0)) + 3 ≤ 1000000; decide, by show max 0 (max 0 (max 0 0)) + 1 ≤ 100; decide⟩
    simp only [T_l_right, q_v, q_c, q_tup, q_lst, q_op, q_nil, q_cons, q_tst, q_tru, q_andT, q_orT, q_notT, q_andV, q_orV, q_notV, q_ifE, q_next, q_seq, q_asg, q_drop, q_ret, q_retN, q_ifS, q_par, q_isi, q_blt, q_call, q_callK, q_kid, q_kswap, q_chain, q_neg, q_isN, q_notN, q_noO, q_someO, q_sli, q_rev, q_revM, q_bm, q_bm0, q_m1, q_seqI, q_rng, q_rng2, q_enum, q_zip, q_yes, q_put, e_bl, e_int, e_str, e_lst, e_n_non, e_n_bl, e_n_int, e_n_str, e_n_tup, e_n_lst, e_n_slst, e_n_dic, e_n_ref, e_seq_l, e_seq_s, e_seq_t, e_seq_z, e_rev_l, e_rev_s, e_i1, e_i2, e_l1, e_l1s, e_l2, e_p2, e_sl, e_o, e_ob, e_on, e_ml, e_md, e_c, e_tru_b, e_tru_n, e_tru_i, e_tru_t, e_tru_l, t_str_non, t_tup_non, t_int_non, t_bool_non, t_lst_non, t_dict_non, t_str_bl, t_tup_bl, t_int_bl, t_bool_bl, t_lst_bl, t_dict_bl, t_str_int, t_tup_int, t_int_int, t_bool_int, t_lst_int, t_dict_int, t_str_str, t_tup_str, t_int_str, t_bool_str, t_lst_str, t_dict_str, t_str_tup, t_tup_tup, t_int_tup, t_bool_tup, t_lst_tup, t_dict_tup, t_str_lst, t_tup_lst, t_int_lst, t_bool_lst, t_lst_lst, t_dict_lst, t_str_dic, t_tup_dic, t_int_dic, t_bool_dic, t_lst_dic, t_dict_dic, r_add_i, r_add_s, r_add_t, r_add_l, r_sub, r_mul, r_mul_l, r_fdiv, r_mod, r_pow, r_lt, r_ix_l, r_ix_t, r_ix_s, r_ix_rl, r_ix_rd, r_sl_l, r_sl_sl, r_sl_t, r_sl_s, r_len_l, r_len_sl, r_len_t, r_len_s, r_len_r, r_all, r_any, r_tuple_l, r_tuple_sl, r_tuple_t, r_tuple_r, r_list_l, r_list_sl, r_list_t, r_list_r, r_ord, r_repr, r_pop, r_app, r_ext, r_join, r_join_t, r_isl_r, r_isl_l, r_in, r_put_d, r_put_l, r_eq_i, r_eq_s, r_ne_i, r_ne_s, r_eq_t0, r_ne_t0, r_eq_r0, r_ne_r0, r_eq_l0, r_ne_l0, r_start, gD, gsD, wipeD, br_not, br_true, br_false, br_dec, List.map_cons, List.map_nil, List.length_cons, List.length_nil, List.replicate_succ, List.replicate_zero, List.cons_append, List.nil_append, List.getElem?_cons_zero, List.getElem?_cons_succ, List.getElem?_nil, List.set_cons_zero, List.set_cons_succ, Nat.reduceAdd, Nat.reduceSub, Nat.reduceLeDiff, Nat.zero_add, updM_same, true_and, List.isEmpty_nil, List.isEmpty_cons, Bool.not_true, Bool.not_false, Bool.not_not]
    refine ⟨hr, hi, hs, v1, v2, v2, v1, v2, v2, hs, fun _ => ⟨hs, fun _ => ⟨hr, ?_⟩, fun q => absurd rfl q⟩, fun q => absurd rfl q⟩
    rw [decide_eq_true trivial]
    exact h
  · exact h.elim
end K02

namespace K02
open PySem L2 Fx
def P_name (d : D) : Prop := Itm 84 0 d
def P_odd (d : D) : Prop := Itm 3000 2 d
def P_pat (d : D) : Prop := ∃ xs, d = .tup xs ∧ Itl 800 0 xs
def P_long (d : D) : Prop := ∃ a b c, d = .lst [a, b, c] ∧ Itm 200000 1 a ∧ Itm 200000 1 b ∧ Itm 200000 1 c
def R_l_bent : RD
  | [.ref h, .tup ys], M, F => ∃ c n k, HandAt M h c ∧ Itl n k ys ∧ n ≤ 200000 ∧ ∀ d M', Itm (3 * n + 4000) (k + 3) d → HandAt M' h c → Oth h c M M' → F d M'
  | _, _, _ => False
theorem ln_l_bent : ∀ xs M F, R_l_bent xs M F → xs.length = 2 := by
  intro xs M F h
  unfold R_l_bent at h
  split at h
  · rfl
  · exact h.elim
theorem let_at {r : Int} (h0 : 0 ≤ r) (h1 : r < 26) : ∃ c, atI ("abcdefghijklmnopqrstuvwxyz" : Str).cps.toList r = some c ∧ c < 1114112 := by
  have e : ("abcdefghijklmnopqrstuvwxyz" : Str).cps.toList = List.range' 97 26 := by decide +kernel
  rw [e]
  have hr : r.toNat < 26 := by omega
  have : atI (List.range' 97 26) ((r.toNat : Nat) : Int) = some (97 + r.toNat) := atI_nat (by rw [List.getElem?_range' hr, Nat.one_mul])
  have e' : ((r.toNat : Nat) : Int) = r := by omega
  rw [e'] at this
  exact ⟨_, this, by omega⟩
def isLet (d : D) : Prop := ∃ c, c < 1114112 ∧ d = .str ⟨#[c]⟩
theorem rd_l_name : ∀ ds M F, R_gen P_name ds M F → T_l_name R_draw R_pick { nx := fun _ M' => F .non M', rt := F } (startD 3 ds) M := by
  intro ds M F h
  unfold R_gen at h
  split at h
  · next a =>
    obtain ⟨c, hd, hF⟩ := h
    simp only [T_l_name, q_v, q_c, q_tup, q_lst, q_op, q_nil, q_cons, q_tst, q_tru, q_andT, q_orT, q_notT, q_andV, q_orV, q_notV, q_ifE, q_next, q_seq, q_asg, q_drop, q_ret, q_retN, q_ifS, q_par, q_isi, q_blt, q_call, q_callK, q_kid, q_kswap, q_chain, q_neg, q_isN, q_notN, q_noO, q_someO, q_sli, q_rev, q_revM, q_bm, q_bm0, q_m1, q_seqI, q_rng, q_rng2, q_enum, q_zip, q_yes, q_put, e_bl, e_int, e_str, e_lst, e_n_non, e_n_bl, e_n_int, e_n_str, e_n_tup, e_n_lst, e_n_slst, e_n_dic, e_n_ref, e_seq_l, e_seq_s, e_seq_t, e_seq_z, e_rev_l, e_rev_s, e_i1, e_i2, e_l1, e_l1s, e_l2, e_p2, e_sl, e_o, e_ob, e_on, e_ml, e_md, e_c, e_tru_b, e_tru_n, e_tru_i, e_tru_t, e_tru_l, t_str_non, t_tup_non, t_int_non, t_bool_non, t_lst_non, t_dict_non, t_str_bl, t_tup_bl, t_int_bl, t_bool_bl, t_lst_bl, t_dict_bl, t_str_int, t_tup_int, t_int_int, t_bool_int, t_lst_int, t_dict_int, t_str_str, t_tup_str, t_int_str, t_bool_str, t_lst_str, t_dict_str, t_str_tup, t_tup_tup, t_int_tup, t_bool_tup, t_lst_tup, t_dict_tup, t_str_lst, t_tup_lst, t_int_lst, t_bool_lst, t_lst_lst, t_dict_lst, t_str_dic, t_tup_dic, t_int_dic, t_bool_dic, t_lst_dic, t_dict_dic, r_add_i, r_add_s, r_add_t, r_add_l, r_sub, r_mul, r_mul_l, r_fdiv, r_mod, r_pow, r_lt, r_ix_l, r_ix_t, r_ix_s, r_ix_rl, r_ix_rd, r_sl_l, r_sl_sl, r_sl_t, r_sl_s, r_len_l, r_len_sl, r_len_t, r_len_s, r_len_r, r_all, r_any, r_tuple_l, r_tuple_sl, r_tuple_t, r_tuple_r, r_list_l, r_list_sl, r_list_t, r_list_r, r_ord, r_repr, r_pop, r_app, r_ext, r_join, r_join_t, r_isl_r, r_isl_l, r_in, r_put_d, r_put_l, r_eq_i, r_eq_s, r_ne_i, r_ne_s, r_eq_t0, r_ne_t0, r_eq_r0, r_ne_r0, r_eq_l0, r_ne_l0, r_start, gD, gsD, wipeD, br_not, br_true, br_false, br_dec, List.map_cons, List.map_nil, List.length_cons, List.length_nil, List.replicate_succ, List.replicate_zero, List.cons_append, List.nil_append, List.getElem?_cons_zero, List.getElem?_cons_succ, List.getElem?_nil, List.set_cons_zero, List.set_cons_succ, Nat.reduceAdd, Nat.reduceSub, Nat.reduceLeDiff, Nat.zero_add, updM_same, true_and, List.isEmpty_nil, List.isEmpty_cons, Bool.not_true, Bool.not_false, Bool.not_not, q_lc]
    refine ⟨c, hd, by decide, by decide, fun r M1 r0 r1 h1 o1 => ?_⟩
    simp only [q_v, q_c, q_tup, q_lst, q_op, q_nil, q_cons, q_tst, q_tru, q_andT, q_orT, q_notT, q_andV, q_orV, q_notV, q_ifE, q_next, q_seq, q_asg, q_drop, q_ret, q_retN, q_ifS, q_par, q_isi, q_blt, q_call, q_callK, q_kid, q_kswap, q_chain, q_neg, q_isN, q_notN, q_noO, q_someO, q_sli, q_rev, q_revM, q_bm, q_bm0, q_m1, q_seqI, q_rng, q_rng2, q_enum, q_zip, q_yes, q_put, e_bl, e_int, e_str, e_lst, e_n_non, e_n_bl, e_n_int, e_n_str, e_n_tup, e_n_lst, e_n_slst, e_n_dic, e_n_ref, e_seq_l, e_seq_s, e_seq_t, e_seq_z, e_rev_l, e_rev_s, e_i1, e_i2, e_l1, e_l1s, e_l2, e_p2, e_sl, e_o, e_ob, e_on, e_ml, e_md, e_c, e_tru_b, e_tru_n, e_tru_i, e_tru_t, e_tru_l, t_str_non, t_tup_non, t_int_non, t_bool_non, t_lst_non, t_dict_non, t_str_bl, t_tup_bl, t_int_bl, t_bool_bl, t_lst_bl, t_dict_bl, t_str_int, t_tup_int, t_int_int, t_bool_int, t_lst_int, t_dict_int, t_str_str, t_tup_str, t_int_str, t_bool_str, t_lst_str, t_dict_str, t_str_tup, t_tup_tup, t_int_tup, t_bool_tup, t_lst_tup, t_dict_tup, t_str_lst, t_tup_lst, t_int_lst, t_bool_lst, t_lst_lst, t_dict_lst, t_str_dic, t_tup_dic, t_int_dic, t_bool_dic, t_lst_dic, t_dict_dic, r_add_i, r_add_s, r_add_t, r_add_l, r_sub, r_mul, r_mul_l, r_fdiv, r_mod, r_pow, r_lt, r_ix_l, r_ix_t, r_ix_s, r_ix_rl, r_ix_rd, r_sl_l, r_sl_sl, r_sl_t, r_sl_s, r_len_l, r_len_sl, r_len_t, r_len_s, r_len_r, r_all, r_any, r_tuple_l, r_tuple_sl, r_tuple_t, r_tuple_r, r_list_l, r_list_sl, r_list_t, r_list_r, r_ord, r_repr, r_pop, r_app, r_ext, r_join, r_join_t, r_isl_r, r_isl_l, r_in, r_put_d, r_put_l, r_eq_i, r_eq_s, r_ne_i, r_ne_s, r_eq_t0, r_ne_t0, r_eq_r0, r_ne_r0, r_eq_l0, r_ne_l0, r_start, gD, gsD, wipeD, br_not, br_true, br_false, br_dec, List.map_cons, List.map_nil, List.length_cons, List.length_nil, List.replicate_succ, List.replicate_zero, List.cons_append, List.nil_append, List.getElem?_cons_zero, List.getElem?_cons_succ, List.getElem?_nil, List.set_cons_zero, List.set_cons_succ, Nat.reduceAdd, Nat.reduceSub, Nat.reduceLeDiff, Nat.zero_add, updM_same, true_and, List.isEmpty_nil, List.isEmpty_cons, Bool.not_true, Bool.not_false, Bool.not_not]
    refine ⟨fun _ => ⟨c, h1, by decide, by decide, fun d M2 hm h2 o2 => hF d M2 ?_ h2 (o1.trans o2)⟩, fun _ => ?_⟩
    · simp only [List.mem_cons, List.not_mem_nil, or_false] at hm
      rcases hm with e | e | e | e | e | e | e | e | e | e <;> (rw [e]; exact Itm.dec (by decide +kernel))
    · refine ⟨c, h1, by decide, by decide, fun r M2 r0 r1 h2 o2 => ?_⟩
      simp only [q_v, q_c, q_tup, q_lst, q_op, q_nil, q_cons, q_tst, q_tru, q_andT, q_orT, q_notT, q_andV, q_orV, q_notV, q_ifE, q_next, q_seq, q_asg, q_drop, q_ret, q_retN, q_ifS, q_par, q_isi, q_blt, q_call, q_callK, q_kid, q_kswap, q_chain, q_neg, q_isN, q_notN, q_noO, q_someO, q_sli, q_rev, q_revM, q_bm, q_bm0, q_m1, q_seqI, q_rng, q_rng2, q_enum, q_zip, q_yes, q_put, e_bl, e_int, e_str, e_lst, e_n_non, e_n_bl, e_n_int, e_n_str, e_n_tup, e_n_lst, e_n_slst, e_n_dic, e_n_ref, e_seq_l, e_seq_s, e_seq_t, e_seq_z, e_rev_l, e_rev_s, e_i1, e_i2, e_l1, e_l1s, e_l2, e_p2, e_sl, e_o, e_ob, e_on, e_ml, e_md, e_c, e_tru_b, e_tru_n, e_tru_i, e_tru_t, e_tru_l, t_str_non, t_tup_non, t_int_non, t_bool_non, t_lst_non, t_dict_non, t_str_bl, t_tup_bl, t_int_bl, t_bool_bl, t_lst_bl, t_dict_bl, t_str_int, t_tup_int, t_int_int, t_bool_int, t_lst_int, t_dict_int, t_str_str, t_tup_str, t_int_str, t_bool_str, t_lst_str, t_dict_str, t_str_tup, t_tup_tup, t_int_tup, t_bool_tup, t_lst_tup, t_dict_tup, t_str_lst, t_tup_lst, t_int_lst, t_bool_lst, t_lst_lst, t_dict_lst, t_str_dic, t_tup_dic, t_int_dic, t_bool_dic, t_lst_dic, t_dict_dic, r_add_i, r_add_s, r_add_t, r_add_l, r_sub, r_mul, r_mul_l, r_fdiv, r_mod, r_pow, r_lt, r_ix_l, r_ix_t, r_ix_s, r_ix_rl, r_ix_rd, r_sl_l, r_sl_sl, r_sl_t, r_sl_s, r_len_l, r_len_sl, r_len_t, r_len_s, r_len_r, r_all, r_any, r_tuple_l, r_tuple_sl, r_tuple_t, r_tuple_r, r_list_l, r_list_sl, r_list_t, r_list_r, r_ord, r_repr, r_pop, r_app, r_ext, r_join, r_join_t, r_isl_r, r_isl_l, r_in, r_put_d, r_put_l, r_eq_i, r_eq_s, r_ne_i, r_ne_s, r_eq_t0, r_ne_t0, r_eq_r0, r_ne_r0, r_eq_l0, r_ne_l0, r_start, gD, gsD, wipeD, br_not, br_true, br_false, br_dec, List.map_cons, List.map_nil, List.length_cons, List.length_nil, List.replicate_succ, List.replicate_zero, List.cons_append, List.nil_append, List.getElem?_cons_zero, List.getElem?_cons_succ, List.getElem?_nil, List.set_cons_zero, List.set_cons_succ, Nat.reduceAdd, Nat.reduceSub, Nat.reduceLeDiff, Nat.zero_add, updM_same, true_and, List.isEmpty_nil, List.isEmpty_cons, Bool.not_true, Bool.not_false, Bool.not_not]
      refine ⟨⟨by omega, by omega⟩, lc_draw isLet h2 (by rw [List.length_map, List.length_range]; omega) (fun d hd' => ?_) fun ys M3 hl hy h3 o3 => ?_⟩
      · simp only [q_v, q_c, q_tup, q_lst, q_op, q_nil, q_cons, q_tst, q_tru, q_andT, q_orT, q_notT, q_andV, q_orV, q_notV, q_ifE, q_next, q_seq, q_asg, q_drop, q_ret, q_retN, q_ifS, q_par, q_isi, q_blt, q_call, q_callK, q_kid, q_kswap, q_chain, q_neg, q_isN, q_notN, q_noO, q_someO, q_sli, q_rev, q_revM, q_bm, q_bm0, q_m1, q_seqI, q_rng, q_rng2, q_enum, q_zip, q_yes, q_put, e_bl, e_int, e_str, e_lst, e_n_non, e_n_bl, e_n_int, e_n_str, e_n_tup, e_n_lst, e_n_slst, e_n_dic, e_n_ref, e_seq_l, e_seq_s, e_seq_t, e_seq_z, e_rev_l, e_rev_s, e_i1, e_i2, e_l1, e_l1s, e_l2, e_p2, e_sl, e_o, e_ob, e_on, e_ml, e_md, e_c, e_tru_b, e_tru_n, e_tru_i, e_tru_t, e_tru_l, t_str_non, t_tup_non, t_int_non, t_bool_non, t_lst_non, t_dict_non, t_str_bl, t_tup_bl, t_int_bl, t_bool_bl, t_lst_bl, t_dict_bl, t_str_int, t_tup_int, t_int_int, t_bool_int, t_lst_int, t_dict_int, t_str_str, t_tup_str, t_int_str, t_bool_str, t_lst_str, t_dict_str, t_str_tup, t_tup_tup, t_int_tup, t_bool_tup, t_lst_tup, t_dict_tup, t_str_lst, t_tup_lst, t_int_lst, t_bool_lst, t_lst_lst, t_dict_lst, t_str_dic, t_tup_dic, t_int_dic, t_bool_dic, t_lst_dic, t_dict_dic, r_add_i, r_add_s, r_add_t, r_add_l, r_sub, r_mul, r_mul_l, r_fdiv, r_mod, r_pow, r_lt, r_ix_l, r_ix_t, r_ix_s, r_ix_rl, r_ix_rd, r_sl_l, r_sl_sl, r_sl_t, r_sl_s, r_len_l, r_len_sl, r_len_t, r_len_s, r_len_r, r_all, r_any, r_tuple_l, r_tuple_sl, r_tuple_t, r_tuple_r, r_list_l, r_list_sl, r_list_t, r_list_r, r_ord, r_repr, r_pop, r_app, r_ext, r_join, r_join_t, r_isl_r, r_isl_l, r_in, r_put_d, r_put_l, r_eq_i, r_eq_s, r_ne_i, r_ne_s, r_eq_t0, r_ne_t0, r_eq_r0, r_ne_r0, r_eq_l0, r_ne_l0, r_start, gD, gsD, wipeD, br_not, br_true, br_false, br_dec, List.map_cons, List.map_nil, List.length_cons, List.length_nil, List.replicate_succ, List.replicate_zero, List.cons_append, List.nil_append, List.getElem?_cons_zero, List.getElem?_cons_succ, List.getElem?_nil, List.set_cons_zero, List.set_cons_succ, Nat.reduceAdd, Nat.reduceSub, Nat.reduceLeDiff, Nat.zero_add, updM_same, true_and, List.isEmpty_nil, List.isEmpty_cons, Bool.not_true, Bool.not_false, Bool.not_not]
        intro M' G h4 hG
        refine ⟨c, h4, by decide, by decide, fun r M5 r0 r1 h5 o5 => ?_⟩
        obtain ⟨z, e, hz⟩ := let_at r0 r1
        simp only [q_v, q_c, q_tup, q_lst, q_op, q_nil, q_cons, q_tst, q_tru, q_andT, q_orT, q_notT, q_andV, q_orV, q_notV, q_ifE, q_next, q_seq, q_asg, q_drop, q_ret, q_retN, q_ifS, q_par, q_isi, q_blt, q_call, q_callK, q_kid, q_kswap, q_chain, q_neg, q_isN, q_notN, q_noO, q_someO, q_sli, q_rev, q_revM, q_bm, q_bm0, q_m1, q_seqI, q_rng, q_rng2, q_enum, q_zip, q_yes, q_put, e_bl, e_int, e_str, e_lst, e_n_non, e_n_bl, e_n_int, e_n_str, e_n_tup, e_n_lst, e_n_slst, e_n_dic, e_n_ref, e_seq_l, e_seq_s, e_seq_t, e_seq_z, e_rev_l, e_rev_s, e_i1, e_i2, e_l1, e_l1s, e_l2, e_p2, e_sl, e_o, e_ob, e_on, e_ml, e_md, e_c, e_tru_b, e_tru_n, e_tru_i, e_tru_t, e_tru_l, t_str_non, t_tup_non, t_int_non, t_bool_non, t_lst_non, t_dict_non, t_str_bl, t_tup_bl, t_int_bl, t_bool_bl, t_lst_bl, t_dict_bl, t_str_int, t_tup_int, t_int_int, t_bool_int, t_lst_int, t_dict_int, t_str_str, t_tup_str, t_int_str, t_bool_str, t_lst_str, t_dict_str, t_str_tup, t_tup_tup, t_int_tup, t_bool_tup, t_lst_tup, t_dict_tup, t_str_lst, t_tup_lst, t_int_lst, t_bool_lst, t_lst_lst, t_dict_lst, t_str_dic, t_tup_dic, t_int_dic, t_bool_dic, t_lst_dic, t_dict_dic, r_add_i, r_add_s, r_add_t, r_add_l, r_sub, r_mul, r_mul_l, r_fdiv, r_mod, r_pow, r_lt, r_ix_l, r_ix_t, r_ix_s, r_ix_rl, r_ix_rd, r_sl_l, r_sl_sl, r_sl_t, r_sl_s, r_len_l, r_len_sl, r_len_t, r_len_s, r_len_r, r_all, r_any, r_tuple_l, r_tuple_sl, r_tuple_t, r_tuple_r, r_list_l, r_list_sl, r_list_t, r_list_r, r_ord, r_repr, r_pop, r_app, r_ext, r_join, r_join_t, r_isl_r, r_isl_l, r_in, r_put_d, r_put_l, r_eq_i, r_eq_s, r_ne_i, r_ne_s, r_eq_t0, r_ne_t0, r_eq_r0, r_ne_r0, r_eq_l0, r_ne_l0, r_start, gD, gsD, wipeD, br_not, br_true, br_false, br_dec, List.map_cons, List.map_nil, List.length_cons, List.length_nil, List.replicate_succ, List.replicate_zero, List.cons_append, List.nil_append, List.getElem?_cons_zero, List.getElem?_cons_succ, List.getElem?_nil, List.set_cons_zero, List.set_cons_succ, Nat.reduceAdd, Nat.reduceSub, Nat.reduceLeDiff, Nat.zero_add, updM_same, true_and, List.isEmpty_nil, List.isEmpty_cons, Bool.not_true, Bool.not_false, Bool.not_not, e]
        exact ⟨by decide +kernel, hG _ _ ⟨z, hz, rfl⟩ h5 o5⟩
      · have a1 : ys.all isSt = true := List.all_eq_true.mpr fun y hm => by
          obtain ⟨z, _, rfl⟩ := hy y hm
          rfl
        have a2 : (ys.map fun d => (getSt d).length).sum = ys.length := by
          clear hl a1
          induction ys with
          | nil => rfl
          | cons y ys ih =>
            obtain ⟨z, _, rfl⟩ := hy y List.mem_cons_self
            rw [List.map_cons, List.sum_cons, ih fun w hw => hy w (List.mem_cons_of_mem _ hw), List.length_cons]
            exact Nat.add_comm 1 _
        have a3 : ys.length ≤ 8 := by rw [hl, List.length_map, List.length_range]; omega
        simp only [q_v, q_c, q_tup, q_lst, q_op, q_nil, q_cons, q_tst, q_tru, q_andT, q_orT, q_notT, q_andV, q_orV, q_notV, q_ifE, q_next, q_seq, q_asg, q_drop, q_ret, q_retN, q_ifS, q_par, q_isi, q_blt, q_call, q_callK, q_kid, q_kswap, q_chain, q_neg, q_isN, q_notN, q_noO, q_someO, q_sli, q_rev, q_revM, q_bm, q_bm0, q_m1, q_seqI, q_rng, q_rng2, q_enum, q_zip, q_yes, q_put, e_bl, e_int, e_str, e_lst, e_n_non, e_n_bl, e_n_int, e_n_str, e_n_tup, e_n_lst, e_n_slst, e_n_dic, e_n_ref, e_seq_l, e_seq_s, e_seq_t, e_seq_z, e_rev_l, e_rev_s, e_i1, e_i2, e_l1, e_l1s, e_l2, e_p2, e_sl, e_o, e_ob, e_on, e_ml, e_md, e_c, e_tru_b, e_tru_n, e_tru_i, e_tru_t, e_tru_l, t_str_non, t_tup_non, t_int_non, t_bool_non, t_lst_non, t_dict_non, t_str_bl, t_tup_bl, t_int_bl, t_bool_bl, t_lst_bl, t_dict_bl, t_str_int, t_tup_int, t_int_int, t_bool_int, t_lst_int, t_dict_int, t_str_str, t_tup_str, t_int_str, t_bool_str, t_lst_str, t_dict_str, t_str_tup, t_tup_tup, t_int_tup, t_bool_tup, t_lst_tup, t_dict_tup, t_str_lst, t_tup_lst, t_int_lst, t_bool_lst, t_lst_lst, t_dict_lst, t_str_dic, t_tup_dic, t_int_dic, t_bool_dic, t_lst_dic, t_dict_dic, r_add_i, r_add_s, r_add_t, r_add_l, r_sub, r_mul, r_mul_l, r_fdiv, r_mod, r_pow, r_lt, r_ix_l, r_ix_t, r_ix_s, r_ix_rl, r_ix_rd, r_sl_l, r_sl_sl, r_sl_t, r_sl_s, r_len_l, r_len_sl, r_len_t, r_len_s, r_len_r, r_all, r_any, r_tuple_l, r_tuple_sl, r_tuple_t, r_tuple_r, r_list_l, r_list_sl, r_list_t, r_list_r, r_ord, r_repr, r_pop, r_app, r_ext, r_join, r_join_t, r_isl_r, r_isl_l, r_in, r_put_d, r_put_l, r_eq_i, r_eq_s, r_ne_i, r_ne_s, r_eq_t0, r_ne_t0, r_eq_r0, r_ne_r0, r_eq_l0, r_ne_l0, r_start, gD, gsD, wipeD, br_not, br_true, br_false, br_dec, List.map_cons, List.map_nil, List.length_cons, List.length_nil, List.replicate_succ, List.replicate_zero, List.cons_append, List.nil_append, List.getElem?_cons_zero, List.getElem?_cons_succ, List.getElem?_nil, List.set_cons_zero, List.set_cons_succ, Nat.reduceAdd, Nat.reduceSub, Nat.reduceLeDiff, Nat.zero_add, updM_same, true_and, List.isEmpty_nil, List.isEmpty_cons, Bool.not_true, Bool.not_false, Bool.not_not]
        refine ⟨a1, ?_, hF _ _ ?_ h3 ((o1.trans o2).trans o3)⟩
        · rw [a2]
          have : (Str.ofString "").length = 0 := rfl
          rw [this]
          omega
        · refine join_Itm (n := 8) (by rw [List.length_map]; exact a3) fun x hx => ?_
          obtain ⟨y, hm, rfl⟩ := List.mem_map.mp hx
          obtain ⟨z, hz, rfl⟩ := hy y hm
          exact ⟨z, hz, rfl⟩
  · exact h.elim
theorem odd_all (xs : List D) (h : (xs.all fun d => shOk d && nos d && decide (cst d ≤ 3000) && decide (dep d ≤ 2)) = true) : ∀ d ∈ xs, P_odd d := fun d hd => Itm.dec (List.all_eq_true.mp h d hd)
theorem rd_l_odd : ∀ ds M F, R_gen P_odd ds M F → T_l_odd R_pick { nx := fun _ M' => F .non M', rt := F } (startD 2 ds) M := by
  intro ds M F h
  unfold R_gen at h
  split at h
  · next a =>
    obtain ⟨c, hd, hF⟩ := h
    simp only [T_l_odd, q_v, q_c, q_tup, q_lst, q_op, q_nil, q_cons, q_tst, q_tru, q_andT, q_orT, q_notT, q_andV, q_orV, q_notV, q_ifE, q_next, q_seq, q_asg, q_drop, q_ret, q_retN, q_ifS, q_par, q_isi, q_blt, q_call, q_callK, q_kid, q_kswap, q_chain, q_neg, q_isN, q_notN, q_noO, q_someO, q_sli, q_rev, q_revM, q_bm, q_bm0, q_m1, q_seqI, q_rng, q_rng2, q_enum, q_zip, q_yes, q_put, e_bl, e_int, e_str, e_lst, e_n_non, e_n_bl, e_n_int, e_n_str, e_n_tup, e_n_lst, e_n_slst, e_n_dic, e_n_ref, e_seq_l, e_seq_s, e_seq_t, e_seq_z, e_rev_l, e_rev_s, e_i1, e_i2, e_l1, e_l1s, e_l2, e_p2, e_sl, e_o, e_ob, e_on, e_ml, e_md, e_c, e_tru_b, e_tru_n, e_tru_i, e_tru_t, e_tru_l, t_str_non, t_tup_non, t_int_non, t_bool_non, t_lst_non, t_dict_non, t_str_bl, t_tup_bl, t_int_bl, t_bool_bl, t_lst_bl, t_dict_bl, t_str_int, t_tup_int, t_int_int, t_bool_int, t_lst_int, t_dict_int, t_str_str, t_tup_str, t_int_str, t_bool_str, t_lst_str, t_dict_str, t_str_tup, t_tup_tup, t_int_tup, t_bool_tup, t_lst_tup, t_dict_tup, t_str_lst, t_tup_lst, t_int_lst, t_bool_lst, t_lst_lst, t_dict_lst, t_str_dic, t_tup_dic, t_int_dic, t_bool_dic, t_lst_dic, t_dict_dic, r_add_i, r_add_s, r_add_t, r_add_l, r_sub, r_mul, r_mul_l, r_fdiv, r_mod, r_pow, r_lt, r_ix_l, r_ix_t, r_ix_s, r_ix_rl, r_ix_rd, r_sl_l, r_sl_sl, r_sl_t, r_sl_s, r_len_l, r_len_sl, r_len_t, r_len_s, r_len_r, r_all, r_any, r_tuple_l, r_tuple_sl, r_tuple_t, r_tuple_r, r_list_l, r_list_sl, r_list_t, r_list_r, r_ord, r_repr, r_pop, r_app, r_ext, r_join, r_join_t, r_isl_r, r_isl_l, r_in, r_put_d, r_put_l, r_eq_i, r_eq_s, r_ne_i, r_ne_s, r_eq_t0, r_ne_t0, r_eq_r0, r_ne_r0, r_eq_l0, r_ne_l0, r_start, gD, gsD, wipeD, br_not, br_true, br_false, br_dec, List.map_cons, List.map_nil, List.length_cons, List.length_nil, List.replicate_succ, List.replicate_zero, List.cons_append, List.nil_append, List.getElem?_cons_zero, List.getElem?_cons_succ, List.getElem?_nil, List.set_cons_zero, List.set_cons_succ, Nat.reduceAdd, Nat.reduceSub, Nat.reduceLeDiff, Nat.zero_add, updM_same, true_and, List.isEmpty_nil, List.isEmpty_cons, Bool.not_true, Bool.not_false, Bool.not_not]
    exact ⟨c, hd, by decide, by decide, fun d M2 hm h2 o2 => hF d M2 (odd_all _ (by decide +kernel) d hm) h2 o2⟩
  · exact h.elim
theorem rd_l_pattern : ∀ ds M F, R_gen P_pat ds M F → T_l_pattern R_pick (R_gen P_name) { nx := fun _ M' => F .non M', rt := F } (startD 3 ds) M := by
  intro ds M F h
  unfold R_gen at h
  split at h
  · next a =>
    obtain ⟨c, hd, hF⟩ := h
    simp only [T_l_pattern, q_v, q_c, q_tup, q_lst, q_op, q_nil, q_cons, q_tst, q_tru, q_andT, q_orT, q_notT, q_andV, q_orV, q_notV, q_ifE, q_next, q_seq, q_asg, q_drop, q_ret, q_retN, q_ifS, q_par, q_isi, q_blt, q_call, q_callK, q_kid, q_kswap, q_chain, q_neg, q_isN, q_notN, q_noO, q_someO, q_sli, q_rev, q_revM, q_bm, q_bm0, q_m1, q_seqI, q_rng, q_rng2, q_enum, q_zip, q_yes, q_put, e_bl, e_int, e_str, e_lst, e_n_non, e_n_bl, e_n_int, e_n_str, e_n_tup, e_n_lst, e_n_slst, e_n_dic, e_n_ref, e_seq_l, e_seq_s, e_seq_t, e_seq_z, e_rev_l, e_rev_s, e_i1, e_i2, e_l1, e_l1s, e_l2, e_p2, e_sl, e_o, e_ob, e_on, e_ml, e_md, e_c, e_tru_b, e_tru_n, e_tru_i, e_tru_t, e_tru_l, t_str_non, t_tup_non, t_int_non, t_bool_non, t_lst_non, t_dict_non, t_str_bl, t_tup_bl, t_int_bl, t_bool_bl, t_lst_bl, t_dict_bl, t_str_int, t_tup_int, t_int_int, t_bool_int, t_lst_int, t_dict_int, t_str_str, t_tup_str, t_int_str, t_bool_str, t_lst_str, t_dict_str, t_str_tup, t_tup_tup, t_int_tup, t_bool_tup, t_lst_tup, t_dict_tup, t_str_lst, t_tup_lst, t_int_lst, t_bool_lst, t_lst_lst, t_dict_lst, t_str_dic, t_tup_dic, t_int_dic, t_bool_dic, t_lst_dic, t_dict_dic, r_add_i, r_add_s, r_add_t, r_add_l, r_sub, r_mul, r_mul_l, r_fdiv, r_mod, r_pow, r_lt, r_ix_l, r_ix_t, r_ix_s, r_ix_rl, r_ix_rd, r_sl_l, r_sl_sl, r_sl_t, r_sl_s, r_len_l, r_len_sl, r_len_t, r_len_s, r_len_r, r_all, r_any, r_tuple_l, r_tuple_sl, r_tuple_t, r_tuple_r, r_list_l, r_list_sl, r_list_t, r_list_r, r_ord, r_repr, r_pop, r_app, r_ext, r_join, r_join_t, r_isl_r, r_isl_l, r_in, r_put_d, r_put_l, r_eq_i, r_eq_s, r_ne_i, r_ne_s, r_eq_t0, r_ne_t0, r_eq_r0, r_ne_r0, r_eq_l0, r_ne_l0, r_start, gD, gsD, wipeD, br_not, br_true, br_false, br_dec, List.map_cons, List.map_nil, List.length_cons, List.length_nil, List.replicate_succ, List.replicate_zero, List.cons_append, List.nil_append, List.getElem?_cons_zero, List.getElem?_cons_succ, List.getElem?_nil, List.set_cons_zero, List.set_cons_succ, Nat.reduceAdd, Nat.reduceSub, Nat.reduceLeDiff, Nat.zero_add, updM_same, true_and, List.isEmpty_nil, List.isEmpty_cons, Bool.not_true, Bool.not_false, Bool.not_not, q_lc]
    refine ⟨c, hd, by decide, by decide, fun d M1 hm h1 o1 => ?_⟩
    have hk : ∃ n : Nat, d = .int n ∧ n ≤ 8 := by
      simp only [List.mem_cons, List.not_mem_nil, or_false] at hm
      rcases hm with e | e | e | e | e
      · exact ⟨0, e, by decide⟩
      · exact ⟨0, e, by decide⟩
      · exact ⟨1, e, by decide⟩
      · exact ⟨2, e, by decide⟩
      · exact ⟨8, e, by decide⟩
    obtain ⟨n, rfl, hn⟩ := hk
    simp only [q_v, q_c, q_tup, q_lst, q_op, q_nil, q_cons, q_tst, q_tru, q_andT, q_orT, q_notT, q_andV, q_orV, q_notV, q_ifE, q_next, q_seq, q_asg, q_drop, q_ret, q_retN, q_ifS, q_par, q_isi, q_blt, q_call, q_callK, q_kid, q_kswap, q_chain, q_neg, q_isN, q_notN, q_noO, q_someO, q_sli, q_rev, q_revM, q_bm, q_bm0, q_m1, q_seqI, q_rng, q_rng2, q_enum, q_zip, q_yes, q_put, e_bl, e_int, e_str, e_lst, e_n_non, e_n_bl, e_n_int, e_n_str, e_n_tup, e_n_lst, e_n_slst, e_n_dic, e_n_ref, e_seq_l, e_seq_s, e_seq_t, e_seq_z, e_rev_l, e_rev_s, e_i1, e_i2, e_l1, e_l1s, e_l2, e_p2, e_sl, e_o, e_ob, e_on, e_ml, e_md, e_c, e_tru_b, e_tru_n, e_tru_i, e_tru_t, e_tru_l, t_str_non, t_tup_non, t_int_non, t_bool_non, t_lst_non, t_dict_non, t_str_bl, t_tup_bl, t_int_bl, t_bool_bl, t_lst_bl, t_dict_bl, t_str_int, t_tup_int, t_int_int, t_bool_int, t_lst_int, t_dict_int, t_str_str, t_tup_str, t_int_str, t_bool_str, t_lst_str, t_dict_str, t_str_tup, t_tup_tup, t_int_tup, t_bool_tup, t_lst_tup, t_dict_tup, t_str_lst, t_tup_lst, t_int_lst, t_bool_lst, t_lst_lst, t_dict_lst, t_str_dic, t_tup_dic, t_int_dic, t_bool_dic, t_lst_dic, t_dict_dic, r_add_i, r_add_s, r_add_t, r_add_l, r_sub, r_mul, r_mul_l, r_fdiv, r_mod, r_pow, r_lt, r_ix_l, r_ix_t, r_ix_s, r_ix_rl, r_ix_rd, r_sl_l, r_sl_sl, r_sl_t, r_sl_s, r_len_l, r_len_sl, r_len_t, r_len_s, r_len_r, r_all, r_any, r_tuple_l, r_tuple_sl, r_tuple_t, r_tuple_r, r_list_l, r_list_sl, r_list_t, r_list_r, r_ord, r_repr, r_pop, r_app, r_ext, r_join, r_join_t, r_isl_r, r_isl_l, r_in, r_put_d, r_put_l, r_eq_i, r_eq_s, r_ne_i, r_ne_s, r_eq_t0, r_ne_t0, r_eq_r0, r_ne_r0, r_eq_l0, r_ne_l0, r_start, gD, gsD, wipeD, br_not, br_true, br_false, br_dec, List.map_cons, List.map_nil, List.length_cons, List.length_nil, List.replicate_succ, List.replicate_zero, List.cons_append, List.nil_append, List.getElem?_cons_zero, List.getElem?_cons_succ, List.getElem?_nil, List.set_cons_zero, List.set_cons_succ, Nat.reduceAdd, Nat.reduceSub, Nat.reduceLeDiff, Nat.zero_add, updM_same, true_and, List.isEmpty_nil, List.isEmpty_cons, Bool.not_true, Bool.not_false, Bool.not_not]
    refine ⟨⟨by omega, by omega⟩, lc_draw P_name h1 (by rw [List.length_map, List.length_range]; omega) (fun d hd' => ?_) fun ys M3 hl hy h3 o3 => ?_⟩
    · simp only [q_v, q_c, q_tup, q_lst, q_op, q_nil, q_cons, q_tst, q_tru, q_andT, q_orT, q_notT, q_andV, q_orV, q_notV, q_ifE, q_next, q_seq, q_asg, q_drop, q_ret, q_retN, q_ifS, q_par, q_isi, q_blt, q_call, q_callK, q_kid, q_kswap, q_chain, q_neg, q_isN, q_notN, q_noO, q_someO, q_sli, q_rev, q_revM, q_bm, q_bm0, q_m1, q_seqI, q_rng, q_rng2, q_enum, q_zip, q_yes, q_put, e_bl, e_int, e_str, e_lst, e_n_non, e_n_bl, e_n_int, e_n_str, e_n_tup, e_n_lst, e_n_slst, e_n_dic, e_n_ref, e_seq_l, e_seq_s, e_seq_t, e_seq_z, e_rev_l, e_rev_s, e_i1, e_i2, e_l1, e_l1s, e_l2, e_p2, e_sl, e_o, e_ob, e_on, e_ml, e_md, e_c, e_tru_b, e_tru_n, e_tru_i, e_tru_t, e_tru_l, t_str_non, t_tup_non, t_int_non, t_bool_non, t_lst_non, t_dict_non, t_str_bl, t_tup_bl, t_int_bl, t_bool_bl, t_lst_bl, t_dict_bl, t_str_int, t_tup_int, t_int_int, t_bool_int, t_lst_int, t_dict_int, t_str_str, t_tup_str, t_int_str, t_bool_str, t_lst_str, t_dict_str, t_str_tup, t_tup_tup, t_int_tup, t_bool_tup, t_lst_tup, t_dict_tup, t_str_lst, t_tup_lst, t_int_lst, t_bool_lst, t_lst_lst, t_dict_lst, t_str_dic, t_tup_dic, t_int_dic, t_bool_dic, t_lst_dic, t_dict_dic, r_add_i, r_add_s, r_add_t, r_add_l, r_sub, r_mul, r_mul_l, r_fdiv, r_mod, r_pow, r_lt, r_ix_l, r_ix_t, r_ix_s, r_ix_rl, r_ix_rd, r_sl_l, r_sl_sl, r_sl_t, r_sl_s, r_len_l, r_len_sl, r_len_t, r_len_s, r_len_r, r_all, r_any, r_tuple_l, r_tuple_sl, r_tuple_t, r_tuple_r, r_list_l, r_list_sl, r_list_t, r_list_r, r_ord, r_repr, r_pop, r_app, r_ext, r_join, r_join_t, r_isl_r, r_isl_l, r_in, r_put_d, r_put_l, r_eq_i, r_eq_s, r_ne_i, r_ne_s, r_eq_t0, r_ne_t0, r_eq_r0, r_ne_r0, r_eq_l0, r_ne_l0, r_start, gD, gsD, wipeD, br_not, br_true, br_false, br_dec, List.map_cons, List.map_nil, List.length_cons, List.length_nil, List.replicate_succ, List.replicate_zero, List.cons_append, List.nil_append, List.getElem?_cons_zero, List.getElem?_cons_succ, List.getElem?_nil, List.set_cons_zero, List.set_cons_succ, Nat.reduceAdd, Nat.reduceSub, Nat.reduceLeDiff, Nat.zero_add, updM_same, true_and, List.isEmpty_nil, List.isEmpty_cons, Bool.not_true, Bool.not_false, Bool.not_not]
      intro M' G h4 hG
      exact ⟨c, h4, hG⟩
    · have a3 : ys.length ≤ 8 := by rw [hl, List.length_map, List.length_range]; omega
      refine ⟨c, h3, fun d1 M4 p1 h4 o4 => ⟨c, h4, fun d2 M5 p2 h5 o5 => ⟨c, h5, Nat.succ_pos _, (by show 3 ≤ 1000000; decide), fun d M6 hm h6 o6 => ?_⟩⟩⟩
      have hp : P_name d := by
        simp only [List.mem_cons, List.not_mem_nil, or_false] at hm
        rcases hm with e | e | e
        · rw [e]; exact Itm.dec (by decide +kernel)
        · rw [e]; exact p1
        · rw [e]; exact p2
      simp only [q_v, q_c, q_tup, q_lst, q_op, q_nil, q_cons, q_tst, q_tru, q_andT, q_orT, q_notT, q_andV, q_orV, q_notV, q_ifE, q_next, q_seq, q_asg, q_drop, q_ret, q_retN, q_ifS, q_par, q_isi, q_blt, q_call, q_callK, q_kid, q_kswap, q_chain, q_neg, q_isN, q_notN, q_noO, q_someO, q_sli, q_rev, q_revM, q_bm, q_bm0, q_m1, q_seqI, q_rng, q_rng2, q_enum, q_zip, q_yes, q_put, e_bl, e_int, e_str, e_lst, e_n_non, e_n_bl, e_n_int, e_n_str, e_n_tup, e_n_lst, e_n_slst, e_n_dic, e_n_ref, e_seq_l, e_seq_s, e_seq_t, e_seq_z, e_rev_l, e_rev_s, e_i1, e_i2, e_l1, e_l1s, e_l2, e_p2, e_sl, e_o, e_ob, e_on, e_ml, e_md, e_c, e_tru_b, e_tru_n, e_tru_i, e_tru_t, e_tru_l, t_str_non, t_tup_non, t_int_non, t_bool_non, t_lst_non, t_dict_non, t_str_bl, t_tup_bl, t_int_bl, t_bool_bl, t_lst_bl, t_dict_bl, t_str_int, t_tup_int, t_int_int, t_bool_int, t_lst_int, t_dict_int, t_str_str, t_tup_str, t_int_str, t_bool_str, t_lst_str, t_dict_str, t_str_tup, t_tup_tup, t_int_tup, t_bool_tup, t_lst_tup, t_dict_tup, t_str_lst, t_tup_lst, t_int_lst, t_bool_lst, t_lst_lst, t_dict_lst, t_str_dic, t_tup_dic, t_int_dic, t_bool_dic, t_lst_dic, t_dict_dic, r_add_i, r_add_s, r_add_t, r_add_l, r_sub, r_mul, r_mul_l, r_fdiv, r_mod, r_pow, r_lt, r_ix_l, r_ix_t, r_ix_s, r_ix_rl, r_ix_rd, r_sl_l, r_sl_sl, r_sl_t, r_sl_s, r_len_l, r_len_sl, r_len_t, r_len_s, r_len_r, r_all, r_any, r_tuple_l, r_tuple_sl, r_tuple_t, r_tuple_r, r_list_l, r_list_sl, r_list_t, r_list_r, r_ord, r_repr, r_pop, r_app, r_ext, r_join, r_join_t, r_isl_r, r_isl_l, r_in, r_put_d, r_put_l, r_eq_i, r_eq_s, r_ne_i, r_ne_s, r_eq_t0, r_ne_t0, r_eq_r0, r_ne_r0, r_eq_l0, r_ne_l0, r_start, gD, gsD, wipeD, br_not, br_true, br_false, br_dec, List.map_cons, List.map_nil, List.length_cons, List.length_nil, List.replicate_succ, List.replicate_zero, List.cons_append, List.nil_append, List.getElem?_cons_zero, List.getElem?_cons_succ, List.getElem?_nil, List.set_cons_zero, List.set_cons_succ, Nat.reduceAdd, Nat.reduceSub, Nat.reduceLeDiff, Nat.zero_add, updM_same, true_and, List.isEmpty_nil, List.isEmpty_cons, Bool.not_true, Bool.not_false, Bool.not_not]
      refine ⟨by omega, hF _ _ ⟨_, rfl, ?_⟩ h6 ((((o1.trans o3).trans o4).trans o5).trans o6)⟩
      exact ((Itl.all (n := 8) hy a3).append (Itl.cons hp (Itl.nil (c := 0)))).mono (by decide) (Nat.le_refl _)
  · exact h.elim
theorem one_Itl {c k : Nat} {d : D} (h : Itm c k d) : Itl (c + 2) k [d] := Itl.cons h (Itl.nil (c := 0))
theorem rd_l_bent : ∀ ds M F, R_l_bent ds M F → T_l_bent (R_gen P_odd) R_pick (R_gen P_name) R_draw { nx := fun _ M' => F .non M', rt := F } (startD 4 ds) M := by
  intro ds M F h
  unfold R_l_bent at h
  split at h
  · next a ys =>
    obtain ⟨c, n, k, hd, hy, hn, hF⟩ := h
    have hl := hy.len
    have L : ∀ lo hi, (cutL ys lo hi).length ≤ 100000 := fun lo hi => by
      have := (hy.cut (lo := lo) (hi := hi)).len
      omega
    simp only [T_l_bent, q_v, q_c, q_tup, q_lst, q_op, q_nil, q_cons, q_tst, q_tru, q_andT, q_orT, q_notT, q_andV, q_orV, q_notV, q_ifE, q_next, q_seq, q_asg, q_drop, q_ret, q_retN, q_ifS, q_par, q_isi, q_blt, q_call, q_callK, q_kid, q_kswap, q_chain, q_neg, q_isN, q_notN, q_noO, q_someO, q_sli, q_rev, q_revM, q_bm, q_bm0, q_m1, q_seqI, q_rng, q_rng2, q_enum, q_zip, q_yes, q_put, e_bl, e_int, e_str, e_lst, e_n_non, e_n_bl, e_n_int, e_n_str, e_n_tup, e_n_lst, e_n_slst, e_n_dic, e_n_ref, e_seq_l, e_seq_s, e_seq_t, e_seq_z, e_rev_l, e_rev_s, e_i1, e_i2, e_l1, e_l1s, e_l2, e_p2, e_sl, e_o, e_ob, e_on, e_ml, e_md, e_c, e_tru_b, e_tru_n, e_tru_i, e_tru_t, e_tru_l, t_str_non, t_tup_non, t_int_non, t_bool_non, t_lst_non, t_dict_non, t_str_bl, t_tup_bl, t_int_bl, t_bool_bl, t_lst_bl, t_dict_bl, t_str_int, t_tup_int, t_int_int, t_bool_int, t_lst_int, t_dict_int, t_str_str, t_tup_str, t_int_str, t_bool_str, t_lst_str, t_dict_str, t_str_tup, t_tup_tup, t_int_tup, t_bool_tup, t_lst_tup, t_dict_tup, t_str_lst, t_tup_lst, t_int_lst, t_bool_lst, t_lst_lst, t_dict_lst, t_str_dic, t_tup_dic, t_int_dic, t_bool_dic, t_lst_dic, t_dict_dic, r_add_i, r_add_s, r_add_t, r_add_l, r_sub, r_mul, r_mul_l, r_fdiv, r_mod, r_pow, r_lt, r_ix_l, r_ix_t, r_ix_s, r_ix_rl, r_ix_rd, r_sl_l, r_sl_sl, r_sl_t, r_sl_s, r_len_l, r_len_sl, r_len_t, r_len_s, r_len_r, r_all, r_any, r_tuple_l, r_tuple_sl, r_tuple_t, r_tuple_r, r_list_l, r_list_sl, r_list_t, r_list_r, r_ord, r_repr, r_pop, r_app, r_ext, r_join, r_join_t, r_isl_r, r_isl_l, r_in, r_put_d, r_put_l, r_eq_i, r_eq_s, r_ne_i, r_ne_s, r_eq_t0, r_ne_t0, r_eq_r0, r_ne_r0, r_eq_l0, r_ne_l0, r_start, gD, gsD, wipeD, br_not, br_true, br_false, br_dec, List.map_cons, List.map_nil, List.length_cons, List.length_nil, List.replicate_succ, List.replicate_zero, List.cons_append, List.nil_append, List.getElem?_cons_zero, List.getElem?_cons_succ, List.getElem?_nil, List.set_cons_zero, List.set_cons_succ, Nat.reduceAdd, Nat.reduceSub, Nat.reduceLeDiff, Nat.zero_add, updM_same, true_and, List.isEmpty_nil, List.isEmpty_cons, Bool.not_true, Bool.not_false, Bool.not_not]
    refine ⟨c, hd, by omega, by omega, fun at' M1 a0 a1 h1 o1 => ⟨c, h1, by decide, by decide, fun w M2 w0 w1 h2 o2 => ?_⟩⟩
    have hF' : ∀ (c' k' : Nat) d M', Itm c' k' d → c' ≤ 3 * n + 4000 → k' ≤ k + 3 → HandAt M' a c → Oth a c M2 M' → F d M' := fun c' k' d M' i l1 l2 h3 o3 => hF d M' (i.mono l1 l2) h3 ((o1.trans o2).trans o3)
    have odd : ∀ (G : D → Mp → Prop), (∀ d M', P_odd d → HandAt M' a c → Oth a c M2 M' → G d M') → R_gen P_odd [.ref a] M2 G := fun G g => ⟨c, h2, g⟩
    have last : ∀ i i', R_gen P_odd [.ref a] M2 fun d M1 => (cutL ys none (some i)).length ≤ 999999 ∧ (cutL ys none (some i) ++ [d]).length + (cutL ys (some i') none).length ≤ 1000000 ∧ F (.tup (cutL ys none (some i) ++ [d] ++ cutL ys (some i') none)) M1 := fun i i' =>
      odd _ fun d M' p h3 o3 => by
        have q1 := L none (some i)
        have q2 := L (some i') none
        refine ⟨by omega, by rw [List.length_append, List.length_singleton]; omega, ?_⟩
        exact hF' _ _ _ _ (Itm.tup (((hy.cut.mono (Nat.le_refl _) (Nat.le_add_right _ 2)).append (one_Itl (p.mono (Nat.le_refl _) (Nat.le_add_left _ _)))).append (hy.cut.mono (Nat.le_refl _) (Nat.le_add_right _ 2)))) (by omega) (by omega) h3 o3
    simp only [q_v, q_c, q_tup, q_lst, q_op, q_nil, q_cons, q_tst, q_tru, q_andT, q_orT, q_notT, q_andV, q_orV, q_notV, q_ifE, q_next, q_seq, q_asg, q_drop, q_ret, q_retN, q_ifS, q_par, q_isi, q_blt, q_call, q_callK, q_kid, q_kswap, q_chain, q_neg, q_isN, q_notN, q_noO, q_someO, q_sli, q_rev, q_revM, q_bm, q_bm0, q_m1, q_seqI, q_rng, q_rng2, q_enum, q_zip, q_yes, q_put, e_bl, e_int, e_str, e_lst, e_n_non, e_n_bl, e_n_int, e_n_str, e_n_tup, e_n_lst, e_n_slst, e_n_dic, e_n_ref, e_seq_l, e_seq_s, e_seq_t, e_seq_z, e_rev_l, e_rev_s, e_i1, e_i2, e_l1, e_l1s, e_l2, e_p2, e_sl, e_o, e_ob, e_on, e_ml, e_md, e_c, e_tru_b, e_tru_n, e_tru_i, e_tru_t, e_tru_l, t_str_non, t_tup_non, t_int_non, t_bool_non, t_lst_non, t_dict_non, t_str_bl, t_tup_bl, t_int_bl, t_bool_bl, t_lst_bl, t_dict_bl, t_str_int, t_tup_int, t_int_int, t_bool_int, t_lst_int, t_dict_int, t_str_str, t_tup_str, t_int_str, t_bool_str, t_lst_str, t_dict_str, t_str_tup, t_tup_tup, t_int_tup, t_bool_tup, t_lst_tup, t_dict_tup, t_str_lst, t_tup_lst, t_int_lst, t_bool_lst, t_lst_lst, t_dict_lst, t_str_dic, t_tup_dic, t_int_dic, t_bool_dic, t_lst_dic, t_dict_dic, r_add_i, r_add_s, r_add_t, r_add_l, r_sub, r_mul, r_mul_l, r_fdiv, r_mod, r_pow, r_lt, r_ix_l, r_ix_t, r_ix_s, r_ix_rl, r_ix_rd, r_sl_l, r_sl_sl, r_sl_t, r_sl_s, r_len_l, r_len_sl, r_len_t, r_len_s, r_len_r, r_all, r_any, r_tuple_l, r_tuple_sl, r_tuple_t, r_tuple_r, r_list_l, r_list_sl, r_list_t, r_list_r, r_ord, r_repr, r_pop, r_app, r_ext, r_join, r_join_t, r_isl_r, r_isl_l, r_in, r_put_d, r_put_l, r_eq_i, r_eq_s, r_ne_i, r_ne_s, r_eq_t0, r_ne_t0, r_eq_r0, r_ne_r0, r_eq_l0, r_ne_l0, r_start, gD, gsD, wipeD, br_not, br_true, br_false, br_dec, List.map_cons, List.map_nil, List.length_cons, List.length_nil, List.replicate_succ, List.replicate_zero, List.cons_append, List.nil_append, List.getElem?_cons_zero, List.getElem?_cons_succ, List.getElem?_nil, List.set_cons_zero, List.set_cons_succ, Nat.reduceAdd, Nat.reduceSub, Nat.reduceLeDiff, Nat.zero_add, updM_same, true_and, List.isEmpty_nil, List.isEmpty_cons, Bool.not_true, Bool.not_false, Bool.not_not]
    refine ⟨fun _ => ?_, fun _ => ⟨fun _ => ?_, fun _ => ⟨fun _ => ?_, fun _ => ⟨fun _ => ?_, fun _ => ⟨fun _ => ?_, fun _ => ⟨fun _ => ?_, fun _ => ⟨fun _ => ?_, fun _ => last _ _⟩⟩⟩⟩⟩⟩⟩
    · exact hF' _ _ _ _ (Itm.lst hy) (by omega) (by omega) h2 (Oth.refl _ _ _)
    · exact hF' _ _ _ _ (Itm.tup (one_Itl (Itm.tup hy))) (by omega) (by omega) h2 (Oth.refl _ _ _)
    · have q1 := L none (some at')
      have q2 := L (some (at' + 1)) none
      exact ⟨by omega, hF' _ _ _ _ (Itm.tup (hy.cut.append hy.cut)) (by omega) (by omega) h2 (Oth.refl _ _ _)⟩
    · have q1 := L none (some at')
      have q2 := L (some at') (some (at' + 1))
      have q3 := L (some at') none
      exact ⟨by omega, by rw [List.length_append]; omega, hF' _ _ _ _ (Itm.tup ((hy.cut.append hy.cut).append hy.cut)) (by omega) (by omega) h2 (Oth.refl _ _ _)⟩
    · have q1 := L none (some at')
      have q3 := L (some at') none
      have t : Itm 14 k (.str ("T" : Str)) := (Itm.dec (k := 0) (by decide +kernel)).mono (Nat.le_refl _) (Nat.zero_le _)
      exact ⟨by omega, by rw [List.length_append, List.length_singleton]; omega, hF' _ _ _ _ (Itm.tup ((hy.cut.append (one_Itl t)).append hy.cut)) (by omega) (by omega) h2 (Oth.refl _ _ _)⟩
    · exact ⟨c, h2, fun d M3 p h3 o3 => ⟨by omega, hF' _ _ _ _ (Itm.tup (hy.append (one_Itl (p.mono (Nat.le_refl _) (Nat.zero_le _))))) (by omega) (by omega) h3 o3⟩⟩
    · cases ys.isEmpty with
      | true =>
        simp only [q_v, q_c, q_tup, q_lst, q_op, q_nil, q_cons, q_tst, q_tru, q_andT, q_orT, q_notT, q_andV, q_orV, q_notV, q_ifE, q_next, q_seq, q_asg, q_drop, q_ret, q_retN, q_ifS, q_par, q_isi, q_blt, q_call, q_callK, q_kid, q_kswap, q_chain, q_neg, q_isN, q_notN, q_noO, q_someO, q_sli, q_rev, q_revM, q_bm, q_bm0, q_m1, q_seqI, q_rng, q_rng2, q_enum, q_zip, q_yes, q_put, e_bl, e_int, e_str, e_lst, e_n_non, e_n_bl, e_n_int, e_n_str, e_n_tup, e_n_lst, e_n_slst, e_n_dic, e_n_ref, e_seq_l, e_seq_s, e_seq_t, e_seq_z, e_rev_l, e_rev_s, e_i1, e_i2, e_l1, e_l1s, e_l2, e_p2, e_sl, e_o, e_ob, e_on, e_ml, e_md, e_c, e_tru_b, e_tru_n, e_tru_i, e_tru_t, e_tru_l, t_str_non, t_tup_non, t_int_non, t_bool_non, t_lst_non, t_dict_non, t_str_bl, t_tup_bl, t_int_bl, t_bool_bl, t_lst_bl, t_dict_bl, t_str_int, t_tup_int, t_int_int, t_bool_int, t_lst_int, t_dict_int, t_str_str, t_tup_str, t_int_str, t_bool_str, t_lst_str, t_dict_str, t_str_tup, t_tup_tup, t_int_tup, t_bool_tup, t_lst_tup, t_dict_tup, t_str_lst, t_tup_lst, t_int_lst, t_bool_lst, t_lst_lst, t_dict_lst, t_str_dic, t_tup_dic, t_int_dic, t_bool_dic, t_lst_dic, t_dict_dic, r_add_i, r_add_s, r_add_t, r_add_l, r_sub, r_mul, r_mul_l, r_fdiv, r_mod, r_pow, r_lt, r_ix_l, r_ix_t, r_ix_s, r_ix_rl, r_ix_rd, r_sl_l, r_sl_sl, r_sl_t, r_sl_s, r_len_l, r_len_sl, r_len_t, r_len_s, r_len_r, r_all, r_any, r_tuple_l, r_tuple_sl, r_tuple_t, r_tuple_r, r_list_l, r_list_sl, r_list_t, r_list_r, r_ord, r_repr, r_pop, r_app, r_ext, r_join, r_join_t, r_isl_r, r_isl_l, r_in, r_put_d, r_put_l, r_eq_i, r_eq_s, r_ne_i, r_ne_s, r_eq_t0, r_ne_t0, r_eq_r0, r_ne_r0, r_eq_l0, r_ne_l0, r_start, gD, gsD, wipeD, br_not, br_true, br_false, br_dec, List.map_cons, List.map_nil, List.length_cons, List.length_nil, List.replicate_succ, List.replicate_zero, List.cons_append, List.nil_append, List.getElem?_cons_zero, List.getElem?_cons_succ, List.getElem?_nil, List.set_cons_zero, List.set_cons_succ, Nat.reduceAdd, Nat.reduceSub, Nat.reduceLeDiff, Nat.zero_add, updM_same, true_and, List.isEmpty_nil, List.isEmpty_cons, Bool.not_true, Bool.not_false, Bool.not_not]
        exact last _ _
      | false =>
        simp only [q_v, q_c, q_tup, q_lst, q_op, q_nil, q_cons, q_tst, q_tru, q_andT, q_orT, q_notT, q_andV, q_orV, q_notV, q_ifE, q_next, q_seq, q_asg, q_drop, q_ret, q_retN, q_ifS, q_par, q_isi, q_blt, q_call, q_callK, q_kid, q_kswap, q_chain, q_neg, q_isN, q_notN, q_noO, q_someO, q_sli, q_rev, q_revM, q_bm, q_bm0, q_m1, q_seqI, q_rng, q_rng2, q_enum, q_zip, q_yes, q_put, e_bl, e_int, e_str, e_lst, e_n_non, e_n_bl, e_n_int, e_n_str, e_n_tup, e_n_lst, e_n_slst, e_n_dic, e_n_ref, e_seq_l, e_seq_s, e_seq_t, e_seq_z, e_rev_l, e_rev_s, e_i1, e_i2, e_l1, e_l1s, e_l2, e_p2, e_sl, e_o, e_ob, e_on, e_ml, e_md, e_c, e_tru_b, e_tru_n, e_tru_i, e_tru_t, e_tru_l, t_str_non, t_tup_non, t_int_non, t_bool_non, t_lst_non, t_dict_non, t_str_bl, t_tup_bl, t_int_bl, t_bool_bl, t_lst_bl, t_dict_bl, t_str_int, t_tup_int, t_int_int, t_bool_int, t_lst_int, t_dict_int, t_str_str, t_tup_str, t_int_str, t_bool_str, t_lst_str, t_dict_str, t_str_tup, t_tup_tup, t_int_tup, t_bool_tup, t_lst_tup, t_dict_tup, t_str_lst, t_tup_lst, t_int_lst, t_bool_lst, t_lst_lst, t_dict_lst, t_str_dic, t_tup_dic, t_int_dic, t_bool_dic, t_lst_dic, t_dict_dic, r_add_i, r_add_s, r_add_t, r_add_l, r_sub, r_mul, r_mul_l, r_fdiv, r_mod, r_pow, r_lt, r_ix_l, r_ix_t, r_ix_s, r_ix_rl, r_ix_rd, r_sl_l, r_sl_sl, r_sl_t, r_sl_s, r_len_l, r_len_sl, r_len_t, r_len_s, r_len_r, r_all, r_any, r_tuple_l, r_tuple_sl, r_tuple_t, r_tuple_r, r_list_l, r_list_sl, r_list_t, r_list_r, r_ord, r_repr, r_pop, r_app, r_ext, r_join, r_join_t, r_isl_r, r_isl_l, r_in, r_put_d, r_put_l, r_eq_i, r_eq_s, r_ne_i, r_ne_s, r_eq_t0, r_ne_t0, r_eq_r0, r_ne_r0, r_eq_l0, r_ne_l0, r_start, gD, gsD, wipeD, br_not, br_true, br_false, br_dec, List.map_cons, List.map_nil, List.length_cons, List.length_nil, List.replicate_succ, List.replicate_zero, List.cons_append, List.nil_append, List.getElem?_cons_zero, List.getElem?_cons_succ, List.getElem?_nil, List.set_cons_zero, List.set_cons_succ, Nat.reduceAdd, Nat.reduceSub, Nat.reduceLeDiff, Nat.zero_add, updM_same, true_and, List.isEmpty_nil, List.isEmpty_cons, Bool.not_true, Bool.not_false, Bool.not_not]
        refine ⟨c, h2, by decide, by decide, fun d M3 hm h3 o3 => ?_⟩
        have q1 := L none (some (-1))
        have p : Itm 40 (k + 1) d := by
          have : Itm 40 1 d := by
            simp only [List.mem_cons, List.not_mem_nil, or_false] at hm
            rcases hm with e | e | e | e <;> (rw [e]; exact Itm.dec (by decide +kernel))
          exact this.mono (Nat.le_refl _) (Nat.le_add_left _ _)
        exact ⟨by omega, hF' _ _ _ _ (Itm.tup ((hy.cut.mono (Nat.le_refl _) (Nat.le_add_right _ 1)).append (one_Itl p))) (by omega) (by omega) h3 o3⟩
  · exact h.elim
theorem Itl_rep {n : Nat} : Itl (n * 42) 0 (List.replicate n [D.str ("a" : Str), D.str ("zz" : Str)]).flatten ∧ (List.replicate n [D.str ("a" : Str), D.str ("zz" : Str)]).flatten.length = 2 * n := by
  induction n with
  | zero => exact ⟨Itl.nil, rfl⟩
  | succ n ih =>
    rw [List.replicate_succ, List.flatten_cons]
    have a1 : Itm 14 0 (.str ("a" : Str)) := (Itm.dec (k := 0) (by decide +kernel)).mono (Nat.le_refl _) (Nat.zero_le _)
    have a2 : Itm 24 0 (.str ("zz" : Str)) := (Itm.dec (k := 0) (by decide +kernel)).mono (Nat.le_refl _) (Nat.zero_le _)
    refine ⟨((Itl.cons a1 (one_Itl a2)).append ih.1).mono (by omega) (Nat.le_refl _), ?_⟩
    rw [List.length_append, ih.2]
    show 2 + 2 * n = _
    omega
theorem rd_l_long : ∀ ds M F, R_gen P_long ds M F → T_l_long R_pick R_draw { nx := fun _ M' => F .non M', rt := F } (startD 4 ds) M := by
  intro ds M F h
  unfold R_gen at h
  split at h
  · next a =>
    obtain ⟨c, hd, hF⟩ := h
    simp only [T_l_long, q_v, q_c, q_tup, q_lst, q_op, q_nil, q_cons, q_tst, q_tru, q_andT, q_orT, q_notT, q_andV, q_orV, q_notV, q_ifE, q_next, q_seq, q_asg, q_drop, q_ret, q_retN, q_ifS, q_par, q_isi, q_blt, q_call, q_callK, q_kid, q_kswap, q_chain, q_neg, q_isN, q_notN, q_noO, q_someO, q_sli, q_rev, q_revM, q_bm, q_bm0, q_m1, q_seqI, q_rng, q_rng2, q_enum, q_zip, q_yes, q_put, e_bl, e_int, e_str, e_lst, e_n_non, e_n_bl, e_n_int, e_n_str, e_n_tup, e_n_lst, e_n_slst, e_n_dic, e_n_ref, e_seq_l, e_seq_s, e_seq_t, e_seq_z, e_rev_l, e_rev_s, e_i1, e_i2, e_l1, e_l1s, e_l2, e_p2, e_sl, e_o, e_ob, e_on, e_ml, e_md, e_c, e_tru_b, e_tru_n, e_tru_i, e_tru_t, e_tru_l, t_str_non, t_tup_non, t_int_non, t_bool_non, t_lst_non, t_dict_non, t_str_bl, t_tup_bl, t_int_bl, t_bool_bl, t_lst_bl, t_dict_bl, t_str_int, t_tup_int, t_int_int, t_bool_int, t_lst_int, t_dict_int, t_str_str, t_tup_str, t_int_str, t_bool_str, t_lst_str, t_dict_str, t_str_tup, t_tup_tup, t_int_tup, t_bool_tup, t_lst_tup, t_dict_tup, t_str_lst, t_tup_lst, t_int_lst, t_bool_lst, t_lst_lst, t_dict_lst, t_str_dic, t_tup_dic, t_int_dic, t_bool_dic, t_lst_dic, t_dict_dic, r_add_i, r_add_s, r_add_t, r_add_l, r_sub, r_mul, r_mul_l, r_fdiv, r_mod, r_pow, r_lt, r_ix_l, r_ix_t, r_ix_s, r_ix_rl, r_ix_rd, r_sl_l, r_sl_sl, r_sl_t, r_sl_s, r_len_l, r_len_sl, r_len_t, r_len_s, r_len_r, r_all, r_any, r_tuple_l, r_tuple_sl, r_tuple_t, r_tuple_r, r_list_l, r_list_sl, r_list_t, r_list_r, r_ord, r_repr, r_pop, r_app, r_ext, r_join, r_join_t, r_isl_r, r_isl_l, r_in, r_put_d, r_put_l, r_eq_i, r_eq_s, r_ne_i, r_ne_s, r_eq_t0, r_ne_t0, r_eq_r0, r_ne_r0, r_eq_l0, r_ne_l0, r_start, gD, gsD, wipeD, br_not, br_true, br_false, br_dec, List.map_cons, List.map_nil, List.length_cons, List.length_nil, List.replicate_succ, List.replicate_zero, List.cons_append, List.nil_append, List.getElem?_cons_zero, List.getElem?_cons_succ, List.getElem?_nil, List.set_cons_zero, List.set_cons_succ, Nat.reduceAdd, Nat.reduceSub, Nat.reduceLeDiff, Nat.zero_add, updM_same, true_and, List.isEmpty_nil, List.isEmpty_cons, Bool.not_true, Bool.not_false, Bool.not_not]
    refine ⟨c, hd, by decide, by decide, fun d M1 hm h1 o1 => ?_⟩
    refine ⟨c, h1, by decide, by decide, fun r M2 r0 r1 h2 o2 => ?_⟩
    have hk : ∃ n : Nat, d = .int n ∧ n ≤ 3999 := by
      simp only [List.mem_cons, List.not_mem_nil, or_false] at hm
      rcases hm with e | e
      · exact ⟨1300, e, by decide⟩
      · exact ⟨3999, e, by decide⟩
    obtain ⟨n, rfl, hn⟩ := hk
    simp only [q_v, q_c, q_tup, q_lst, q_op, q_nil, q_cons, q_tst, q_tru, q_andT, q_orT, q_notT, q_andV, q_orV, q_notV, q_ifE, q_next, q_seq, q_asg, q_drop, q_ret, q_retN, q_ifS, q_par, q_isi, q_blt, q_call, q_callK, q_kid, q_kswap, q_chain, q_neg, q_isN, q_notN, q_noO, q_someO, q_sli, q_rev, q_revM, q_bm, q_bm0, q_m1, q_seqI, q_rng, q_rng2, q_enum, q_zip, q_yes, q_put, e_bl, e_int, e_str, e_lst, e_n_non, e_n_bl, e_n_int, e_n_str, e_n_tup, e_n_lst, e_n_slst, e_n_dic, e_n_ref, e_seq_l, e_seq_s, e_seq_t, e_seq_z, e_rev_l, e_rev_s, e_i1, e_i2, e_l1, e_l1s, e_l2, e_p2, e_sl, e_o, e_ob, e_on, e_ml, e_md, e_c, e_tru_b, e_tru_n, e_tru_i, e_tru_t, e_tru_l, t_str_non, t_tup_non, t_int_non, t_bool_non, t_lst_non, t_dict_non, t_str_bl, t_tup_bl, t_int_bl, t_bool_bl, t_lst_bl, t_dict_bl, t_str_int, t_tup_int, t_int_int, t_bool_int, t_lst_int, t_dict_int, t_str_str, t_tup_str, t_int_str, t_bool_str, t_lst_str, t_dict_str, t_str_tup, t_tup_tup, t_int_tup, t_bool_tup, t_lst_tup, t_dict_tup, t_str_lst, t_tup_lst, t_int_lst, t_bool_lst, t_lst_lst, t_dict_lst, t_str_dic, t_tup_dic, t_int_dic, t_bool_dic, t_lst_dic, t_dict_dic, r_add_i, r_add_s, r_add_t, r_add_l, r_sub, r_mul, r_mul_l, r_fdiv, r_mod, r_pow, r_lt, r_ix_l, r_ix_t, r_ix_s, r_ix_rl, r_ix_rd, r_sl_l, r_sl_sl, r_sl_t, r_sl_s, r_len_l, r_len_sl, r_len_t, r_len_s, r_len_r, r_all, r_any, r_tuple_l, r_tuple_sl, r_tuple_t, r_tuple_r, r_list_l, r_list_sl, r_list_t, r_list_r, r_ord, r_repr, r_pop, r_app, r_ext, r_join, r_join_t, r_isl_r, r_isl_l, r_in, r_put_d, r_put_l, r_eq_i, r_eq_s, r_ne_i, r_ne_s, r_eq_t0, r_ne_t0, r_eq_r0, r_ne_r0, r_eq_l0, r_ne_l0, r_start, gD, gsD, wipeD, br_not, br_true, br_false, br_dec, List.map_cons, List.map_nil, List.length_cons, List.length_nil, List.replicate_succ, List.replicate_zero, List.cons_append, List.nil_append, List.getElem?_cons_zero, List.getElem?_cons_succ, List.getElem?_nil, List.set_cons_zero, List.set_cons_succ, Nat.reduceAdd, Nat.reduceSub, Nat.reduceLeDiff, Nat.zero_add, updM_same, true_and, List.isEmpty_nil, List.isEmpty_cons, Bool.not_true, Bool.not_false, Bool.not_not]
    have en : ((n : Int) / 2).toNat = n / 2 := by omega
    obtain ⟨b1, b2⟩ := Itl_rep (n := n / 2)
    have L : ∀ lo hi, (cutL (List.replicate (n / 2) [D.str ("a" : Str), D.str ("zz" : Str)]).flatten lo hi).length ≤ 100000 := fun lo hi => by
      have := (b1.cut (lo := lo) (hi := hi)).len
      omega
    simp only [en]
    have q1 := L none (some r)
    have q2 := L (some r) none
    have t : Itm 14 0 (.str ("T" : Str)) := (Itm.dec (k := 0) (by decide +kernel)).mono (Nat.le_refl _) (Nat.zero_le _)
    refine ⟨by decide, by omega, by omega, by show 2 * (n / 2) ≤ 1000000; omega, by rw [b2]; omega, c, h2, by decide, by decide, fun d M3 hm h3 o3 => ?_⟩
    have p : Itm 3000 0 d := by
      simp only [List.mem_cons, List.not_mem_nil, or_false] at hm
      rcases hm with e | e | e <;> (rw [e]; exact Itm.dec (by decide +kernel))
    refine ⟨by omega, by rw [List.length_append, List.length_singleton]; omega, ?_⟩
    refine hF _ _ ⟨_, _, _, rfl, ?_, ?_, ?_⟩ h3 ((o1.trans o2).trans o3)
    · exact (Itm.tup b1).mono (by omega) (Nat.le_refl _)
    · exact (Itm.tup (b1.append (one_Itl t))).mono (by omega) (Nat.le_refl _)
    · exact (Itm.tup ((b1.cut.append (one_Itl p)).append b1.cut)).mono (by omega) (Nat.le_refl _)
  · exact h.elim
def R_law : RD
  | [.slst xs], M, F => ∃ ns : List Int, xs = ns.map D.int ∧ ns.length ≤ 63 ∧ ∀ M', F (.bl true) M'
  | _, _, _ => False
theorem ln_law : ∀ xs M F, R_law xs M F → xs.length = 1 := by
  intro xs M F h
  unfold R_law at h
  split at h
  · rfl
  · exact h.elim
theorem rd_law : ∀ ds M F, R_law ds M F → T_law (R_gen P_odd) (R_gen P_name) R_l_right R_pick R_l_bent (R_gen P_pat) (R_gen P_long) R_hand { nx := fun _ M' => F .non M', rt := F } (startD 6 ds) M := by
  intro ds M F h
  unfold R_law at h
  split at h
  · next xs =>
    obtain ⟨ns, rfl, hl, hF⟩ := h
    simp only [T_law, q_v, q_c, q_tup, q_lst, q_op, q_nil, q_cons, q_tst, q_tru, q_andT, q_orT, q_notT, q_andV, q_orV, q_notV, q_ifE, q_next, q_seq, q_asg, q_drop, q_ret, q_retN, q_ifS, q_par, q_isi, q_blt, q_call, q_callK, q_kid, q_kswap, q_chain, q_neg, q_isN, q_notN, q_noO, q_someO, q_sli, q_rev, q_revM, q_bm, q_bm0, q_m1, q_seqI, q_rng, q_rng2, q_enum, q_zip, q_yes, q_put, e_bl, e_int, e_str, e_lst, e_n_non, e_n_bl, e_n_int, e_n_str, e_n_tup, e_n_lst, e_n_slst, e_n_dic, e_n_ref, e_seq_l, e_seq_s, e_seq_t, e_seq_z, e_rev_l, e_rev_s, e_i1, e_i2, e_l1, e_l1s, e_l2, e_p2, e_sl, e_o, e_ob, e_on, e_ml, e_md, e_c, e_tru_b, e_tru_n, e_tru_i, e_tru_t, e_tru_l, t_str_non, t_tup_non, t_int_non, t_bool_non, t_lst_non, t_dict_non, t_str_bl, t_tup_bl, t_int_bl, t_bool_bl, t_lst_bl, t_dict_bl, t_str_int, t_tup_int, t_int_int, t_bool_int, t_lst_int, t_dict_int, t_str_str, t_tup_str, t_int_str, t_bool_str, t_lst_str, t_dict_str, t_str_tup, t_tup_tup, t_int_tup, t_bool_tup, t_lst_tup, t_dict_tup, t_str_lst, t_tup_lst, t_int_lst, t_bool_lst, t_lst_lst, t_dict_lst, t_str_dic, t_tup_dic, t_int_dic, t_bool_dic, t_lst_dic, t_dict_dic, r_add_i, r_add_s, r_add_t, r_add_l, r_sub, r_mul, r_mul_l, r_fdiv, r_mod, r_pow, r_lt, r_ix_l, r_ix_t, r_ix_s, r_ix_rl, r_ix_rd, r_sl_l, r_sl_sl, r_sl_t, r_sl_s, r_len_l, r_len_sl, r_len_t, r_len_s, r_len_r, r_all, r_any, r_tuple_l, r_tuple_sl, r_tuple_t, r_tuple_r, r_list_l, r_list_sl, r_list_t, r_list_r, r_ord, r_repr, r_pop, r_app, r_ext, r_join, r_join_t, r_isl_r, r_isl_l, r_in, r_put_d, r_put_l, r_eq_i, r_eq_s, r_ne_i, r_ne_s, r_eq_t0, r_ne_t0, r_eq_r0, r_ne_r0, r_eq_l0, r_ne_l0, r_start, gD, gsD, wipeD, br_not, br_true, br_false, br_dec, List.map_cons, List.map_nil, List.length_cons, List.length_nil, List.replicate_succ, List.replicate_zero, List.cons_append, List.nil_append, List.getElem?_cons_zero, List.getElem?_cons_succ, List.getElem?_nil, List.set_cons_zero, List.set_cons_succ, Nat.reduceAdd, Nat.reduceSub, Nat.reduceLeDiff, Nat.zero_add, updM_same, true_and, List.isEmpty_nil, List.isEmpty_cons, Bool.not_true, Bool.not_false, Bool.not_not]
    refine ⟨ns, rfl, hl, fun a c M1 _ _ h1 _ => ?_⟩
    simp only [q_v, q_c, q_tup, q_lst, q_op, q_nil, q_cons, q_tst, q_tru, q_andT, q_orT, q_notT, q_andV, q_orV, q_notV, q_ifE, q_next, q_seq, q_asg, q_drop, q_ret, q_retN, q_ifS, q_par, q_isi, q_blt, q_call, q_callK, q_kid, q_kswap, q_chain, q_neg, q_isN, q_notN, q_noO, q_someO, q_sli, q_rev, q_revM, q_bm, q_bm0, q_m1, q_seqI, q_rng, q_rng2, q_enum, q_zip, q_yes, q_put, e_bl, e_int, e_str, e_lst, e_n_non, e_n_bl, e_n_int, e_n_str, e_n_tup, e_n_lst, e_n_slst, e_n_dic, e_n_ref, e_seq_l, e_seq_s, e_seq_t, e_seq_z, e_rev_l, e_rev_s, e_i1, e_i2, e_l1, e_l1s, e_l2, e_p2, e_sl, e_o, e_ob, e_on, e_ml, e_md, e_c, e_tru_b, e_tru_n, e_tru_i, e_tru_t, e_tru_l, t_str_non, t_tup_non, t_int_non, t_bool_non, t_lst_non, t_dict_non, t_str_bl, t_tup_bl, t_int_bl, t_bool_bl, t_lst_bl, t_dict_bl, t_str_int, t_tup_int, t_int_int, t_bool_int, t_lst_int, t_dict_int, t_str_str, t_tup_str, t_int_str, t_bool_str, t_lst_str, t_dict_str, t_str_tup, t_tup_tup, t_int_tup, t_bool_tup, t_lst_tup, t_dict_tup, t_str_lst, t_tup_lst, t_int_lst, t_bool_lst, t_lst_lst, t_dict_lst, t_str_dic, t_tup_dic, t_int_dic, t_bool_dic, t_lst_dic, t_dict_dic, r_add_i, r_add_s, r_add_t, r_add_l, r_sub, r_mul, r_mul_l, r_fdiv, r_mod, r_pow, r_lt, r_ix_l, r_ix_t, r_ix_s, r_ix_rl, r_ix_rd, r_sl_l, r_sl_sl, r_sl_t, r_sl_s, r_len_l, r_len_sl, r_len_t, r_len_s, r_len_r, r_all, r_any, r_tuple_l, r_tuple_sl, r_tuple_t, r_tuple_r, r_list_l, r_list_sl, r_list_t, r_list_r, r_ord, r_repr, r_pop, r_app, r_ext, r_join, r_join_t, r_isl_r, r_isl_l, r_in, r_put_d, r_put_l, r_eq_i, r_eq_s, r_ne_i, r_ne_s, r_eq_t0, r_ne_t0, r_eq_r0, r_ne_r0, r_eq_l0, r_ne_l0, r_start, gD, gsD, wipeD, br_not, br_true, br_false, br_dec, List.map_cons, List.map_nil, List.length_cons, List.length_nil, List.replicate_succ, List.replicate_zero, List.cons_append, List.nil_append, List.getElem?_cons_zero, List.getElem?_cons_succ, List.getElem?_nil, List.set_cons_zero, List.set_cons_succ, Nat.reduceAdd, Nat.reduceSub, Nat.reduceLeDiff, Nat.zero_add, updM_same, true_and, List.isEmpty_nil, List.isEmpty_cons, Bool.not_true, Bool.not_false, Bool.not_not, q_for]
    refine ⟨c, h1, fun d M2 p h2 o2 => ?_⟩
    obtain ⟨x1, x2, x3, rfl, i1, i2, i3⟩ := p
    simp only [q_v, q_c, q_tup, q_lst, q_op, q_nil, q_cons, q_tst, q_tru, q_andT, q_orT, q_notT, q_andV, q_orV, q_notV, q_ifE, q_next, q_seq, q_asg, q_drop, q_ret, q_retN, q_ifS, q_par, q_isi, q_blt, q_call, q_callK, q_kid, q_kswap, q_chain, q_neg, q_isN, q_notN, q_noO, q_someO, q_sli, q_rev, q_revM, q_bm, q_bm0, q_m1, q_seqI, q_rng, q_rng2, q_enum, q_zip, q_yes, q_put, e_bl, e_int, e_str, e_lst, e_n_non, e_n_bl, e_n_int, e_n_str, e_n_tup, e_n_lst, e_n_slst, e_n_dic, e_n_ref, e_seq_l, e_seq_s, e_seq_t, e_seq_z, e_rev_l, e_rev_s, e_i1, e_i2, e_l1, e_l1s, e_l2, e_p2, e_sl, e_o, e_ob, e_on, e_ml, e_md, e_c, e_tru_b, e_tru_n, e_tru_i, e_tru_t, e_tru_l, t_str_non, t_tup_non, t_int_non, t_bool_non, t_lst_non, t_dict_non, t_str_bl, t_tup_bl, t_int_bl, t_bool_bl, t_lst_bl, t_dict_bl, t_str_int, t_tup_int, t_int_int, t_bool_int, t_lst_int, t_dict_int, t_str_str, t_tup_str, t_int_str, t_bool_str, t_lst_str, t_dict_str, t_str_tup, t_tup_tup, t_int_tup, t_bool_tup, t_lst_tup, t_dict_tup, t_str_lst, t_tup_lst, t_int_lst, t_bool_lst, t_lst_lst, t_dict_lst, t_str_dic, t_tup_dic, t_int_dic, t_bool_dic, t_lst_dic, t_dict_dic, r_add_i, r_add_s, r_add_t, r_add_l, r_sub, r_mul, r_mul_l, r_fdiv, r_mod, r_pow, r_lt, r_ix_l, r_ix_t, r_ix_s, r_ix_rl, r_ix_rd, r_sl_l, r_sl_sl, r_sl_t, r_sl_s, r_len_l, r_len_sl, r_len_t, r_len_s, r_len_r, r_all, r_any, r_tuple_l, r_tuple_sl, r_tuple_t, r_tuple_r, r_list_l, r_list_sl, r_list_t, r_list_r, r_ord, r_repr, r_pop, r_app, r_ext, r_join, r_join_t, r_isl_r, r_isl_l, r_in, r_put_d, r_put_l, r_eq_i, r_eq_s, r_ne_i, r_ne_s, r_eq_t0, r_ne_t0, r_eq_r0, r_ne_r0, r_eq_l0, r_ne_l0, r_start, gD, gsD, wipeD, br_not, br_true, br_false, br_dec, List.map_cons, List.map_nil, List.length_cons, List.length_nil, List.replicate_succ, List.replicate_zero, List.cons_append, List.nil_append, List.getElem?_cons_zero, List.getElem?_cons_succ, List.getElem?_nil, List.set_cons_zero, List.set_cons_succ, Nat.reduceAdd, Nat.reduceSub, Nat.reduceLeDiff, Nat.zero_add, updM_same, true_and, List.isEmpty_nil, List.isEmpty_cons, Bool.not_true, Bool.not_false, Bool.not_not]
    refine for_inv (fun i ds' M' => HandAt M' a c ∧ ∃ x, ds' = [some (.slst (ns.map D.int)), some (.ref a), x, none, none, none]) ⟨h2, none, rfl⟩ (fun i d ds' M' hi w => ?_) fun ds' M' w => ?_
    · obtain ⟨w1, x, rfl⟩ := w
      have p : Itm 1000000 100 d := by
        have hm := List.mem_of_getElem? hi
        simp only [List.mem_cons, List.not_mem_nil, or_false] at hm
        rcases hm with e | e | e
        · rw [e]; exact i1.mono (by decide) (by decide)
        · rw [e]; exact i2.mono (by decide) (by decide)
        · rw [e]; exact i3.mono (by decide) (by decide)
      simp only [q_v, q_c, q_tup, q_lst, q_op, q_nil, q_cons, q_tst, q_tru, q_andT, q_orT, q_notT, q_andV, q_orV, q_notV, q_ifE, q_next, q_seq, q_asg, q_drop, q_ret, q_retN, q_ifS, q_par, q_isi, q_blt, q_call, q_callK, q_kid, q_kswap, q_chain, q_neg, q_isN, q_notN, q_noO, q_someO, q_sli, q_rev, q_revM, q_bm, q_bm0, q_m1, q_seqI, q_rng, q_rng2, q_enum, q_zip, q_yes, q_put, e_bl, e_int, e_str, e_lst, e_n_non, e_n_bl, e_n_int, e_n_str, e_n_tup, e_n_lst, e_n_slst, e_n_dic, e_n_ref, e_seq_l, e_seq_s, e_seq_t, e_seq_z, e_rev_l, e_rev_s, e_i1, e_i2, e_l1, e_l1s, e_l2, e_p2, e_sl, e_o, e_ob, e_on, e_ml, e_md, e_c, e_tru_b, e_tru_n, e_tru_i, e_tru_t, e_tru_l, t_str_non, t_tup_non, t_int_non, t_bool_non, t_lst_non, t_dict_non, t_str_bl, t_tup_bl, t_int_bl, t_bool_bl, t_lst_bl, t_dict_bl, t_str_int, t_tup_int, t_int_int, t_bool_int, t_lst_int, t_dict_int, t_str_str, t_tup_str, t_int_str, t_bool_str, t_lst_str, t_dict_str, t_str_tup, t_tup_tup, t_int_tup, t_bool_tup, t_lst_tup, t_dict_tup, t_str_lst, t_tup_lst, t_int_lst, t_bool_lst, t_lst_lst, t_dict_lst, t_str_dic, t_tup_dic, t_int_dic, t_bool_dic, t_lst_dic, t_dict_dic, r_add_i, r_add_s, r_add_t, r_add_l, r_sub, r_mul, r_mul_l, r_fdiv, r_mod, r_pow, r_lt, r_ix_l, r_ix_t, r_ix_s, r_ix_rl, r_ix_rd, r_sl_l, r_sl_sl, r_sl_t, r_sl_s, r_len_l, r_len_sl, r_len_t, r_len_s, r_len_r, r_all, r_any, r_tuple_l, r_tuple_sl, r_tuple_t, r_tuple_r, r_list_l, r_list_sl, r_list_t, r_list_r, r_ord, r_repr, r_pop, r_app, r_ext, r_join, r_join_t, r_isl_r, r_isl_l, r_in, r_put_d, r_put_l, r_eq_i, r_eq_s, r_ne_i, r_ne_s, r_eq_t0, r_ne_t0, r_eq_r0, r_ne_r0, r_eq_l0, r_ne_l0, r_start, gD, gsD, wipeD, br_not, br_true, br_false, br_dec, List.map_cons, List.map_nil, List.length_cons, List.length_nil, List.replicate_succ, List.replicate_zero, List.cons_append, List.nil_append, List.getElem?_cons_zero, List.getElem?_cons_succ, List.getElem?_nil, List.set_cons_zero, List.set_cons_succ, Nat.reduceAdd, Nat.reduceSub, Nat.reduceLeDiff, Nat.zero_add, updM_same, true_and, List.isEmpty_nil, List.isEmpty_cons, Bool.not_true, Bool.not_false, Bool.not_not]
      exact ⟨p, w1, _, rfl⟩
    · obtain ⟨w1, x, rfl⟩ := w
      simp only [q_v, q_c, q_tup, q_lst, q_op, q_nil, q_cons, q_tst, q_tru, q_andT, q_orT, q_notT, q_andV, q_orV, q_notV, q_ifE, q_next, q_seq, q_asg, q_drop, q_ret, q_retN, q_ifS, q_par, q_isi, q_blt, q_call, q_callK, q_kid, q_kswap, q_chain, q_neg, q_isN, q_notN, q_noO, q_someO, q_sli, q_rev, q_revM, q_bm, q_bm0, q_m1, q_seqI, q_rng, q_rng2, q_enum, q_zip, q_yes, q_put, e_bl, e_int, e_str, e_lst, e_n_non, e_n_bl, e_n_int, e_n_str, e_n_tup, e_n_lst, e_n_slst, e_n_dic, e_n_ref, e_seq_l, e_seq_s, e_seq_t, e_seq_z, e_rev_l, e_rev_s, e_i1, e_i2, e_l1, e_l1s, e_l2, e_p2, e_sl, e_o, e_ob, e_on, e_ml, e_md, e_c, e_tru_b, e_tru_n, e_tru_i, e_tru_t, e_tru_l, t_str_non, t_tup_non, t_int_non, t_bool_non, t_lst_non, t_dict_non, t_str_bl, t_tup_bl, t_int_bl, t_bool_bl, t_lst_bl, t_dict_bl, t_str_int, t_tup_int, t_int_int, t_bool_int, t_lst_int, t_dict_int, t_str_str, t_tup_str, t_int_str, t_bool_str, t_lst_str, t_dict_str, t_str_tup, t_tup_tup, t_int_tup, t_bool_tup, t_lst_tup, t_dict_tup, t_str_lst, t_tup_lst, t_int_lst, t_bool_lst, t_lst_lst, t_dict_lst, t_str_dic, t_tup_dic, t_int_dic, t_bool_dic, t_lst_dic, t_dict_dic, r_add_i, r_add_s, r_add_t, r_add_l, r_sub, r_mul, r_mul_l, r_fdiv, r_mod, r_pow, r_lt, r_ix_l, r_ix_t, r_ix_s, r_ix_rl, r_ix_rd, r_sl_l, r_sl_sl, r_sl_t, r_sl_s, r_len_l, r_len_sl, r_len_t, r_len_s, r_len_r, r_all, r_any, r_tuple_l, r_tuple_sl, r_tuple_t, r_tuple_r, r_list_l, r_list_sl, r_list_t, r_list_r, r_ord, r_repr, r_pop, r_app, r_ext, r_join, r_join_t, r_isl_r, r_isl_l, r_in, r_put_d, r_put_l, r_eq_i, r_eq_s, r_ne_i, r_ne_s, r_eq_t0, r_ne_t0, r_eq_r0, r_ne_r0, r_eq_l0, r_ne_l0, r_start, gD, gsD, wipeD, br_not, br_true, br_false, br_dec, List.map_cons, List.map_nil, List.length_cons, List.length_nil, List.replicate_succ, List.replicate_zero, List.cons_append, List.nil_append, List.getElem?_cons_zero, List.getElem?_cons_succ, List.getElem?_nil, List.set_cons_zero, List.set_cons_succ, Nat.reduceAdd, Nat.reduceSub, Nat.reduceLeDiff, Nat.zero_add, updM_same, true_and, List.isEmpty_nil, List.isEmpty_cons, Bool.not_true, Bool.not_false, Bool.not_not, q_for]
      refine ⟨by decide, for_inv (fun i ds' M' => HandAt M' a c ∧ ∃ x y z w, ds' = [some (.slst (ns.map D.int)), some (.ref a), x, y, z, w]) ⟨w1, x, _, _, _, rfl⟩ (fun i d ds' M' hi w => ?_) fun ds' M' w => ?_⟩
      · obtain ⟨w1, x, y, z, w, rfl⟩ := w
        simp only [q_v, q_c, q_tup, q_lst, q_op, q_nil, q_cons, q_tst, q_tru, q_andT, q_orT, q_notT, q_andV, q_orV, q_notV, q_ifE, q_next, q_seq, q_asg, q_drop, q_ret, q_retN, q_ifS, q_par, q_isi, q_blt, q_call, q_callK, q_kid, q_kswap, q_chain, q_neg, q_isN, q_notN, q_noO, q_someO, q_sli, q_rev, q_revM, q_bm, q_bm0, q_m1, q_seqI, q_rng, q_rng2, q_enum, q_zip, q_yes, q_put, e_bl, e_int, e_str, e_lst, e_n_non, e_n_bl, e_n_int, e_n_str, e_n_tup, e_n_lst, e_n_slst, e_n_dic, e_n_ref, e_seq_l, e_seq_s, e_seq_t, e_seq_z, e_rev_l, e_rev_s, e_i1, e_i2, e_l1, e_l1s, e_l2, e_p2, e_sl, e_o, e_ob, e_on, e_ml, e_md, e_c, e_tru_b, e_tru_n, e_tru_i, e_tru_t, e_tru_l, t_str_non, t_tup_non, t_int_non, t_bool_non, t_lst_non, t_dict_non, t_str_bl, t_tup_bl, t_int_bl, t_bool_bl, t_lst_bl, t_dict_bl, t_str_int, t_tup_int, t_int_int, t_bool_int, t_lst_int, t_dict_int, t_str_str, t_tup_str, t_int_str, t_bool_str, t_lst_str, t_dict_str, t_str_tup, t_tup_tup, t_int_tup, t_bool_tup, t_lst_tup, t_dict_tup, t_str_lst, t_tup_lst, t_int_lst, t_bool_lst, t_lst_lst, t_dict_lst, t_str_dic, t_tup_dic, t_int_dic, t_bool_dic, t_lst_dic, t_dict_dic, r_add_i, r_add_s, r_add_t, r_add_l, r_sub, r_mul, r_mul_l, r_fdiv, r_mod, r_pow, r_lt, r_ix_l, r_ix_t, r_ix_s, r_ix_rl, r_ix_rd, r_sl_l, r_sl_sl, r_sl_t, r_sl_s, r_len_l, r_len_sl, r_len_t, r_len_s, r_len_r, r_all, r_any, r_tuple_l, r_tuple_sl, r_tuple_t, r_tuple_r, r_list_l, r_list_sl, r_list_t, r_list_r, r_ord, r_repr, r_pop, r_app, r_ext, r_join, r_join_t, r_isl_r, r_isl_l, r_in, r_put_d, r_put_l, r_eq_i, r_eq_s, r_ne_i, r_ne_s, r_eq_t0, r_ne_t0, r_eq_r0, r_ne_r0, r_eq_l0, r_ne_l0, r_start, gD, gsD, wipeD, br_not, br_true, br_false, br_dec, List.map_cons, List.map_nil, List.length_cons, List.length_nil, List.replicate_succ, List.replicate_zero, List.cons_append, List.nil_append, List.getElem?_cons_zero, List.getElem?_cons_succ, List.getElem?_nil, List.set_cons_zero, List.set_cons_succ, Nat.reduceAdd, Nat.reduceSub, Nat.reduceLeDiff, Nat.zero_add, updM_same, true_and, List.isEmpty_nil, List.isEmpty_cons, Bool.not_true, Bool.not_false, Bool.not_not, q_for]
        refine ⟨c, w1, fun d2 M3 p h3 o3 => ?_⟩
        obtain ⟨ps, rfl, p⟩ := p
        refine ⟨c, h3, Nat.succ_pos _, (by show 5 ≤ 1000000; decide), fun d4 M4 hm h4 o4 => ?_⟩
        have hk : ∃ n : Nat, d4 = .int n ∧ n ≤ 2 := by
          simp only [List.mem_cons, List.not_mem_nil, or_false] at hm
          rcases hm with e | e | e | e | e
          · exact ⟨0, e, by decide⟩
          · exact ⟨0, e, by decide⟩
          · exact ⟨1, e, by decide⟩
          · exact ⟨1, e, by decide⟩
          · exact ⟨2, e, by decide⟩
        obtain ⟨n, rfl, hn⟩ := hk
        simp only [q_v, q_c, q_tup, q_lst, q_op, q_nil, q_cons, q_tst, q_tru, q_andT, q_orT, q_notT, q_andV, q_orV, q_notV, q_ifE, q_next, q_seq, q_asg, q_drop, q_ret, q_retN, q_ifS, q_par, q_isi, q_blt, q_call, q_callK, q_kid, q_kswap, q_chain, q_neg, q_isN, q_notN, q_noO, q_someO, q_sli, q_rev, q_revM, q_bm, q_bm0, q_m1, q_seqI, q_rng, q_rng2, q_enum, q_zip, q_yes, q_put, e_bl, e_int, e_str, e_lst, e_n_non, e_n_bl, e_n_int, e_n_str, e_n_tup, e_n_lst, e_n_slst, e_n_dic, e_n_ref, e_seq_l, e_seq_s, e_seq_t, e_seq_z, e_rev_l, e_rev_s, e_i1, e_i2, e_l1, e_l1s, e_l2, e_p2, e_sl, e_o, e_ob, e_on, e_ml, e_md, e_c, e_tru_b, e_tru_n, e_tru_i, e_tru_t, e_tru_l, t_str_non, t_tup_non, t_int_non, t_bool_non, t_lst_non, t_dict_non, t_str_bl, t_tup_bl, t_int_bl, t_bool_bl, t_lst_bl, t_dict_bl, t_str_int, t_tup_int, t_int_int, t_bool_int, t_lst_int, t_dict_int, t_str_str, t_tup_str, t_int_str, t_bool_str, t_lst_str, t_dict_str, t_str_tup, t_tup_tup, t_int_tup, t_bool_tup, t_lst_tup, t_dict_tup, t_str_lst, t_tup_lst, t_int_lst, t_bool_lst, t_lst_lst, t_dict_lst, t_str_dic, t_tup_dic, t_int_dic, t_bool_dic, t_lst_dic, t_dict_dic, r_add_i, r_add_s, r_add_t, r_add_l, r_sub, r_mul, r_mul_l, r_fdiv, r_mod, r_pow, r_lt, r_ix_l, r_ix_t, r_ix_s, r_ix_rl, r_ix_rd, r_sl_l, r_sl_sl, r_sl_t, r_sl_s, r_len_l, r_len_sl, r_len_t, r_len_s, r_len_r, r_all, r_any, r_tuple_l, r_tuple_sl, r_tuple_t, r_tuple_r, r_list_l, r_list_sl, r_list_t, r_list_r, r_ord, r_repr, r_pop, r_app, r_ext, r_join, r_join_t, r_isl_r, r_isl_l, r_in, r_put_d, r_put_l, r_eq_i, r_eq_s, r_ne_i, r_ne_s, r_eq_t0, r_ne_t0, r_eq_r0, r_ne_r0, r_eq_l0, r_ne_l0, r_start, gD, gsD, wipeD, br_not, br_true, br_false, br_dec, List.map_cons, List.map_nil, List.length_cons, List.length_nil, List.replicate_succ, List.replicate_zero, List.cons_append, List.nil_append, List.getElem?_cons_zero, List.getElem?_cons_succ, List.getElem?_nil, List.set_cons_zero, List.set_cons_succ, Nat.reduceAdd, Nat.reduceSub, Nat.reduceLeDiff, Nat.zero_add, updM_same, true_and, List.isEmpty_nil, List.isEmpty_cons, Bool.not_true, Bool.not_false, Bool.not_not]
        refine ⟨by omega, for_inv (fun i ds' M' => HandAt M' a c ∧ ∃ d y z w, ds' = [some (.slst (ns.map D.int)), some (.ref a), some d, y, z, w] ∧ Itm (10000 * 4 ^ i) (5 + 3 * i) d) ⟨h4, _, _, _, _, rfl, (Itm.tup p).mono (by decide) (by decide)⟩ (fun i d ds' M' hi w => ?_) fun ds' M' w => ?_⟩
        · obtain ⟨w1, d, y, z, w, rfl, it⟩ := w
          have hi' : i < n := by
            have := (List.getElem?_eq_some_iff.mp hi).1
            rw [List.length_map, List.length_range] at this
            omega
          have h01 : i = 0 ∨ i = 1 := by omega
          cases d with
          | tup ys =>
            simp only [q_v, q_c, q_tup, q_lst, q_op, q_nil, q_cons, q_tst, q_tru, q_andT, q_orT, q_notT, q_andV, q_orV, q_notV, q_ifE, q_next, q_seq, q_asg, q_drop, q_ret, q_retN, q_ifS, q_par, q_isi, q_blt, q_call, q_callK, q_kid, q_kswap, q_chain, q_neg, q_isN, q_notN, q_noO, q_someO, q_sli, q_rev, q_revM, q_bm, q_bm0, q_m1, q_seqI, q_rng, q_rng2, q_enum, q_zip, q_yes, q_put, e_bl, e_int, e_str, e_lst, e_n_non, e_n_bl, e_n_int, e_n_str, e_n_tup, e_n_lst, e_n_slst, e_n_dic, e_n_ref, e_seq_l, e_seq_s, e_seq_t, e_seq_z, e_rev_l, e_rev_s, e_i1, e_i2, e_l1, e_l1s, e_l2, e_p2, e_sl, e_o, e_ob, e_on, e_ml, e_md, e_c, e_tru_b, e_tru_n, e_tru_i, e_tru_t, e_tru_l, t_str_non, t_tup_non, t_int_non, t_bool_non, t_lst_non, t_dict_non, t_str_bl, t_tup_bl, t_int_bl, t_bool_bl, t_lst_bl, t_dict_bl, t_str_int, t_tup_int, t_int_int, t_bool_int, t_lst_int, t_dict_int, t_str_str, t_tup_str, t_int_str, t_bool_str, t_lst_str, t_dict_str, t_str_tup, t_tup_tup, t_int_tup, t_bool_tup, t_lst_tup, t_dict_tup, t_str_lst, t_tup_lst, t_int_lst, t_bool_lst, t_lst_lst, t_dict_lst, t_str_dic, t_tup_dic, t_int_dic, t_bool_dic, t_lst_dic, t_dict_dic, r_add_i, r_add_s, r_add_t, r_add_l, r_sub, r_mul, r_mul_l, r_fdiv, r_mod, r_pow, r_lt, r_ix_l, r_ix_t, r_ix_s, r_ix_rl, r_ix_rd, r_sl_l, r_sl_sl, r_sl_t, r_sl_s, r_len_l, r_len_sl, r_len_t, r_len_s, r_len_r, r_all, r_any, r_tuple_l, r_tuple_sl, r_tuple_t, r_tuple_r, r_list_l, r_list_sl, r_list_t, r_list_r, r_ord, r_repr, r_pop, r_app, r_ext, r_join, r_join_t, r_isl_r, r_isl_l, r_in, r_put_d, r_put_l, r_eq_i, r_eq_s, r_ne_i, r_ne_s, r_eq_t0, r_ne_t0, r_eq_r0, r_ne_r0, r_eq_l0, r_ne_l0, r_start, gD, gsD, wipeD, br_not, br_true, br_false, br_dec, List.map_cons, List.map_nil, List.length_cons, List.length_nil, List.replicate_succ, List.replicate_zero, List.cons_append, List.nil_append, List.getElem?_cons_zero, List.getElem?_cons_succ, List.getElem?_nil, List.set_cons_zero, List.set_cons_succ, Nat.reduceAdd, Nat.reduceSub, Nat.reduceLeDiff, Nat.zero_add, updM_same, true_and, List.isEmpty_nil, List.isEmpty_cons, Bool.not_true, Bool.not_false, Bool.not_not]
            refine ⟨c, _, _, w1, it.of_tup, by rcases h01 with e | e <;> rw [e] <;> decide, fun d M5 q h5 o5 => ?_⟩
            refine ⟨h5, _, _, _, _, rfl, q.mono ?_ (by omega)⟩
            rcases h01 with e | e <;> rw [e] <;> decide
          | slst _ => exact absurd it.no (by simp [nos])
          | ref _ => exact absurd it.no (by simp [nos])
          | ty _ => exact absurd it.no (by simp [nos])
          | _ =>
            simp only [q_v, q_c, q_tup, q_lst, q_op, q_nil, q_cons, q_tst, q_tru, q_andT, q_orT, q_notT, q_andV, q_orV, q_notV, q_ifE, q_next, q_seq, q_asg, q_drop, q_ret, q_retN, q_ifS, q_par, q_isi, q_blt, q_call, q_callK, q_kid, q_kswap, q_chain, q_neg, q_isN, q_notN, q_noO, q_someO, q_sli, q_rev, q_revM, q_bm, q_bm0, q_m1, q_seqI, q_rng, q_rng2, q_enum, q_zip, q_yes, q_put, e_bl, e_int, e_str, e_lst, e_n_non, e_n_bl, e_n_int, e_n_str, e_n_tup, e_n_lst, e_n_slst, e_n_dic, e_n_ref, e_seq_l, e_seq_s, e_seq_t, e_seq_z, e_rev_l, e_rev_s, e_i1, e_i2, e_l1, e_l1s, e_l2, e_p2, e_sl, e_o, e_ob, e_on, e_ml, e_md, e_c, e_tru_b, e_tru_n, e_tru_i, e_tru_t, e_tru_l, t_str_non, t_tup_non, t_int_non, t_bool_non, t_lst_non, t_dict_non, t_str_bl, t_tup_bl, t_int_bl, t_bool_bl, t_lst_bl, t_dict_bl, t_str_int, t_tup_int, t_int_int, t_bool_int, t_lst_int, t_dict_int, t_str_str, t_tup_str, t_int_str, t_bool_str, t_lst_str, t_dict_str, t_str_tup, t_tup_tup, t_int_tup, t_bool_tup, t_lst_tup, t_dict_tup, t_str_lst, t_tup_lst, t_int_lst, t_bool_lst, t_lst_lst, t_dict_lst, t_str_dic, t_tup_dic, t_int_dic, t_bool_dic, t_lst_dic, t_dict_dic, r_add_i, r_add_s, r_add_t, r_add_l, r_sub, r_mul, r_mul_l, r_fdiv, r_mod, r_pow, r_lt, r_ix_l, r_ix_t, r_ix_s, r_ix_rl, r_ix_rd, r_sl_l, r_sl_sl, r_sl_t, r_sl_s, r_len_l, r_len_sl, r_len_t, r_len_s, r_len_r, r_all, r_any, r_tuple_l, r_tuple_sl, r_tuple_t, r_tuple_r, r_list_l, r_list_sl, r_list_t, r_list_r, r_ord, r_repr, r_pop, r_app, r_ext, r_join, r_join_t, r_isl_r, r_isl_l, r_in, r_put_d, r_put_l, r_eq_i, r_eq_s, r_ne_i, r_ne_s, r_eq_t0, r_ne_t0, r_eq_r0, r_ne_r0, r_eq_l0, r_ne_l0, r_start, gD, gsD, wipeD, br_not, br_true, br_false, br_dec, List.map_cons, List.map_nil, List.length_cons, List.length_nil, List.replicate_succ, List.replicate_zero, List.cons_append, List.nil_append, List.getElem?_cons_zero, List.getElem?_cons_succ, List.getElem?_nil, List.set_cons_zero, List.set_cons_succ, Nat.reduceAdd, Nat.reduceSub, Nat.reduceLeDiff, Nat.zero_add, updM_same, true_and, List.isEmpty_nil, List.isEmpty_cons, Bool.not_true, Bool.not_false, Bool.not_not]
            refine ⟨c, w1, fun d M5 q h5 o5 => ⟨h5, _, _, _, _, rfl, Itm.mono q ?_ (by omega)⟩⟩
            rcases h01 with e | e <;> rw [e] <;> decide
        · obtain ⟨w1, d, y, z, w, rfl, it⟩ := w
          rw [List.length_map, List.length_range] at it
          have it' : Itm 200000 20 d := by
            have : n = 0 ∨ n = 1 ∨ n = 2 := by omega
            rcases this with e | e | e <;> (subst e; exact it.mono (by decide) (by decide))
          simp only [q_v, q_c, q_tup, q_lst, q_op, q_nil, q_cons, q_tst, q_tru, q_andT, q_orT, q_notT, q_andV, q_orV, q_notV, q_ifE, q_next, q_seq, q_asg, q_drop, q_ret, q_retN, q_ifS, q_par, q_isi, q_blt, q_call, q_callK, q_kid, q_kswap, q_chain, q_neg, q_isN, q_notN, q_noO, q_someO, q_sli, q_rev, q_revM, q_bm, q_bm0, q_m1, q_seqI, q_rng, q_rng2, q_enum, q_zip, q_yes, q_put, e_bl, e_int, e_str, e_lst, e_n_non, e_n_bl, e_n_int, e_n_str, e_n_tup, e_n_lst, e_n_slst, e_n_dic, e_n_ref, e_seq_l, e_seq_s, e_seq_t, e_seq_z, e_rev_l, e_rev_s, e_i1, e_i2, e_l1, e_l1s, e_l2, e_p2, e_sl, e_o, e_ob, e_on, e_ml, e_md, e_c, e_tru_b, e_tru_n, e_tru_i, e_tru_t, e_tru_l, t_str_non, t_tup_non, t_int_non, t_bool_non, t_lst_non, t_dict_non, t_str_bl, t_tup_bl, t_int_bl, t_bool_bl, t_lst_bl, t_dict_bl, t_str_int, t_tup_int, t_int_int, t_bool_int, t_lst_int, t_dict_int, t_str_str, t_tup_str, t_int_str, t_bool_str, t_lst_str, t_dict_str, t_str_tup, t_tup_tup, t_int_tup, t_bool_tup, t_lst_tup, t_dict_tup, t_str_lst, t_tup_lst, t_int_lst, t_bool_lst, t_lst_lst, t_dict_lst, t_str_dic, t_tup_dic, t_int_dic, t_bool_dic, t_lst_dic, t_dict_dic, r_add_i, r_add_s, r_add_t, r_add_l, r_sub, r_mul, r_mul_l, r_fdiv, r_mod, r_pow, r_lt, r_ix_l, r_ix_t, r_ix_s, r_ix_rl, r_ix_rd, r_sl_l, r_sl_sl, r_sl_t, r_sl_s, r_len_l, r_len_sl, r_len_t, r_len_s, r_len_r, r_all, r_any, r_tuple_l, r_tuple_sl, r_tuple_t, r_tuple_r, r_list_l, r_list_sl, r_list_t, r_list_r, r_ord, r_repr, r_pop, r_app, r_ext, r_join, r_join_t, r_isl_r, r_isl_l, r_in, r_put_d, r_put_l, r_eq_i, r_eq_s, r_ne_i, r_ne_s, r_eq_t0, r_ne_t0, r_eq_r0, r_ne_r0, r_eq_l0, r_ne_l0, r_start, gD, gsD, wipeD, br_not, br_true, br_false, br_dec, List.map_cons, List.map_nil, List.length_cons, List.length_nil, List.replicate_succ, List.replicate_zero, List.cons_append, List.nil_append, List.getElem?_cons_zero, List.getElem?_cons_succ, List.getElem?_nil, List.set_cons_zero, List.set_cons_succ, Nat.reduceAdd, Nat.reduceSub, Nat.reduceLeDiff, Nat.zero_add, updM_same, true_and, List.isEmpty_nil, List.isEmpty_cons, Bool.not_true, Bool.not_false, Bool.not_not, q_for]
          refine ⟨c, w1, fun e1 M5 p1 h5 _ => ⟨c, h5, fun e2 M6 p2 h6 _ => ⟨c, h6, fun e3 M7 p3 h7 _ => ⟨c, h7, fun e4 M8 p4 h8 _ => ⟨c, h8, fun e5 M9 p5 h9 _ => ?_⟩⟩⟩⟩⟩
          refine for_inv (fun i ds' M' => HandAt M' a c ∧ ∃ x y z w, ds' = [some (.slst (ns.map D.int)), some (.ref a), x, y, z, w]) ⟨h9, _, _, _, _, rfl⟩ (fun i d ds' M' hi w => ?_) fun ds' M' w => w
          obtain ⟨w1, x, y, z, w, rfl⟩ := w
          have p : Itm 1000000 100 d := by
            have hm := List.mem_of_getElem? hi
            simp only [List.mem_cons, List.not_mem_nil, or_false] at hm
            rcases hm with e | e | e | e | e
            · rw [e]; exact it'.mono (by decide) (by decide)
            · rw [e]; exact p1.mono (by decide) (by decide)
            · rw [e]; exact p2.mono (by decide) (by decide)
            · rw [e]; exact (Itm.tup (one_Itl p3)).mono (by decide) (by decide)
            · rw [e]; exact (Itm.tup (Itl.cons (Itm.mono p4 (Nat.le_refl _) (by decide : 0 ≤ 2)) (one_Itl p5))).mono (by decide) (by decide)
          simp only [q_v, q_c, q_tup, q_lst, q_op, q_nil, q_cons, q_tst, q_tru, q_andT, q_orT, q_notT, q_andV, q_orV, q_notV, q_ifE, q_next, q_seq, q_asg, q_drop, q_ret, q_retN, q_ifS, q_par, q_isi, q_blt, q_call, q_callK, q_kid, q_kswap, q_chain, q_neg, q_isN, q_notN, q_noO, q_someO, q_sli, q_rev, q_revM, q_bm, q_bm0, q_m1, q_seqI, q_rng, q_rng2, q_enum, q_zip, q_yes, q_put, e_bl, e_int, e_str, e_lst, e_n_non, e_n_bl, e_n_int, e_n_str, e_n_tup, e_n_lst, e_n_slst, e_n_dic, e_n_ref, e_seq_l, e_seq_s, e_seq_t, e_seq_z, e_rev_l, e_rev_s, e_i1, e_i2, e_l1, e_l1s, e_l2, e_p2, e_sl, e_o, e_ob, e_on, e_ml, e_md, e_c, e_tru_b, e_tru_n, e_tru_i, e_tru_t, e_tru_l, t_str_non, t_tup_non, t_int_non, t_bool_non, t_lst_non, t_dict_non, t_str_bl, t_tup_bl, t_int_bl, t_bool_bl, t_lst_bl, t_dict_bl, t_str_int, t_tup_int, t_int_int, t_bool_int, t_lst_int, t_dict_int, t_str_str, t_tup_str, t_int_str, t_bool_str, t_lst_str, t_dict_str, t_str_tup, t_tup_tup, t_int_tup, t_bool_tup, t_lst_tup, t_dict_tup, t_str_lst, t_tup_lst, t_int_lst, t_bool_lst, t_lst_lst, t_dict_lst, t_str_dic, t_tup_dic, t_int_dic, t_bool_dic, t_lst_dic, t_dict_dic, r_add_i, r_add_s, r_add_t, r_add_l, r_sub, r_mul, r_mul_l, r_fdiv, r_mod, r_pow, r_lt, r_ix_l, r_ix_t, r_ix_s, r_ix_rl, r_ix_rd, r_sl_l, r_sl_sl, r_sl_t, r_sl_s, r_len_l, r_len_sl, r_len_t, r_len_s, r_len_r, r_all, r_any, r_tuple_l, r_tuple_sl, r_tuple_t, r_tuple_r, r_list_l, r_list_sl, r_list_t, r_list_r, r_ord, r_repr, r_pop, r_app, r_ext, r_join, r_join_t, r_isl_r, r_isl_l, r_in, r_put_d, r_put_l, r_eq_i, r_eq_s, r_ne_i, r_ne_s, r_eq_t0, r_ne_t0, r_eq_r0, r_ne_r0, r_eq_l0, r_ne_l0, r_start, gD, gsD, wipeD, br_not, br_true, br_false, br_dec, List.map_cons, List.map_nil, List.length_cons, List.length_nil, List.replicate_succ, List.replicate_zero, List.cons_append, List.nil_append, List.getElem?_cons_zero, List.getElem?_cons_succ, List.getElem?_nil, List.set_cons_zero, List.set_cons_succ, Nat.reduceAdd, Nat.reduceSub, Nat.reduceLeDiff, Nat.zero_add, updM_same, true_and, List.isEmpty_nil, List.isEmpty_cons, Bool.not_true, Bool.not_false, Bool.not_not]
          exact ⟨p, w1, _, _, _, _, rfl⟩
      · obtain ⟨w1, x, y, z, w, rfl⟩ := w
        simp only [q_v, q_c, q_tup, q_lst, q_op, q_nil, q_cons, q_tst, q_tru, q_andT, q_orT, q_notT, q_andV, q_orV, q_notV, q_ifE, q_next, q_seq, q_asg, q_drop, q_ret, q_retN, q_ifS, q_par, q_isi, q_blt, q_call, q_callK, q_kid, q_kswap, q_chain, q_neg, q_isN, q_notN, q_noO, q_someO, q_sli, q_rev, q_revM, q_bm, q_bm0, q_m1, q_seqI, q_rng, q_rng2, q_enum, q_zip, q_yes, q_put, e_bl, e_int, e_str, e_lst, e_n_non, e_n_bl, e_n_int, e_n_str, e_n_tup, e_n_lst, e_n_slst, e_n_dic, e_n_ref, e_seq_l, e_seq_s, e_seq_t, e_seq_z, e_rev_l, e_rev_s, e_i1, e_i2, e_l1, e_l1s, e_l2, e_p2, e_sl, e_o, e_ob, e_on, e_ml, e_md, e_c, e_tru_b, e_tru_n, e_tru_i, e_tru_t, e_tru_l, t_str_non, t_tup_non, t_int_non, t_bool_non, t_lst_non, t_dict_non, t_str_bl, t_tup_bl, t_int_bl, t_bool_bl, t_lst_bl, t_dict_bl, t_str_int, t_tup_int, t_int_int, t_bool_int, t_lst_int, t_dict_int, t_str_str, t_tup_str, t_int_str, t_bool_str, t_lst_str, t_dict_str, t_str_tup, t_tup_tup, t_int_tup, t_bool_tup, t_lst_tup, t_dict_tup, t_str_lst, t_tup_lst, t_int_lst, t_bool_lst, t_lst_lst, t_dict_lst, t_str_dic, t_tup_dic, t_int_dic, t_bool_dic, t_lst_dic, t_dict_dic, r_add_i, r_add_s, r_add_t, r_add_l, r_sub, r_mul, r_mul_l, r_fdiv, r_mod, r_pow, r_lt, r_ix_l, r_ix_t, r_ix_s, r_ix_rl, r_ix_rd, r_sl_l, r_sl_sl, r_sl_t, r_sl_s, r_len_l, r_len_sl, r_len_t, r_len_s, r_len_r, r_all, r_any, r_tuple_l, r_tuple_sl, r_tuple_t, r_tuple_r, r_list_l, r_list_sl, r_list_t, r_list_r, r_ord, r_repr, r_pop, r_app, r_ext, r_join, r_join_t, r_isl_r, r_isl_l, r_in, r_put_d, r_put_l, r_eq_i, r_eq_s, r_ne_i, r_ne_s, r_eq_t0, r_ne_t0, r_eq_r0, r_ne_r0, r_eq_l0, r_ne_l0, r_start, gD, gsD, wipeD, br_not, br_true, br_false, br_dec, List.map_cons, List.map_nil, List.length_cons, List.length_nil, List.replicate_succ, List.replicate_zero, List.cons_append, List.nil_append, List.getElem?_cons_zero, List.getElem?_cons_succ, List.getElem?_nil, List.set_cons_zero, List.set_cons_succ, Nat.reduceAdd, Nat.reduceSub, Nat.reduceLeDiff, Nat.zero_add, updM_same, true_and, List.isEmpty_nil, List.isEmpty_cons, Bool.not_true, Bool.not_false, Bool.not_not]
        exact hF _
  · exact h.elim
theorem at_end : ∀ (ns : List Int) (M : Mp), ns.length ≤ 63 → R_law [.slst (ns.map D.int)] M fun d _ => d = .bl true := fun ns M h => ⟨ns, rfl, h, fun _ => rfl⟩
end K02

namespace K02
open PySem PySem.Spec PyProof.Rows L2 Fx
def topS (i : Nat) : Stmt := PySem.Challenge.pw_finishable_k02_names_kinds_and_patterns.main.body.getD i (.Pass ⟨0, 0, 0, 0⟩)
abbrev s_is_name : Stmt := topS 4
theorem sc_is_name : FnScope ["thing", "sign"] ["thing"] (defScope s_is_name) := ⟨rfl, rfl, rfl, by decide +kernel, rfl, by decide +kernel, by decide +kernel⟩
theorem dr_is_name {P : Program} {w : World} {K : PySem.W.Frag} {mg : Str → Option Value} {base : Heap} {f : Addr} {cdv : Value} {A : Around} {outer : List PySem.Env} {s : Shared} {H : Hp} {E : XK} (m_all : mg "all" = none) (m_len : mg "len" = none) (m_isinstance : mg "isinstance" = none) (m_str : mg "str" = none) (g_LETTERS : GV K mg "LETTERS" (.str "abcdefghijklmnopqrstuvwxyz")) (g_LONGEST_NAME : GV K mg "LONGEST_NAME" (.int 8))
    (gd : (A.deeper (envOfC "is_name" (defScope s_is_name) s.heap.objs.size f cdv)).guards = some []) (hr : Room 0 (A.deeper (envOfC "is_name" (defScope s_is_name) s.heap.objs.size f cdv))) :
    DSs (cxOf CX0 P w K mg base ["thing", "sign"] "is_name" (defScope s_is_name) f cdv A outer s H E).nox (defBody s_is_name) (T_is_name) :=
  (dss_cons (ds_if (dt_w (dw_or (dt_not (dt_val (de_isi .str (dv 0) (by rfl) m_isinstance (by rfl) m_str (by decide +kernel)))) (dw_or1 (dt_not (dt_chain or_le or_le de_int (de_blt cb_len (by rfl) m_len (by decide +kernel) (da_cons (dv 0) da_nil)) (dk g_LONGEST_NAME)))))) (dss_one (ds_ret de_bl)) dss_nil)
    (dss_one (ds_ret (de_blt (cb_all rfl) (by rfl) m_all (by decide +kernel) (da_cons (de_lc (t := (.nm 1)) [1] rfl sc_is_name.nd (di_seq (dv 0)) (blkOk_by (own := [("sign", 1)]) (N := ["thing", "sign"]) (sc := defScope s_is_name) (by decide +kernel)) (by simp [slots, slotss]) (fun _ _ _ _ _ => (dg_nm 1 sc_is_name.nd)) (fun _ _ _ _ _ => dts_nil) (fun _ _ _ _ _ => (de_cmp or_in (dv 1) (dk g_LETTERS) (by rfl)))) da_nil)))))
theorem ok_is_name {P : Program} {w : World} {K : PySem.W.Frag} {mg : Str → Option Value} {base : Heap} {f : Addr} {fd : FuncData} {R : RD} (m_all : mg "all" = none) (m_len : mg "len" = none) (m_isinstance : mg "isinstance" = none) (m_str : mg "str" = none) (g_LETTERS : GV K mg "LETTERS" (.str "abcdefghijklmnopqrstuvwxyz")) (g_LONGEST_NAME : GV K mg "LONGEST_NAME" (.int 8)) (Fu : Fun K "is_name" "is_name" s_is_name f fd) (bi : Binds K fd ["thing"] []) (gm : mg "is_name" = some (.ref f)) (hn : ∀ xs M F, R xs M F → xs.length = 1)
    (hR : ∀ ds M F, R ds M F → T_is_name { nx := fun _ M' => F .non M', rt := F } (startD 2 ds) M) : FnH P w K mg base 1 "is_name" f fd ["thing"] R :=
  ⟨fnd Fu sc_is_name fun cdv A outer s H E gd hr => ⟨_, dr_is_name m_all m_len m_isinstance m_str g_LETTERS g_LONGEST_NAME gd hr, fun ds M F _ h => hR ds M F h⟩, hn, gm, Fu.kp, bi⟩
abbrev s_has_hole : Stmt := topS 7
theorem sc_has_hole : FnScope ["pattern"] ["pattern"] (defScope s_has_hole) := ⟨rfl, rfl, rfl, by decide +kernel, rfl, by decide +kernel, by decide +kernel⟩
theorem dr_has_hole {P : Program} {w : World} {K : PySem.W.Frag} {mg : Str → Option Value} {base : Heap} {f : Addr} {cdv : Value} {A : Around} {outer : List PySem.Env} {s : Shared} {H : Hp} {E : XK} (m_isinstance : mg "isinstance" = none) (m_str : mg "str" = none) (g_HOLE : GV K mg "HOLE" (.str "T"))
    (gd : (A.deeper (envOfC "has_hole" (defScope s_has_hole) s.heap.objs.size f cdv)).guards = some []) (hr : Room 0 (A.deeper (envOfC "has_hole" (defScope s_has_hole) s.heap.objs.size f cdv))) :
    DSs (cxOf CX0 P w K mg base ["pattern"] "has_hole" (defScope s_has_hole) f cdv A outer s H E).nox (defBody s_has_hole) (T_has_hole) :=
  (dss_one (ds_ret (de_and (de_isi .str (de_ix (or_ix (hu_of hr)) (dv 0) (de_neg de_int) (fun _ _ => rfl)) (by rfl) m_isinstance (by rfl) m_str (by decide +kernel)) (de_one (de_cmp (or_eq hr.units) (de_ix (or_ix (hu_of hr)) (dv 0) (de_neg de_int) (fun _ _ => rfl)) (dk g_HOLE) (by rfl))))))
theorem ok_has_hole {P : Program} {w : World} {K : PySem.W.Frag} {mg : Str → Option Value} {base : Heap} {f : Addr} {fd : FuncData} {R : RD} (m_isinstance : mg "isinstance" = none) (m_str : mg "str" = none) (g_HOLE : GV K mg "HOLE" (.str "T")) (Fu : Fun K "has_hole" "has_hole" s_has_hole f fd) (bi : Binds K fd ["pattern"] []) (gm : mg "has_hole" = some (.ref f)) (hn : ∀ xs M F, R xs M F → xs.length = 1)
    (hR : ∀ ds M F, R ds M F → T_has_hole { nx := fun _ M' => F .non M', rt := F } (startD 1 ds) M) : FnH P w K mg base 1 "has_hole" f fd ["pattern"] R :=
  ⟨fnd Fu sc_has_hole fun cdv A outer s H E gd hr => ⟨_, dr_has_hole m_isinstance m_str g_HOLE gd hr, fun ds M F _ h => hR ds M F h⟩, hn, gm, Fu.kp, bi⟩
abbrev s_l_hand : Stmt := topS 9
theorem sc_l_hand : FnScope ["_law_script", "_law_cells", "_law_mixed", "_law_cell"] ["_law_script"] (defScope s_l_hand) := ⟨rfl, rfl, rfl, by decide +kernel, rfl, by decide +kernel, by decide +kernel⟩
theorem dr_l_hand {P : Program} {w : World} {K : PySem.W.Frag} {mg : Str → Option Value} {base : Heap} {f : Addr} {cdv : Value} {A : Around} {outer : List PySem.Env} {s : Shared} {H : Hp} {E : XK} (m_list : mg "list" = none)
    (gd : (A.deeper (envOfC "_law_hand" (defScope s_l_hand) s.heap.objs.size f cdv)).guards = some []) (hr : Room 0 (A.deeper (envOfC "_law_hand" (defScope s_l_hand) s.heap.objs.size f cdv))) :
    DSs (cxOf CX0 P w K mg base ["_law_script", "_law_cells", "_law_mixed", "_law_cell"] "_law_hand" (defScope s_l_hand) f cdv A outer s H E).nox (defBody s_l_hand) (T_l_hand) :=
  (dss_cons (ds_par 1 2 rfl sc_l_hand.nd (by decide) (da_cons (de_bltTy cb_list (by rfl) m_list (by decide +kernel) (da_cons (de_sli (dv 0) do_none (do_some de_int)) da_nil)) (da_cons de_int da_nil)))
    (dss_cons (ds_for (t := (.nm 3)) PassesOwn.never rfl (di_seq (dv 1)) (dg_nm 3 sc_l_hand.nd) (dss_one (ds_set 2 sc_l_hand.nd (de_op or_mod (de_op or_add (de_op or_add (de_op or_mul (dv 2) de_int) (de_op or_mod (dv 3) de_int)) de_int) de_int))))
    (dss_one (ds_ret (de_disp true (zs := ["cells", "mixed", "draws"]) (.cons (de_revM (dv 1)) (.cons (dv 2) (.cons de_int .nil))) (by simp) (by decide) (by decide +kernel))))))
theorem ok_l_hand {P : Program} {w : World} {K : PySem.W.Frag} {mg : Str → Option Value} {base : Heap} {f : Addr} {fd : FuncData} {R : RD} (m_list : mg "list" = none) (Fu : Fun K "_law_hand" "_law_hand" s_l_hand f fd) (bi : Binds K fd ["_law_script"] []) (gm : mg "_law_hand" = some (.ref f)) (hn : ∀ xs M F, R xs M F → xs.length = 1)
    (hR : ∀ ds M F, R ds M F → T_l_hand { nx := fun _ M' => F .non M', rt := F } (startD 4 ds) M) : FnH P w K mg base 1 "_law_hand" f fd ["_law_script"] R :=
  ⟨fnd Fu sc_l_hand fun cdv A outer s H E gd hr => ⟨_, dr_l_hand m_list gd hr, fun ds M F _ h => hR ds M F h⟩, hn, gm, Fu.kp, bi⟩
abbrev s_l_draw : Stmt := topS 10
theorem sc_l_draw : FnScope ["_law_hand_here", "_law_many", "_law_number", "_law_cell"] ["_law_hand_here", "_law_many"] (defScope s_l_draw) := ⟨rfl, rfl, rfl, by decide +kernel, rfl, by decide +kernel, by decide +kernel⟩
theorem dr_l_draw {P : Program} {w : World} {K : PySem.W.Frag} {mg : Str → Option Value} {base : Heap} {f : Addr} {cdv : Value} {A : Around} {outer : List PySem.Env} {s : Shared} {H : Hp} {E : XK}
    (gd : (A.deeper (envOfC "_law_draw" (defScope s_l_draw) s.heap.objs.size f cdv)).guards = some []) (hr : Room 0 (A.deeper (envOfC "_law_draw" (defScope s_l_draw) s.heap.objs.size f cdv))) :
    DSs (cxOf CX0 P w K mg base ["_law_hand_here", "_law_many", "_law_number", "_law_cell"] "_law_draw" (defScope s_l_draw) f cdv A outer s H E).nox (defBody s_l_draw) (T_l_draw) :=
  (dss_cons (ds_put (hu_of hr) (dv 0) de_str (de_op or_add (de_ix (or_ix (hu_of hr)) (dv 0) de_str (fun _ _ => rfl)) de_int))
    (dss_cons (ds_set 2 sc_l_draw.nd (de_op or_add (de_ix (or_ix (hu_of hr)) (dv 0) de_str (fun _ _ => rfl)) (de_op or_mul de_int (de_ix (or_ix (hu_of hr)) (dv 0) de_str (fun _ _ => rfl)))))
    (dss_cons (ds_if (dt_cmp (or_ne hr.units) (de_ix (or_ix (hu_of hr)) (dv 0) de_str (fun _ _ => rfl)) (de_lst da_nil) (by rfl)) (dss_cons (ds_set 3 sc_l_draw.nd (de_bm0L PySem.F.slot_list_pop PySem.F.type_list_pop dm_pop (de_ix (or_ix (hu_of hr)) (dv 0) de_str (fun _ _ => rfl))))
    (dss_cons (ds_if (dt_cmp or_ge (dv 3) (de_op or_pow de_int de_int) (by rfl)) (dss_cons (ds_expr (de_bmL PySem.F.slot_list_append PySem.F.type_list_append dm_append (de_ix (or_ix (hu_of hr)) (dv 0) de_str (fun _ _ => rfl)) (da_cons (de_op or_fdiv (dv 3) (dv 1)) da_nil)))
    (dss_one (ds_ret (de_op or_mod (dv 3) (dv 1))))) dss_nil)
    (dss_one (ds_set 2 sc_l_draw.nd (de_op or_add (dv 2) (dv 3)))))) dss_nil)
    (dss_cons (ds_set 2 sc_l_draw.nd (de_op or_mod (de_op or_mul (de_op or_mod (dv 2) de_int) de_int) de_int))
    (dss_cons (ds_set 2 sc_l_draw.nd (de_op or_mod (de_op or_add (de_op or_add (de_op or_mul (dv 2) (dv 2)) (de_op or_mul de_int (de_ix (or_ix (hu_of hr)) (dv 0) de_str (fun _ _ => rfl)))) de_int) de_int))
    (dss_one (ds_ret (de_op or_mod (de_op or_fdiv (de_op or_mod (de_op or_mul (dv 2) de_int) de_int) de_int) (dv 1)))))))))
theorem ok_l_draw {P : Program} {w : World} {K : PySem.W.Frag} {mg : Str → Option Value} {base : Heap} {f : Addr} {fd : FuncData} {R : RD} (Fu : Fun K "_law_draw" "_law_draw" s_l_draw f fd) (bi : Binds K fd ["_law_hand_here", "_law_many"] []) (gm : mg "_law_draw" = some (.ref f)) (hn : ∀ xs M F, R xs M F → xs.length = 2)
    (hR : ∀ ds M F, R ds M F → T_l_draw { nx := fun _ M' => F .non M', rt := F } (startD 4 ds) M) : FnH P w K mg base 1 "_law_draw" f fd ["_law_hand_here", "_law_many"] R :=
  ⟨fnd Fu sc_l_draw fun cdv A outer s H E gd hr => ⟨_, dr_l_draw gd hr, fun ds M F _ h => hR ds M F h⟩, hn, gm, Fu.kp, bi⟩
abbrev s_l_is_name : Stmt := topS 16
theorem sc_l_is_name : FnScope ["_law_it", "_law_sign"] ["_law_it"] (defScope s_l_is_name) := ⟨rfl, rfl, rfl, by decide +kernel, rfl, by decide +kernel, by decide +kernel⟩
theorem dr_l_is_name {P : Program} {w : World} {K : PySem.W.Frag} {mg : Str → Option Value} {base : Heap} {f : Addr} {cdv : Value} {A : Around} {outer : List PySem.Env} {s : Shared} {H : Hp} {E : XK} (m_ord : mg "ord" = none) (m_len : mg "len" = none) (m_isinstance : mg "isinstance" = none) (m_str : mg "str" = none)
    (gd : (A.deeper (envOfC "_law_is_name" (defScope s_l_is_name) s.heap.objs.size f cdv)).guards = some []) (hr : Room 0 (A.deeper (envOfC "_law_is_name" (defScope s_l_is_name) s.heap.objs.size f cdv))) :
    DSs (cxOf CX0 P w K mg base ["_law_it", "_law_sign"] "_law_is_name" (defScope s_l_is_name) f cdv A outer s H E).nox (defBody s_l_is_name) (T_l_is_name) :=
  (dss_cons (ds_if (dt_w (dw_or (dt_not (dt_val (de_isi .str (dv 0) (by rfl) m_isinstance (by rfl) m_str (by decide +kernel)))) (dw_or (dt_cmp (or_eq hr.units) (de_blt cb_len (by rfl) m_len (by decide +kernel) (da_cons (dv 0) da_nil)) de_int (by rfl)) (dw_or1 (dt_cmp or_gt (de_blt cb_len (by rfl) m_len (by decide +kernel) (da_cons (dv 0) da_nil)) de_int (by rfl)))))) (dss_one (ds_ret de_bl)) dss_nil)
    (dss_one (ds_ret (de_cmp (or_eq hr.units) (de_lc (t := (.nm 1)) [1] rfl sc_l_is_name.nd (di_seq (dv 0)) (blkOk_by (own := [("_law_sign", 1)]) (N := ["_law_it", "_law_sign"]) (sc := defScope s_l_is_name) (by decide +kernel)) (by simp [slots, slotss]) (fun _ _ _ _ _ => (dg_nm 1 sc_l_is_name.nd)) (fun _ _ _ _ _ => (dts_one (dt_w (dw_or (dt_cmp or_lt (de_blt cb_ord (by rfl) m_ord (by decide +kernel) (da_cons (dv 1) da_nil)) (de_blt cb_ord (by rfl) m_ord (by decide +kernel) (da_cons de_str da_nil)) (by rfl)) (dw_or1 (dt_cmp or_gt (de_blt cb_ord (by rfl) m_ord (by decide +kernel) (da_cons (dv 1) da_nil)) (de_blt cb_ord (by rfl) m_ord (by decide +kernel) (da_cons de_str da_nil)) (by rfl))))))) (fun _ _ _ _ _ => (dv 1))) (de_lst da_nil) (by rfl)))))
theorem ok_l_is_name {P : Program} {w : World} {K : PySem.W.Frag} {mg : Str → Option Value} {base : Heap} {f : Addr} {fd : FuncData} {R : RD} (m_ord : mg "ord" = none) (m_len : mg "len" = none) (m_isinstance : mg "isinstance" = none) (m_str : mg "str" = none) (Fu : Fun K "_law_is_name" "_law_is_name" s_l_is_name f fd) (bi : Binds K fd ["_law_it"] []) (gm : mg "_law_is_name" = some (.ref f)) (hn : ∀ xs M F, R xs M F → xs.length = 1)
    (hR : ∀ ds M F, R ds M F → T_l_is_name { nx := fun _ M' => F .non M', rt := F } (startD 2 ds) M) : FnH P w K mg base 1 "_law_is_name" f fd ["_law_it"] R :=
  ⟨fnd Fu sc_l_is_name fun cdv A outer s H E gd hr => ⟨_, dr_l_is_name m_ord m_len m_isinstance m_str gd hr, fun ds M F _ h => hR ds M F h⟩, hn, gm, Fu.kp, bi⟩
abbrev s_is_kind : Stmt := topS 5
theorem sc_is_kind : FnScope ["thing", "part"] ["thing"] (defScope s_is_kind) := ⟨rfl, rfl, rfl, by decide +kernel, rfl, by decide +kernel, by decide +kernel⟩
theorem dr_is_kind {P : Program} {w : World} {K : PySem.W.Frag} {mg : Str → Option Value} {base : Heap} {f : Addr} {cdv : Value} {A : Around} {outer : List PySem.Env} {s : Shared} {H : Hp} {E : XK} {f_is_name : Addr} {fd_is_name : FuncData} {R_is_name : RD} (h_is_name : FnH P w K mg base 1 "is_name" f_is_name fd_is_name ["thing"] R_is_name) (m_all : mg "all" = none) (m_isinstance : mg "isinstance" = none) (m_tuple : mg "tuple" = none)
    (gd : (A.deeper (envOfC "is_kind" (defScope s_is_kind) s.heap.objs.size f cdv)).guards = some []) (hr : Room 1 (A.deeper (envOfC "is_kind" (defScope s_is_kind) s.heap.objs.size f cdv))) :
    DSs (cxOf CX0 P w K mg base ["thing", "part"] "is_kind" (defScope s_is_kind) f cdv A outer s H E).nox (defBody s_is_kind) (T_is_kind R_is_name) :=
  (dss_one (ds_ret (de_and (de_isi .tup (dv 0) (by rfl) m_isinstance (by rfl) m_tuple (by decide +kernel)) (de_and (de_cmp (or_ne hr.units) (dv 0) (de_tup da_nil) (by rfl)) (de_one (de_blt (cb_all rfl) (by rfl) m_all (by decide +kernel) (da_cons (de_lc (t := (.nm 1)) [1] rfl sc_is_kind.nd (di_seq (dv 0)) (blkOk_by (own := [("part", 1)]) (N := ["thing", "part"]) (sc := defScope s_is_kind) (by decide +kernel)) (by simp [slots, slotss]) (fun _ _ _ _ _ => (dg_nm 1 sc_is_kind.nd)) (fun _ _ _ _ _ => dts_nil) (fun _ _ _ _ _ => (dcall h_is_name gd hr (da_cons (dv 1) da_nil)))) da_nil)))))))
theorem ok_is_kind {P : Program} {w : World} {K : PySem.W.Frag} {mg : Str → Option Value} {base : Heap} {f : Addr} {fd : FuncData} {R : RD} {f_is_name : Addr} {fd_is_name : FuncData} {R_is_name : RD} (h_is_name : FnH P w K mg base 1 "is_name" f_is_name fd_is_name ["thing"] R_is_name) (m_all : mg "all" = none) (m_isinstance : mg "isinstance" = none) (m_tuple : mg "tuple" = none) (Fu : Fun K "is_kind" "is_kind" s_is_kind f fd) (bi : Binds K fd ["thing"] []) (gm : mg "is_kind" = some (.ref f)) (hn : ∀ xs M F, R xs M F → xs.length = 1)
    (hR : ∀ ds M F, R ds M F → T_is_kind R_is_name { nx := fun _ M' => F .non M', rt := F } (startD 2 ds) M) : FnH P w K mg base 2 "is_kind" f fd ["thing"] R :=
  ⟨fnd Fu sc_is_kind fun cdv A outer s H E gd hr => ⟨_, dr_is_kind h_is_name m_all m_isinstance m_tuple gd hr, fun ds M F _ h => hR ds M F h⟩, hn, gm, Fu.kp, bi⟩
abbrev s_is_pattern : Stmt := topS 6
theorem sc_is_pattern : FnScope ["thing", "part"] ["thing"] (defScope s_is_pattern) := ⟨rfl, rfl, rfl, by decide +kernel, rfl, by decide +kernel, by decide +kernel⟩
theorem dr_is_pattern {P : Program} {w : World} {K : PySem.W.Frag} {mg : Str → Option Value} {base : Heap} {f : Addr} {cdv : Value} {A : Around} {outer : List PySem.Env} {s : Shared} {H : Hp} {E : XK} {f_has_hole f_is_name : Addr} {fd_has_hole fd_is_name : FuncData} {R_has_hole R_is_name : RD} (h_has_hole : FnH P w K mg base 1 "has_hole" f_has_hole fd_has_hole ["pattern"] R_has_hole) (h_is_name : FnH P w K mg base 1 "is_name" f_is_name fd_is_name ["thing"] R_is_name) (m_all : mg "all" = none) (m_isinstance : mg "isinstance" = none) (m_tuple : mg "tuple" = none)
    (gd : (A.deeper (envOfC "is_pattern" (defScope s_is_pattern) s.heap.objs.size f cdv)).guards = some []) (hr : Room 1 (A.deeper (envOfC "is_pattern" (defScope s_is_pattern) s.heap.objs.size f cdv))) :
    DSs (cxOf CX0 P w K mg base ["thing", "part"] "is_pattern" (defScope s_is_pattern) f cdv A outer s H E).nox (defBody s_is_pattern) (T_is_pattern R_has_hole R_is_name) :=
  (dss_cons (ds_if (dt_w (dw_or (dt_not (dt_val (de_isi .tup (dv 0) (by rfl) m_isinstance (by rfl) m_tuple (by decide +kernel)))) (dw_or (dt_cmp (or_eq hr.units) (dv 0) (de_tup da_nil) (by rfl)) (dw_or1 (dt_not (dt_val (de_blt (cb_all rfl) (by rfl) m_all (by decide +kernel) (da_cons (de_lc (t := (.nm 1)) [1] rfl sc_is_pattern.nd (di_seq (de_sli (dv 0) do_none (do_some (de_neg de_int)))) (blkOk_by (own := [("part", 1)]) (N := ["thing", "part"]) (sc := defScope s_is_pattern) (by decide +kernel)) (by simp [slots, slotss]) (fun _ _ _ _ _ => (dg_nm 1 sc_is_pattern.nd)) (fun _ _ _ _ _ => dts_nil) (fun _ _ _ _ _ => (dcall h_is_name gd hr (da_cons (dv 1) da_nil)))) da_nil)))))))) (dss_one (ds_ret de_bl)) dss_nil)
    (dss_one (ds_ret (de_or (dcall h_is_name gd hr (da_cons (de_ix (or_ix (hu_of hr)) (dv 0) (de_neg de_int) (fun _ _ => rfl)) da_nil)) (de_one (dcall h_has_hole gd hr (da_cons (dv 0) da_nil)))))))
theorem ok_is_pattern {P : Program} {w : World} {K : PySem.W.Frag} {mg : Str → Option Value} {base : Heap} {f : Addr} {fd : FuncData} {R : RD} {f_has_hole f_is_name : Addr} {fd_has_hole fd_is_name : FuncData} {R_has_hole R_is_name : RD} (h_has_hole : FnH P w K mg base 1 "has_hole" f_has_hole fd_has_hole ["pattern"] R_has_hole) (h_is_name : FnH P w K mg base 1 "is_name" f_is_name fd_is_name ["thing"] R_is_name) (m_all : mg "all" = none) (m_isinstance : mg "isinstance" = none) (m_tuple : mg "tuple" = none) (Fu : Fun K "is_pattern" "is_pattern" s_is_pattern f fd) (bi : Binds K fd ["thing"] []) (gm : mg "is_pattern" = some (.ref f)) (hn : ∀ xs M F, R xs M F → xs.length = 1)
    (hR : ∀ ds M F, R ds M F → T_is_pattern R_has_hole R_is_name { nx := fun _ M' => F .non M', rt := F } (startD 2 ds) M) : FnH P w K mg base 2 "is_pattern" f fd ["thing"] R :=
  ⟨fnd Fu sc_is_pattern fun cdv A outer s H E gd hr => ⟨_, dr_is_pattern h_has_hole h_is_name m_all m_isinstance m_tuple gd hr, fun ds M F _ h => hR ds M F h⟩, hn, gm, Fu.kp, bi⟩
abbrev s_l_pick : Stmt := topS 11
theorem sc_l_pick : FnScope ["_law_hand_here", "_law_some"] ["_law_hand_here", "_law_some"] (defScope s_l_pick) := ⟨rfl, rfl, rfl, by decide +kernel, rfl, by decide +kernel, by decide +kernel⟩
theorem dr_l_pick {P : Program} {w : World} {K : PySem.W.Frag} {mg : Str → Option Value} {base : Heap} {f : Addr} {cdv : Value} {A : Around} {outer : List PySem.Env} {s : Shared} {H : Hp} {E : XK} {f_l_draw : Addr} {fd_l_draw : FuncData} {R_l_draw : RD} (h_l_draw : FnH P w K mg base 1 "_law_draw" f_l_draw fd_l_draw ["_law_hand_here", "_law_many"] R_l_draw) (m_len : mg "len" = none)
    (gd : (A.deeper (envOfC "_law_pick" (defScope s_l_pick) s.heap.objs.size f cdv)).guards = some []) (hr : Room 1 (A.deeper (envOfC "_law_pick" (defScope s_l_pick) s.heap.objs.size f cdv))) :
    DSs (cxOf CX0 P w K mg base ["_law_hand_here", "_law_some"] "_law_pick" (defScope s_l_pick) f cdv A outer s H E).nox (defBody s_l_pick) (T_l_pick R_l_draw) :=
  (dss_one (ds_ret (de_ix (or_ix (hu_of hr)) (dv 1) (dcall h_l_draw gd hr (da_cons (dv 0) (da_cons (de_blt cb_len (by rfl) m_len (by decide +kernel) (da_cons (dv 1) da_nil)) da_nil))) (fun _ _ => rfl))))
theorem ok_l_pick {P : Program} {w : World} {K : PySem.W.Frag} {mg : Str → Option Value} {base : Heap} {f : Addr} {fd : FuncData} {R : RD} {f_l_draw : Addr} {fd_l_draw : FuncData} {R_l_draw : RD} (h_l_draw : FnH P w K mg base 1 "_law_draw" f_l_draw fd_l_draw ["_law_hand_here", "_law_many"] R_l_draw) (m_len : mg "len" = none) (Fu : Fun K "_law_pick" "_law_pick" s_l_pick f fd) (bi : Binds K fd ["_law_hand_here", "_law_some"] []) (gm : mg "_law_pick" = some (.ref f)) (hn : ∀ xs M F, R xs M F → xs.length = 2)
    (hR : ∀ ds M F, R ds M F → T_l_pick R_l_draw { nx := fun _ M' => F .non M', rt := F } (startD 2 ds) M) : FnH P w K mg base 2 "_law_pick" f fd ["_law_hand_here", "_law_some"] R :=
  ⟨fnd Fu sc_l_pick fun cdv A outer s H E gd hr => ⟨_, dr_l_pick h_l_draw m_len gd hr, fun ds M F _ h => hR ds M F h⟩, hn, gm, Fu.kp, bi⟩
abbrev s_l_due : Stmt := topS 17
theorem sc_l_due : FnScope ["_law_it", "_law_part"] ["_law_it"] (defScope s_l_due) := ⟨rfl, rfl, rfl, by decide +kernel, rfl, by decide +kernel, by decide +kernel⟩
theorem dr_l_due {P : Program} {w : World} {K : PySem.W.Frag} {mg : Str → Option Value} {base : Heap} {f : Addr} {cdv : Value} {A : Around} {outer : List PySem.Env} {s : Shared} {H : Hp} {E : XK} {f_l_is_name : Addr} {fd_l_is_name : FuncData} {R_l_is_name : RD} (h_l_is_name : FnH P w K mg base 1 "_law_is_name" f_l_is_name fd_l_is_name ["_law_it"] R_l_is_name) (m_repr : mg "repr" = none) (m_len : mg "len" = none) (m_isinstance : mg "isinstance" = none) (m_tuple : mg "tuple" = none) (m_str : mg "str" = none)
    (gd : (A.deeper (envOfC "_law_due" (defScope s_l_due) s.heap.objs.size f cdv)).guards = some []) (hr : Room 1 (A.deeper (envOfC "_law_due" (defScope s_l_due) s.heap.objs.size f cdv))) :
    DSs (cxOf CX0 P w K mg base ["_law_it", "_law_part"] "_law_due" (defScope s_l_due) f cdv A outer s H E).nox (defBody s_l_due) (T_l_due R_l_is_name) :=
  (dss_cons (ds_if (dt_val (de_isi .str (dv 0) (by rfl) m_isinstance (by rfl) m_str (by decide +kernel))) (dss_one (ds_ret (de_lst (da_cons (dcall h_l_is_name gd hr (da_cons (dv 0) da_nil)) (da_cons de_bl (da_cons de_bl da_nil)))))) dss_nil)
    (dss_cons (ds_if (dt_w (dw_or (dt_not (dt_val (de_isi .tup (dv 0) (by rfl) m_isinstance (by rfl) m_tuple (by decide +kernel)))) (dw_or1 (dt_cmp (or_eq hr.units) (de_blt cb_len (by rfl) m_len (by decide +kernel) (da_cons (dv 0) da_nil)) de_int (by rfl))))) (dss_one (ds_ret (de_lst (da_cons de_bl (da_cons de_bl (da_cons de_bl da_nil)))))) dss_nil)
    (dss_cons (ds_if (dt_cmp (or_ne hr.units) (de_lc (t := (.nm 1)) [1] rfl sc_l_due.nd (di_seq (de_sli (dv 0) do_none (do_some (de_neg de_int)))) (blkOk_by (own := [("_law_part", 1)]) (N := ["_law_it", "_law_part"]) (sc := defScope s_l_due) (by decide +kernel)) (by simp [slots, slotss]) (fun _ _ _ _ _ => (dg_nm 1 sc_l_due.nd)) (fun _ _ _ _ _ => (dts_one (dt_not (dt_val (dcall h_l_is_name gd hr (da_cons (dv 1) da_nil)))))) (fun _ _ _ _ _ => (dv 1))) (de_lst da_nil) (by rfl)) (dss_one (ds_ret (de_lst (da_cons de_bl (da_cons de_bl (da_cons de_bl da_nil)))))) dss_nil)
    (dss_cons (ds_if (dt_val (dcall h_l_is_name gd hr (da_cons (de_ix (or_ix (hu_of hr)) (dv 0) (de_neg de_int) (fun _ _ => rfl)) da_nil))) (dss_one (ds_ret (de_lst (da_cons de_bl (da_cons de_bl (da_cons de_bl da_nil)))))) dss_nil)
    (dss_one (ds_ret (de_lst (da_cons de_bl (da_cons de_bl (da_cons (de_cmp (or_eq hr.units) (de_blt (cb_repr gd (u200 hr)) (by rfl) m_repr (by decide +kernel) (da_cons (de_ix (or_ix (hu_of hr)) (dv 0) (de_neg de_int) (fun _ _ => rfl)) da_nil)) de_str (by rfl)) da_nil))))))))))
theorem ok_l_due {P : Program} {w : World} {K : PySem.W.Frag} {mg : Str → Option Value} {base : Heap} {f : Addr} {fd : FuncData} {R : RD} {f_l_is_name : Addr} {fd_l_is_name : FuncData} {R_l_is_name : RD} (h_l_is_name : FnH P w K mg base 1 "_law_is_name" f_l_is_name fd_l_is_name ["_law_it"] R_l_is_name) (m_repr : mg "repr" = none) (m_len : mg "len" = none) (m_isinstance : mg "isinstance" = none) (m_tuple : mg "tuple" = none) (m_str : mg "str" = none) (Fu : Fun K "_law_due" "_law_due" s_l_due f fd) (bi : Binds K fd ["_law_it"] []) (gm : mg "_law_due" = some (.ref f)) (hn : ∀ xs M F, R xs M F → xs.length = 1)
    (hR : ∀ ds M F, R ds M F → T_l_due R_l_is_name { nx := fun _ M' => F .non M', rt := F } (startD 2 ds) M) : FnH P w K mg base 2 "_law_due" f fd ["_law_it"] R :=
  ⟨fnd Fu sc_l_due fun cdv A outer s H E gd hr => ⟨_, dr_l_due h_l_is_name m_repr m_len m_isinstance m_tuple m_str gd hr, fun ds M F _ h => hR ds M F h⟩, hn, gm, Fu.kp, bi⟩
abbrev s_l_name : Stmt := topS 12
theorem sc_l_name : FnScope ["_law_hand_here", "_law_letters", "_law_k"] ["_law_hand_here"] (defScope s_l_name) := ⟨rfl, rfl, rfl, by decide +kernel, rfl, by decide +kernel, by decide +kernel⟩
theorem dr_l_name {P : Program} {w : World} {K : PySem.W.Frag} {mg : Str → Option Value} {base : Heap} {f : Addr} {cdv : Value} {A : Around} {outer : List PySem.Env} {s : Shared} {H : Hp} {E : XK} {f_l_draw f_l_pick : Addr} {fd_l_draw fd_l_pick : FuncData} {R_l_draw R_l_pick : RD} (h_l_draw : FnH P w K mg base 1 "_law_draw" f_l_draw fd_l_draw ["_law_hand_here", "_law_many"] R_l_draw) (h_l_pick : FnH P w K mg base 2 "_law_pick" f_l_pick fd_l_pick ["_law_hand_here", "_law_some"] R_l_pick) (m_range : mg "range" = none)
    (gd : (A.deeper (envOfC "_law_name" (defScope s_l_name) s.heap.objs.size f cdv)).guards = some []) (hr : Room 2 (A.deeper (envOfC "_law_name" (defScope s_l_name) s.heap.objs.size f cdv))) :
    DSs (cxOf CX0 P w K mg base ["_law_hand_here", "_law_letters", "_law_k"] "_law_name" (defScope s_l_name) f cdv A outer s H E).nox (defBody s_l_name) (T_l_name R_l_draw R_l_pick) :=
  (dss_cons (ds_if (dt_cmp (or_eq hr.units) (dcall h_l_draw gd hr (da_cons (dv 0) (da_cons de_int da_nil))) de_int (by rfl)) (dss_one (ds_ret (dcall h_l_pick gd hr (da_cons (dv 0) (da_cons (de_lst (da_cons de_str (da_cons de_str (da_cons de_str (da_cons de_str (da_cons de_str (da_cons de_str (da_cons de_str (da_cons de_str (da_cons de_str (da_cons de_str da_nil))))))))))) da_nil))))) dss_nil)
    (dss_cons (ds_set 1 sc_l_name.nd de_str)
    (dss_one (ds_ret (de_m1 PySem.F.slot_str_join PySem.F.type_str_join dm_join de_str (de_lc (t := (.nm 2)) [2] rfl sc_l_name.nd (di_rng1 (by rfl) m_range (da_cons (de_op or_add de_int (dcall h_l_draw gd hr (da_cons (dv 0) (da_cons de_int da_nil)))) da_nil)) (blkOk_by (own := [("_law_k", 2)]) (N := ["_law_hand_here", "_law_letters", "_law_k"]) (sc := defScope s_l_name) (by decide +kernel)) (by simp [slots, slotss]) (fun _ _ _ _ _ => (dg_nm 2 sc_l_name.nd)) (fun _ _ _ _ _ => dts_nil) (fun _ _ _ _ _ => (de_ix (or_ix (hu_of hr)) (dv 1) (dcall h_l_draw gd hr (da_cons (dv 0) (da_cons de_int da_nil))) (fun _ _ => rfl)))))))))
theorem ok_l_name {P : Program} {w : World} {K : PySem.W.Frag} {mg : Str → Option Value} {base : Heap} {f : Addr} {fd : FuncData} {R : RD} {f_l_draw f_l_pick : Addr} {fd_l_draw fd_l_pick : FuncData} {R_l_draw R_l_pick : RD} (h_l_draw : FnH P w K mg base 1 "_law_draw" f_l_draw fd_l_draw ["_law_hand_here", "_law_many"] R_l_draw) (h_l_pick : FnH P w K mg base 2 "_law_pick" f_l_pick fd_l_pick ["_law_hand_here", "_law_some"] R_l_pick) (m_range : mg "range" = none) (Fu : Fun K "_law_name" "_law_name" s_l_name f fd) (bi : Binds K fd ["_law_hand_here"] []) (gm : mg "_law_name" = some (.ref f)) (hn : ∀ xs M F, R xs M F → xs.length = 1)
    (hR : ∀ ds M F, R ds M F → T_l_name R_l_draw R_l_pick { nx := fun _ M' => F .non M', rt := F } (startD 3 ds) M) : FnH P w K mg base 3 "_law_name" f fd ["_law_hand_here"] R :=
  ⟨fnd Fu sc_l_name fun cdv A outer s H E gd hr => ⟨_, dr_l_name h_l_draw h_l_pick m_range gd hr, fun ds M F _ h => hR ds M F h⟩, hn, gm, Fu.kp, bi⟩
abbrev s_l_odd : Stmt := topS 14
theorem sc_l_odd : FnScope ["_law_hand_here", "_law_some"] ["_law_hand_here"] (defScope s_l_odd) := ⟨rfl, rfl, rfl, by decide +kernel, rfl, by decide +kernel, by decide +kernel⟩
theorem dr_l_odd {P : Program} {w : World} {K : PySem.W.Frag} {mg : Str → Option Value} {base : Heap} {f : Addr} {cdv : Value} {A : Around} {outer : List PySem.Env} {s : Shared} {H : Hp} {E : XK} {f_l_pick : Addr} {fd_l_pick : FuncData} {R_l_pick : RD} (h_l_pick : FnH P w K mg base 2 "_law_pick" f_l_pick fd_l_pick ["_law_hand_here", "_law_some"] R_l_pick)
    (gd : (A.deeper (envOfC "_law_odd" (defScope s_l_odd) s.heap.objs.size f cdv)).guards = some []) (hr : Room 2 (A.deeper (envOfC "_law_odd" (defScope s_l_odd) s.heap.objs.size f cdv))) :
    DSs (cxOf CX0 P w K mg base ["_law_hand_here", "_law_some"] "_law_odd" (defScope s_l_odd) f cdv A outer s H E).nox (defBody s_l_odd) (T_l_odd R_l_pick) :=
  (dss_cons (ds_set 1 sc_l_odd.nd (de_lst (da_cons de_str (da_cons de_str (da_cons de_str (da_cons de_str (da_cons de_str (da_cons de_str (da_cons de_str (da_cons de_str (da_cons de_str (da_cons de_str (da_cons de_str (da_cons de_str (da_cons de_non (da_cons de_bl (da_cons de_int (da_cons de_int (da_cons (de_tup da_nil) da_nil)))))))))))))))))))
    (dss_one (ds_ret (dcall h_l_pick gd hr (da_cons (dv 0) (da_cons (de_op or_add (dv 1) (de_lst (da_cons (de_lst da_nil) (da_cons de_dic0 (da_cons (de_tup (da_cons de_str da_nil)) (da_cons (de_tup (da_cons de_str da_nil)) (da_cons (de_lst (da_cons de_str da_nil)) (da_cons (de_tup (da_cons (de_tup da_nil) da_nil)) (da_cons de_str (da_cons de_str da_nil)))))))))) da_nil))))))
theorem ok_l_odd {P : Program} {w : World} {K : PySem.W.Frag} {mg : Str → Option Value} {base : Heap} {f : Addr} {fd : FuncData} {R : RD} {f_l_pick : Addr} {fd_l_pick : FuncData} {R_l_pick : RD} (h_l_pick : FnH P w K mg base 2 "_law_pick" f_l_pick fd_l_pick ["_law_hand_here", "_law_some"] R_l_pick) (Fu : Fun K "_law_odd" "_law_odd" s_l_odd f fd) (bi : Binds K fd ["_law_hand_here"] []) (gm : mg "_law_odd" = some (.ref f)) (hn : ∀ xs M F, R xs M F → xs.length = 1)
    (hR : ∀ ds M F, R ds M F → T_l_odd R_l_pick { nx := fun _ M' => F .non M', rt := F } (startD 2 ds) M) : FnH P w K mg base 3 "_law_odd" f fd ["_law_hand_here"] R :=
  ⟨fnd Fu sc_l_odd fun cdv A outer s H E gd hr => ⟨_, dr_l_odd h_l_pick gd hr, fun ds M F _ h => hR ds M F h⟩, hn, gm, Fu.kp, bi⟩
abbrev s_l_right : Stmt := topS 18
theorem sc_l_right : FnScope ["_law_it", "_law_before", "_law_due_here", "_law_heard", "_law_by_name"] ["_law_it"] (defScope s_l_right) := ⟨rfl, rfl, rfl, by decide +kernel, rfl, by decide +kernel, by decide +kernel⟩
theorem dr_l_right {P : Program} {w : World} {K : PySem.W.Frag} {mg : Str → Option Value} {base : Heap} {f : Addr} {cdv : Value} {A : Around} {outer : List PySem.Env} {s : Shared} {H : Hp} {E : XK} {f_is_pattern f_is_kind f_is_name f_l_due : Addr} {fd_is_pattern fd_is_kind fd_is_name fd_l_due : FuncData} {R_is_pattern R_is_kind R_is_name R_l_due : RD} (h_is_pattern : FnH P w K mg base 2 "is_pattern" f_is_pattern fd_is_pattern ["thing"] R_is_pattern) (h_is_kind : FnH P w K mg base 2 "is_kind" f_is_kind fd_is_kind ["thing"] R_is_kind) (h_is_name : FnH P w K mg base 1 "is_name" f_is_name fd_is_name ["thing"] R_is_name) (h_l_due : FnH P w K mg base 2 "_law_due" f_l_due fd_l_due ["_law_it"] R_l_due) (kb_is_pattern : KBinds K fd_is_pattern ["thing"] ["thing"] kid kid) (kb_is_kind : KBinds K fd_is_kind ["thing"] ["thing"] kid kid) (kb_is_name : KBinds K fd_is_name ["thing"] ["thing"] kid kid) (m_repr : mg "repr" = none)
    (gd : (A.deeper (envOfC "_law_right" (defScope s_l_right) s.heap.objs.size f cdv)).guards = some []) (hr : Room 2 (A.deeper (envOfC "_law_right" (defScope s_l_right) s.heap.objs.size f cdv))) :
    DSs (cxOf CX0 P w K mg base ["_law_it", "_law_before", "_law_due_here", "_law_heard", "_law_by_name"] "_law_right" (defScope s_l_right) f cdv A outer s H E).nox (defBody s_l_right) (T_l_right R_is_pattern R_is_kind R_is_name R_l_due) :=
  (dss_cons (ds_par 1 2 rfl sc_l_right.nd (by decide) (da_cons (de_blt (cb_repr gd (u200 hr)) (by rfl) m_repr (by decide +kernel) (da_cons (dv 0) da_nil)) (da_cons (de_blt (cb_repr gd (u200 hr)) (by rfl) m_repr (by decide +kernel) (da_cons (dcall h_l_due gd hr (da_cons (dv 0) da_nil)) da_nil)) da_nil)))
    (dss_cons (ds_set 3 sc_l_right.nd (de_lst (da_cons (dcall h_is_name gd hr (da_cons (dv 0) da_nil)) (da_cons (dcall h_is_kind gd hr (da_cons (dv 0) da_nil)) (da_cons (dcall h_is_pattern gd hr (da_cons (dv 0) da_nil)) da_nil)))))
    (dss_cons (ds_set 4 sc_l_right.nd (de_lst (da_cons (dcallK0 h_is_name kb_is_name gd_id gd hr (dq_cons (dv 0) dq_nil)) (da_cons (dcallK0 h_is_kind kb_is_kind gd_id gd hr (dq_cons (dv 0) dq_nil)) (da_cons (dcallK0 h_is_pattern kb_is_pattern gd_id gd hr (dq_cons (dv 0) dq_nil)) da_nil)))))
    (dss_one (ds_ret (de_and (de_cmp (or_eq hr.units) (de_blt (cb_repr gd (u200 hr)) (by rfl) m_repr (by decide +kernel) (da_cons (dv 3) da_nil)) (dv 2) (by rfl)) (de_and (de_cmp (or_eq hr.units) (de_blt (cb_repr gd (u200 hr)) (by rfl) m_repr (by decide +kernel) (da_cons (dv 4) da_nil)) (dv 2) (by rfl)) (de_one (de_cmp (or_eq hr.units) (de_blt (cb_repr gd (u200 hr)) (by rfl) m_repr (by decide +kernel) (da_cons (dv 0) da_nil)) (dv 1) (by rfl))))))))))
theorem ok_l_right {P : Program} {w : World} {K : PySem.W.Frag} {mg : Str → Option Value} {base : Heap} {f : Addr} {fd : FuncData} {R : RD} {f_is_pattern f_is_kind f_is_name f_l_due : Addr} {fd_is_pattern fd_is_kind fd_is_name fd_l_due : FuncData} {R_is_pattern R_is_kind R_is_name R_l_due : RD} (h_is_pattern : FnH P w K mg base 2 "is_pattern" f_is_pattern fd_is_pattern ["thing"] R_is_pattern) (h_is_kind : FnH P w K mg base 2 "is_kind" f_is_kind fd_is_kind ["thing"] R_is_kind) (h_is_name : FnH P w K mg base 1 "is_name" f_is_name fd_is_name ["thing"] R_is_name) (h_l_due : FnH P w K mg base 2 "_law_due" f_l_due fd_l_due ["_law_it"] R_l_due) (kb_is_pattern : KBinds K fd_is_pattern ["thing"] ["thing"] kid kid) (kb_is_kind : KBinds K fd_is_kind ["thing"] ["thing"] kid kid) (kb_is_name : KBinds K fd_is_name ["thing"] ["thing"] kid kid) (m_repr : mg "repr" = none) (Fu : Fun K "_law_right" "_law_right" s_l_right f fd) (bi : Binds K fd ["_law_it"] []) (gm : mg "_law_right" = some (.ref f)) (hn : ∀ xs M F, R xs M F → xs.length = 1)
    (hR : ∀ ds M F, R ds M F → T_l_right R_is_pattern R_is_kind R_is_name R_l_due { nx := fun _ M' => F .non M', rt := F } (startD 5 ds) M) : FnH P w K mg base 3 "_law_right" f fd ["_law_it"] R :=
  ⟨fnd Fu sc_l_right fun cdv A outer s H E gd hr => ⟨_, dr_l_right h_is_pattern h_is_kind h_is_name h_l_due kb_is_pattern kb_is_kind kb_is_name m_repr gd hr, fun ds M F _ h => hR ds M F h⟩, hn, gm, Fu.kp, bi⟩
abbrev s_l_long : Stmt := topS 19
theorem sc_l_long : FnScope ["_law_hand_here", "_law_many", "_law_at", "_law_names"] ["_law_hand_here"] (defScope s_l_long) := ⟨rfl, rfl, rfl, by decide +kernel, rfl, by decide +kernel, by decide +kernel⟩
theorem dr_l_long {P : Program} {w : World} {K : PySem.W.Frag} {mg : Str → Option Value} {base : Heap} {f : Addr} {cdv : Value} {A : Around} {outer : List PySem.Env} {s : Shared} {H : Hp} {E : XK} {f_l_pick f_l_draw : Addr} {fd_l_pick fd_l_draw : FuncData} {R_l_pick R_l_draw : RD} (h_l_pick : FnH P w K mg base 2 "_law_pick" f_l_pick fd_l_pick ["_law_hand_here", "_law_some"] R_l_pick) (h_l_draw : FnH P w K mg base 1 "_law_draw" f_l_draw fd_l_draw ["_law_hand_here", "_law_many"] R_l_draw) (m_tuple : mg "tuple" = none)
    (gd : (A.deeper (envOfC "_law_long" (defScope s_l_long) s.heap.objs.size f cdv)).guards = some []) (hr : Room 2 (A.deeper (envOfC "_law_long" (defScope s_l_long) s.heap.objs.size f cdv))) :
    DSs (cxOf CX0 P w K mg base ["_law_hand_here", "_law_many", "_law_at", "_law_names"] "_law_long" (defScope s_l_long) f cdv A outer s H E).nox (defBody s_l_long) (T_l_long R_l_pick R_l_draw) :=
  (dss_cons (ds_par 1 2 rfl sc_l_long.nd (by decide) (da_cons (dcall h_l_pick gd hr (da_cons (dv 0) (da_cons (de_lst (da_cons de_int (da_cons de_int da_nil))) da_nil))) (da_cons (dcall h_l_draw gd hr (da_cons (dv 0) (da_cons de_int da_nil))) da_nil)))
    (dss_cons (ds_set 3 sc_l_long.nd (de_op or_mul (de_lst (da_cons de_str (da_cons de_str da_nil))) (de_op or_fdiv (dv 1) de_int)))
    (dss_one (ds_ret (de_lst (da_cons (de_bltTy cb_tuple (by rfl) m_tuple (by decide +kernel) (da_cons (dv 3) da_nil)) (da_cons (de_bltTy cb_tuple (by rfl) m_tuple (by decide +kernel) (da_cons (de_op or_add (dv 3) (de_lst (da_cons de_str da_nil))) da_nil)) (da_cons (de_bltTy cb_tuple (by rfl) m_tuple (by decide +kernel) (da_cons (de_op or_add (de_op or_add (de_sli (dv 3) do_none (do_some (dv 2))) (de_lst (da_cons (dcall h_l_pick gd hr (da_cons (dv 0) (da_cons (de_lst (da_cons de_str (da_cons de_str (da_cons de_int da_nil)))) da_nil))) da_nil))) (de_sli (dv 3) (do_some (dv 2)) do_none)) da_nil)) da_nil))))))))
theorem ok_l_long {P : Program} {w : World} {K : PySem.W.Frag} {mg : Str → Option Value} {base : Heap} {f : Addr} {fd : FuncData} {R : RD} {f_l_pick f_l_draw : Addr} {fd_l_pick fd_l_draw : FuncData} {R_l_pick R_l_draw : RD} (h_l_pick : FnH P w K mg base 2 "_law_pick" f_l_pick fd_l_pick ["_law_hand_here", "_law_some"] R_l_pick) (h_l_draw : FnH P w K mg base 1 "_law_draw" f_l_draw fd_l_draw ["_law_hand_here", "_law_many"] R_l_draw) (m_tuple : mg "tuple" = none) (Fu : Fun K "_law_long" "_law_long" s_l_long f fd) (bi : Binds K fd ["_law_hand_here"] []) (gm : mg "_law_long" = some (.ref f)) (hn : ∀ xs M F, R xs M F → xs.length = 1)
    (hR : ∀ ds M F, R ds M F → T_l_long R_l_pick R_l_draw { nx := fun _ M' => F .non M', rt := F } (startD 4 ds) M) : FnH P w K mg base 3 "_law_long" f fd ["_law_hand_here"] R :=
  ⟨fnd Fu sc_l_long fun cdv A outer s H E gd hr => ⟨_, dr_l_long h_l_pick h_l_draw m_tuple gd hr, fun ds M F _ h => hR ds M F h⟩, hn, gm, Fu.kp, bi⟩
abbrev s_l_pattern : Stmt := topS 13
theorem sc_l_pattern : FnScope ["_law_hand_here", "_law_found", "_law_k"] ["_law_hand_here"] (defScope s_l_pattern) := ⟨rfl, rfl, rfl, by decide +kernel, rfl, by decide +kernel, by decide +kernel⟩
theorem dr_l_pattern {P : Program} {w : World} {K : PySem.W.Frag} {mg : Str → Option Value} {base : Heap} {f : Addr} {cdv : Value} {A : Around} {outer : List PySem.Env} {s : Shared} {H : Hp} {E : XK} {f_l_pick f_l_name : Addr} {fd_l_pick fd_l_name : FuncData} {R_l_pick R_l_name : RD} (h_l_pick : FnH P w K mg base 2 "_law_pick" f_l_pick fd_l_pick ["_law_hand_here", "_law_some"] R_l_pick) (h_l_name : FnH P w K mg base 3 "_law_name" f_l_name fd_l_name ["_law_hand_here"] R_l_name) (m_tuple : mg "tuple" = none) (m_range : mg "range" = none)
    (gd : (A.deeper (envOfC "_law_pattern" (defScope s_l_pattern) s.heap.objs.size f cdv)).guards = some []) (hr : Room 3 (A.deeper (envOfC "_law_pattern" (defScope s_l_pattern) s.heap.objs.size f cdv))) :
    DSs (cxOf CX0 P w K mg base ["_law_hand_here", "_law_found", "_law_k"] "_law_pattern" (defScope s_l_pattern) f cdv A outer s H E).nox (defBody s_l_pattern) (T_l_pattern R_l_pick R_l_name) :=
  (dss_cons (ds_setLc (t := (.nm 2)) [2] 1 rfl sc_l_pattern.nd (di_rng1 (by rfl) m_range (da_cons (dcall h_l_pick gd hr (da_cons (dv 0) (da_cons (de_lst (da_cons de_int (da_cons de_int (da_cons de_int (da_cons de_int (da_cons de_int da_nil)))))) da_nil))) da_nil)) (blkOk_by (own := [("_law_k", 2)]) (N := ["_law_hand_here", "_law_found", "_law_k"]) (sc := defScope s_l_pattern) (by decide +kernel)) (by simp [slots, slotss]) (fun _ _ _ _ _ => (dg_nm 2 sc_l_pattern.nd)) (fun _ _ _ _ _ => dts_nil) (fun _ _ _ _ _ => (dcall h_l_name gd hr (da_cons (dv 0) da_nil))) (sw_true rfl rfl rfl (by decide +kernel)))
    (dss_one (ds_ret (de_bltTy cb_tuple (by rfl) m_tuple (by decide +kernel) (da_cons (de_op or_add (dv 1) (de_lst (da_cons (dcall h_l_pick gd hr (da_cons (dv 0) (da_cons (de_lst (da_cons de_str (da_cons (dcall h_l_name gd hr (da_cons (dv 0) da_nil)) (da_cons (dcall h_l_name gd hr (da_cons (dv 0) da_nil)) da_nil)))) da_nil))) da_nil))) da_nil)))))
theorem ok_l_pattern {P : Program} {w : World} {K : PySem.W.Frag} {mg : Str → Option Value} {base : Heap} {f : Addr} {fd : FuncData} {R : RD} {f_l_pick f_l_name : Addr} {fd_l_pick fd_l_name : FuncData} {R_l_pick R_l_name : RD} (h_l_pick : FnH P w K mg base 2 "_law_pick" f_l_pick fd_l_pick ["_law_hand_here", "_law_some"] R_l_pick) (h_l_name : FnH P w K mg base 3 "_law_name" f_l_name fd_l_name ["_law_hand_here"] R_l_name) (m_tuple : mg "tuple" = none) (m_range : mg "range" = none) (Fu : Fun K "_law_pattern" "_law_pattern" s_l_pattern f fd) (bi : Binds K fd ["_law_hand_here"] []) (gm : mg "_law_pattern" = some (.ref f)) (hn : ∀ xs M F, R xs M F → xs.length = 1)
    (hR : ∀ ds M F, R ds M F → T_l_pattern R_l_pick R_l_name { nx := fun _ M' => F .non M', rt := F } (startD 3 ds) M) : FnH P w K mg base 4 "_law_pattern" f fd ["_law_hand_here"] R :=
  ⟨fnd Fu sc_l_pattern fun cdv A outer s H E gd hr => ⟨_, dr_l_pattern h_l_pick h_l_name m_tuple m_range gd hr, fun ds M F _ h => hR ds M F h⟩, hn, gm, Fu.kp, bi⟩
abbrev s_l_bent : Stmt := topS 15
theorem sc_l_bent : FnScope ["_law_hand_here", "_law_it", "_law_at", "_law_way"] ["_law_hand_here", "_law_it"] (defScope s_l_bent) := ⟨rfl, rfl, rfl, by decide +kernel, rfl, by decide +kernel, by decide +kernel⟩
theorem dr_l_bent {P : Program} {w : World} {K : PySem.W.Frag} {mg : Str → Option Value} {base : Heap} {f : Addr} {cdv : Value} {A : Around} {outer : List PySem.Env} {s : Shared} {H : Hp} {E : XK} {f_l_odd f_l_pick f_l_name f_l_draw : Addr} {fd_l_odd fd_l_pick fd_l_name fd_l_draw : FuncData} {R_l_odd R_l_pick R_l_name R_l_draw : RD} (h_l_odd : FnH P w K mg base 3 "_law_odd" f_l_odd fd_l_odd ["_law_hand_here"] R_l_odd) (h_l_pick : FnH P w K mg base 2 "_law_pick" f_l_pick fd_l_pick ["_law_hand_here", "_law_some"] R_l_pick) (h_l_name : FnH P w K mg base 3 "_law_name" f_l_name fd_l_name ["_law_hand_here"] R_l_name) (h_l_draw : FnH P w K mg base 1 "_law_draw" f_l_draw fd_l_draw ["_law_hand_here", "_law_many"] R_l_draw) (m_list : mg "list" = none) (m_len : mg "len" = none)
    (gd : (A.deeper (envOfC "_law_bent" (defScope s_l_bent) s.heap.objs.size f cdv)).guards = some []) (hr : Room 3 (A.deeper (envOfC "_law_bent" (defScope s_l_bent) s.heap.objs.size f cdv))) :
    DSs (cxOf CX0 P w K mg base ["_law_hand_here", "_law_it", "_law_at", "_law_way"] "_law_bent" (defScope s_l_bent) f cdv A outer s H E).nox (defBody s_l_bent) (T_l_bent R_l_odd R_l_pick R_l_name R_l_draw) :=
  (dss_cons (ds_par 2 3 rfl sc_l_bent.nd (by decide) (da_cons (dcall h_l_draw gd hr (da_cons (dv 0) (da_cons (de_op or_add (de_blt cb_len (by rfl) m_len (by decide +kernel) (da_cons (dv 1) da_nil)) de_int) da_nil))) (da_cons (dcall h_l_draw gd hr (da_cons (dv 0) (da_cons de_int da_nil))) da_nil)))
    (dss_cons (ds_if (dt_cmp (or_eq hr.units) (dv 3) de_int (by rfl)) (dss_one (ds_ret (de_bltTy cb_list (by rfl) m_list (by decide +kernel) (da_cons (dv 1) da_nil)))) dss_nil)
    (dss_cons (ds_if (dt_cmp (or_eq hr.units) (dv 3) de_int (by rfl)) (dss_one (ds_ret (de_tup (da_cons (dv 1) da_nil)))) dss_nil)
    (dss_cons (ds_if (dt_cmp (or_eq hr.units) (dv 3) de_int (by rfl)) (dss_one (ds_ret (de_op or_add (de_sli (dv 1) do_none (do_some (dv 2))) (de_sli (dv 1) (do_some (de_op or_add (dv 2) de_int)) do_none)))) dss_nil)
    (dss_cons (ds_if (dt_cmp (or_eq hr.units) (dv 3) de_int (by rfl)) (dss_one (ds_ret (de_op or_add (de_op or_add (de_sli (dv 1) do_none (do_some (dv 2))) (de_sli (dv 1) (do_some (dv 2)) (do_some (de_op or_add (dv 2) de_int)))) (de_sli (dv 1) (do_some (dv 2)) do_none)))) dss_nil)
    (dss_cons (ds_if (dt_cmp (or_eq hr.units) (dv 3) de_int (by rfl)) (dss_one (ds_ret (de_op or_add (de_op or_add (de_sli (dv 1) do_none (do_some (dv 2))) (de_tup (da_cons de_str da_nil))) (de_sli (dv 1) (do_some (dv 2)) do_none)))) dss_nil)
    (dss_cons (ds_if (dt_cmp (or_eq hr.units) (dv 3) de_int (by rfl)) (dss_one (ds_ret (de_op or_add (dv 1) (de_tup (da_cons (dcall h_l_name gd hr (da_cons (dv 0) da_nil)) da_nil))))) dss_nil)
    (dss_cons (ds_if (dt_w (dw_and (dt_cmp (or_eq hr.units) (dv 3) de_int (by rfl)) (dw_and1 (dt_cmp (or_ne hr.units) (dv 1) (de_tup da_nil) (by rfl))))) (dss_one (ds_ret (de_op or_add (de_sli (dv 1) do_none (do_some (de_neg de_int))) (de_tup (da_cons (dcall h_l_pick gd hr (da_cons (dv 0) (da_cons (de_lst (da_cons de_str (da_cons de_str (da_cons de_str (da_cons (de_tup (da_cons de_str da_nil)) da_nil))))) da_nil))) da_nil))))) dss_nil)
    (dss_one (ds_ret (de_op or_add (de_op or_add (de_sli (dv 1) do_none (do_some (dv 2))) (de_tup (da_cons (dcall h_l_odd gd hr (da_cons (dv 0) da_nil)) da_nil))) (de_sli (dv 1) (do_some (de_op or_add (dv 2) de_int)) do_none))))))))))))
theorem ok_l_bent {P : Program} {w : World} {K : PySem.W.Frag} {mg : Str → Option Value} {base : Heap} {f : Addr} {fd : FuncData} {R : RD} {f_l_odd f_l_pick f_l_name f_l_draw : Addr} {fd_l_odd fd_l_pick fd_l_name fd_l_draw : FuncData} {R_l_odd R_l_pick R_l_name R_l_draw : RD} (h_l_odd : FnH P w K mg base 3 "_law_odd" f_l_odd fd_l_odd ["_law_hand_here"] R_l_odd) (h_l_pick : FnH P w K mg base 2 "_law_pick" f_l_pick fd_l_pick ["_law_hand_here", "_law_some"] R_l_pick) (h_l_name : FnH P w K mg base 3 "_law_name" f_l_name fd_l_name ["_law_hand_here"] R_l_name) (h_l_draw : FnH P w K mg base 1 "_law_draw" f_l_draw fd_l_draw ["_law_hand_here", "_law_many"] R_l_draw) (m_list : mg "list" = none) (m_len : mg "len" = none) (Fu : Fun K "_law_bent" "_law_bent" s_l_bent f fd) (bi : Binds K fd ["_law_hand_here", "_law_it"] []) (gm : mg "_law_bent" = some (.ref f)) (hn : ∀ xs M F, R xs M F → xs.length = 2)
    (hR : ∀ ds M F, R ds M F → T_l_bent R_l_odd R_l_pick R_l_name R_l_draw { nx := fun _ M' => F .non M', rt := F } (startD 4 ds) M) : FnH P w K mg base 4 "_law_bent" f fd ["_law_hand_here", "_law_it"] R :=
  ⟨fnd Fu sc_l_bent fun cdv A outer s H E gd hr => ⟨_, dr_l_bent h_l_odd h_l_pick h_l_name h_l_draw m_list m_len gd hr, fun ds M F _ h => hR ds M F h⟩, hn, gm, Fu.kp, bi⟩
abbrev s_law : Stmt := topS 20
theorem sc_law : FnScope ["_law_script", "_law_hand_here", "_law_it", "_law_turn", "_law_change", "_law_one"] ["_law_script"] (defScope s_law) := ⟨rfl, rfl, rfl, by decide +kernel, rfl, by decide +kernel, by decide +kernel⟩
theorem dr_law {P : Program} {w : World} {K : PySem.W.Frag} {mg : Str → Option Value} {base : Heap} {f : Addr} {cdv : Value} {A : Around} {outer : List PySem.Env} {s : Shared} {H : Hp} {E : XK} {f_l_odd f_l_name f_l_right f_l_pick f_l_bent f_l_pattern f_l_long f_l_hand : Addr} {fd_l_odd fd_l_name fd_l_right fd_l_pick fd_l_bent fd_l_pattern fd_l_long fd_l_hand : FuncData} {R_l_odd R_l_name R_l_right R_l_pick R_l_bent R_l_pattern R_l_long R_l_hand : RD} (h_l_odd : FnH P w K mg base 3 "_law_odd" f_l_odd fd_l_odd ["_law_hand_here"] R_l_odd) (h_l_name : FnH P w K mg base 3 "_law_name" f_l_name fd_l_name ["_law_hand_here"] R_l_name) (h_l_right : FnH P w K mg base 3 "_law_right" f_l_right fd_l_right ["_law_it"] R_l_right) (h_l_pick : FnH P w K mg base 2 "_law_pick" f_l_pick fd_l_pick ["_law_hand_here", "_law_some"] R_l_pick) (h_l_bent : FnH P w K mg base 4 "_law_bent" f_l_bent fd_l_bent ["_law_hand_here", "_law_it"] R_l_bent) (h_l_pattern : FnH P w K mg base 4 "_law_pattern" f_l_pattern fd_l_pattern ["_law_hand_here"] R_l_pattern) (h_l_long : FnH P w K mg base 3 "_law_long" f_l_long fd_l_long ["_law_hand_here"] R_l_long) (h_l_hand : FnH P w K mg base 1 "_law_hand" f_l_hand fd_l_hand ["_law_script"] R_l_hand) (m_range : mg "range" = none) (m_isinstance : mg "isinstance" = none) (m_tuple : mg "tuple" = none)
    (gd : (A.deeper (envOfC "law" (defScope s_law) s.heap.objs.size f cdv)).guards = some []) (hr : Room 4 (A.deeper (envOfC "law" (defScope s_law) s.heap.objs.size f cdv))) :
    DSs (cxOf CX0 P w K mg base ["_law_script", "_law_hand_here", "_law_it", "_law_turn", "_law_change", "_law_one"] "law" (defScope s_law) f cdv A outer s H E).nox (defBody s_law) (T_law R_l_odd R_l_name R_l_right R_l_pick R_l_bent R_l_pattern R_l_long R_l_hand) :=
  (dss_cons (ds_set 1 sc_law.nd (dcall h_l_hand gd hr (da_cons (dv 0) da_nil)))
    (dss_cons (ds_for (t := (.nm 2)) PassesOwn.never rfl (di_seq (dcall h_l_long gd hr (da_cons (dv 1) da_nil))) (dg_nm 2 sc_law.nd) (dss_one (ds_if (dt_not (dt_val (dcall h_l_right gd hr (da_cons (dv 2) da_nil)))) (dss_one (ds_ret de_bl)) dss_nil)))
    (dss_cons (ds_for (t := (.nm 3)) PassesOwn.never rfl (di_rng1 (by rfl) m_range (da_cons de_int da_nil)) (dg_nm 3 sc_law.nd) (dss_cons (ds_set 2 sc_law.nd (dcall h_l_pattern gd hr (da_cons (dv 1) da_nil)))
    (dss_cons (ds_for (t := (.nm 4)) PassesOwn.never rfl (di_rng1 (by rfl) m_range (da_cons (dcall h_l_pick gd hr (da_cons (dv 1) (da_cons (de_lst (da_cons de_int (da_cons de_int (da_cons de_int (da_cons de_int (da_cons de_int da_nil)))))) da_nil))) da_nil)) (dg_nm 4 sc_law.nd) (dss_one (ds_set 2 sc_law.nd (de_if (dt_val (de_isi .tup (dv 2) (by rfl) m_isinstance (by rfl) m_tuple (by decide +kernel))) (dcall h_l_bent gd hr (da_cons (dv 1) (da_cons (dv 2) da_nil))) (dcall h_l_odd gd hr (da_cons (dv 1) da_nil))))))
    (dss_one (ds_for (t := (.nm 5)) PassesOwn.never rfl (di_seq (de_lst (da_cons (dv 2) (da_cons (dcall h_l_name gd hr (da_cons (dv 1) da_nil)) (da_cons (dcall h_l_odd gd hr (da_cons (dv 1) da_nil)) (da_cons (de_tup (da_cons (dcall h_l_odd gd hr (da_cons (dv 1) da_nil)) da_nil)) (da_cons (de_tup (da_cons (dcall h_l_name gd hr (da_cons (dv 1) da_nil)) (da_cons (dcall h_l_odd gd hr (da_cons (dv 1) da_nil)) da_nil))) da_nil))))))) (dg_nm 5 sc_law.nd) (dss_one (ds_if (dt_not (dt_val (dcall h_l_right gd hr (da_cons (dv 5) da_nil)))) (dss_one (ds_ret de_bl)) dss_nil)))))))
    (dss_one (ds_ret de_bl)))))
theorem ok_law {P : Program} {w : World} {K : PySem.W.Frag} {mg : Str → Option Value} {base : Heap} {f : Addr} {fd : FuncData} {R : RD} {f_l_odd f_l_name f_l_right f_l_pick f_l_bent f_l_pattern f_l_long f_l_hand : Addr} {fd_l_odd fd_l_name fd_l_right fd_l_pick fd_l_bent fd_l_pattern fd_l_long fd_l_hand : FuncData} {R_l_odd R_l_name R_l_right R_l_pick R_l_bent R_l_pattern R_l_long R_l_hand : RD} (h_l_odd : FnH P w K mg base 3 "_law_odd" f_l_odd fd_l_odd ["_law_hand_here"] R_l_odd) (h_l_name : FnH P w K mg base 3 "_law_name" f_l_name fd_l_name ["_law_hand_here"] R_l_name) (h_l_right : FnH P w K mg base 3 "_law_right" f_l_right fd_l_right ["_law_it"] R_l_right) (h_l_pick : FnH P w K mg base 2 "_law_pick" f_l_pick fd_l_pick ["_law_hand_here", "_law_some"] R_l_pick) (h_l_bent : FnH P w K mg base 4 "_law_bent" f_l_bent fd_l_bent ["_law_hand_here", "_law_it"] R_l_bent) (h_l_pattern : FnH P w K mg base 4 "_law_pattern" f_l_pattern fd_l_pattern ["_law_hand_here"] R_l_pattern) (h_l_long : FnH P w K mg base 3 "_law_long" f_l_long fd_l_long ["_law_hand_here"] R_l_long) (h_l_hand : FnH P w K mg base 1 "_law_hand" f_l_hand fd_l_hand ["_law_script"] R_l_hand) (m_range : mg "range" = none) (m_isinstance : mg "isinstance" = none) (m_tuple : mg "tuple" = none) (Fu : Fun K "law" "law" s_law f fd) (bi : Binds K fd ["_law_script"] []) (gm : mg "law" = some (.ref f)) (hn : ∀ xs M F, R xs M F → xs.length = 1)
    (hR : ∀ ds M F, R ds M F → T_law R_l_odd R_l_name R_l_right R_l_pick R_l_bent R_l_pattern R_l_long R_l_hand { nx := fun _ M' => F .non M', rt := F } (startD 6 ds) M) : FnH P w K mg base 5 "law" f fd ["_law_script"] R :=
  ⟨fnd Fu sc_law fun cdv A outer s H E gd hr => ⟨_, dr_law h_l_odd h_l_name h_l_right h_l_pick h_l_bent h_l_pattern h_l_long h_l_hand m_range m_isinstance m_tuple gd hr, fun ds M F _ h => hR ds M F h⟩, hn, gm, Fu.kp, bi⟩
end K02

namespace K02
open PySem PySem.Spec PyProof.Rows L2 Fx
theorem all_mk {l : PySem.W.OpenLaw} {w : World} {K : PySem.W.Frag} {h : Heap} {mg : Str → Option Value} {fa : Addr} (X : K.In h) (G : h.Ns mainGlobals mg) (hfa : mg "law" = some (.ref fa))
    {od0 an0 : Option Addr} {sl0 : Array (Option Value)} {oc0 kV0 dc0 pm0 cd0 ct0 : Value} {f0 : Addr}
    {od1 an1 : Option Addr} {sl1 : Array (Option Value)} {oc1 kV1 dc1 pm1 cd1 ct1 : Value} {f1 : Addr}
    {od2 an2 : Option Addr} {sl2 : Array (Option Value)} {oc2 kV2 dc2 pm2 cd2 ct2 : Value} {f2 : Addr}
    {od3 an3 : Option Addr} {sl3 : Array (Option Value)} {oc3 kV3 dc3 pm3 cd3 ct3 : Value} {f3 : Addr}
    {od4 an4 : Option Addr} {sl4 : Array (Option Value)} {oc4 kV4 dc4 pm4 cd4 ct4 : Value} {f4 : Addr}
    {od5 an5 : Option Addr} {sl5 : Array (Option Value)} {oc5 kV5 dc5 pm5 cd5 ct5 : Value} {f5 : Addr}
    {od6 an6 : Option Addr} {sl6 : Array (Option Value)} {oc6 kV6 dc6 pm6 cd6 ct6 : Value} {f6 : Addr}
    {od7 an7 : Option Addr} {sl7 : Array (Option Value)} {oc7 kV7 dc7 pm7 cd7 ct7 : Value} {f7 : Addr}
    {od8 an8 : Option Addr} {sl8 : Array (Option Value)} {oc8 kV8 dc8 pm8 cd8 ct8 : Value} {f8 : Addr}
    {od9 an9 : Option Addr} {sl9 : Array (Option Value)} {oc9 kV9 dc9 pm9 cd9 ct9 : Value} {f9 : Addr}
    {od10 an10 : Option Addr} {sl10 : Array (Option Value)} {oc10 kV10 dc10 pm10 cd10 ct10 : Value} {f10 : Addr}
    {od11 an11 : Option Addr} {sl11 : Array (Option Value)} {oc11 kV11 dc11 pm11 cd11 ct11 : Value} {f11 : Addr}
    {od12 an12 : Option Addr} {sl12 : Array (Option Value)} {oc12 kV12 dc12 pm12 cd12 ct12 : Value} {f12 : Addr}
    {od13 an13 : Option Addr} {sl13 : Array (Option Value)} {oc13 kV13 dc13 pm13 cd13 ct13 : Value} {f13 : Addr}
    {od14 an14 : Option Addr} {sl14 : Array (Option Value)} {oc14 kV14 dc14 pm14 cd14 ct14 : Value} {f14 : Addr}
    {od15 an15 : Option Addr} {sl15 : Array (Option Value)} {oc15 kV15 dc15 pm15 cd15 ct15 : Value} {f15 : Addr}
    {t_HOLE : Tok}
    {t_LETTERS : Tok}
    {t_LONGEST_NAME : Tok}
    (a0 : PySem.W.nsIn K mainGlobals "is_name" = some (some (.ref f0))) (l0 : K.lookup f0 = some ⟨oc0, od0, .func (PySem.W.fnOf "is_name" "is_name" (defArgs s_is_name) (defBody s_is_name) (defScope s_is_name) .none kV0 dc0 pm0 an0 cd0 ct0), sl0⟩) (c0 : PySem.W.codeIn K cd0 "is_name" = true) (k0 : PySem.W.keepIn K (.ref f0) = true)
    (a1 : PySem.W.nsIn K mainGlobals "has_hole" = some (some (.ref f1))) (l1 : K.lookup f1 = some ⟨oc1, od1, .func (PySem.W.fnOf "has_hole" "has_hole" (defArgs s_has_hole) (defBody s_has_hole) (defScope s_has_hole) .none kV1 dc1 pm1 an1 cd1 ct1), sl1⟩) (c1 : PySem.W.codeIn K cd1 "has_hole" = true) (k1 : PySem.W.keepIn K (.ref f1) = true)
    (a2 : PySem.W.nsIn K mainGlobals "_law_hand" = some (some (.ref f2))) (l2 : K.lookup f2 = some ⟨oc2, od2, .func (PySem.W.fnOf "_law_hand" "_law_hand" (defArgs s_l_hand) (defBody s_l_hand) (defScope s_l_hand) .none kV2 dc2 pm2 an2 cd2 ct2), sl2⟩) (c2 : PySem.W.codeIn K cd2 "_law_hand" = true) (k2 : PySem.W.keepIn K (.ref f2) = true)
    (a3 : PySem.W.nsIn K mainGlobals "_law_draw" = some (some (.ref f3))) (l3 : K.lookup f3 = some ⟨oc3, od3, .func (PySem.W.fnOf "_law_draw" "_law_draw" (defArgs s_l_draw) (defBody s_l_draw) (defScope s_l_draw) .none kV3 dc3 pm3 an3 cd3 ct3), sl3⟩) (c3 : PySem.W.codeIn K cd3 "_law_draw" = true) (k3 : PySem.W.keepIn K (.ref f3) = true)
    (a4 : PySem.W.nsIn K mainGlobals "_law_is_name" = some (some (.ref f4))) (l4 : K.lookup f4 = some ⟨oc4, od4, .func (PySem.W.fnOf "_law_is_name" "_law_is_name" (defArgs s_l_is_name) (defBody s_l_is_name) (defScope s_l_is_name) .none kV4 dc4 pm4 an4 cd4 ct4), sl4⟩) (c4 : PySem.W.codeIn K cd4 "_law_is_name" = true) (k4 : PySem.W.keepIn K (.ref f4) = true)
    (a5 : PySem.W.nsIn K mainGlobals "is_kind" = some (some (.ref f5))) (l5 : K.lookup f5 = some ⟨oc5, od5, .func (PySem.W.fnOf "is_kind" "is_kind" (defArgs s_is_kind) (defBody s_is_kind) (defScope s_is_kind) .none kV5 dc5 pm5 an5 cd5 ct5), sl5⟩) (c5 : PySem.W.codeIn K cd5 "is_kind" = true) (k5 : PySem.W.keepIn K (.ref f5) = true)
    (a6 : PySem.W.nsIn K mainGlobals "is_pattern" = some (some (.ref f6))) (l6 : K.lookup f6 = some ⟨oc6, od6, .func (PySem.W.fnOf "is_pattern" "is_pattern" (defArgs s_is_pattern) (defBody s_is_pattern) (defScope s_is_pattern) .none kV6 dc6 pm6 an6 cd6 ct6), sl6⟩) (c6 : PySem.W.codeIn K cd6 "is_pattern" = true) (k6 : PySem.W.keepIn K (.ref f6) = true)
    (a7 : PySem.W.nsIn K mainGlobals "_law_pick" = some (some (.ref f7))) (l7 : K.lookup f7 = some ⟨oc7, od7, .func (PySem.W.fnOf "_law_pick" "_law_pick" (defArgs s_l_pick) (defBody s_l_pick) (defScope s_l_pick) .none kV7 dc7 pm7 an7 cd7 ct7), sl7⟩) (c7 : PySem.W.codeIn K cd7 "_law_pick" = true) (k7 : PySem.W.keepIn K (.ref f7) = true)
    (a8 : PySem.W.nsIn K mainGlobals "_law_due" = some (some (.ref f8))) (l8 : K.lookup f8 = some ⟨oc8, od8, .func (PySem.W.fnOf "_law_due" "_law_due" (defArgs s_l_due) (defBody s_l_due) (defScope s_l_due) .none kV8 dc8 pm8 an8 cd8 ct8), sl8⟩) (c8 : PySem.W.codeIn K cd8 "_law_due" = true) (k8 : PySem.W.keepIn K (.ref f8) = true)
    (a9 : PySem.W.nsIn K mainGlobals "_law_name" = some (some (.ref f9))) (l9 : K.lookup f9 = some ⟨oc9, od9, .func (PySem.W.fnOf "_law_name" "_law_name" (defArgs s_l_name) (defBody s_l_name) (defScope s_l_name) .none kV9 dc9 pm9 an9 cd9 ct9), sl9⟩) (c9 : PySem.W.codeIn K cd9 "_law_name" = true) (k9 : PySem.W.keepIn K (.ref f9) = true)
    (a10 : PySem.W.nsIn K mainGlobals "_law_odd" = some (some (.ref f10))) (l10 : K.lookup f10 = some ⟨oc10, od10, .func (PySem.W.fnOf "_law_odd" "_law_odd" (defArgs s_l_odd) (defBody s_l_odd) (defScope s_l_odd) .none kV10 dc10 pm10 an10 cd10 ct10), sl10⟩) (c10 : PySem.W.codeIn K cd10 "_law_odd" = true) (k10 : PySem.W.keepIn K (.ref f10) = true)
    (a11 : PySem.W.nsIn K mainGlobals "_law_right" = some (some (.ref f11))) (l11 : K.lookup f11 = some ⟨oc11, od11, .func (PySem.W.fnOf "_law_right" "_law_right" (defArgs s_l_right) (defBody s_l_right) (defScope s_l_right) .none kV11 dc11 pm11 an11 cd11 ct11), sl11⟩) (c11 : PySem.W.codeIn K cd11 "_law_right" = true) (k11 : PySem.W.keepIn K (.ref f11) = true)
    (a12 : PySem.W.nsIn K mainGlobals "_law_long" = some (some (.ref f12))) (l12 : K.lookup f12 = some ⟨oc12, od12, .func (PySem.W.fnOf "_law_long" "_law_long" (defArgs s_l_long) (defBody s_l_long) (defScope s_l_long) .none kV12 dc12 pm12 an12 cd12 ct12), sl12⟩) (c12 : PySem.W.codeIn K cd12 "_law_long" = true) (k12 : PySem.W.keepIn K (.ref f12) = true)
    (a13 : PySem.W.nsIn K mainGlobals "_law_pattern" = some (some (.ref f13))) (l13 : K.lookup f13 = some ⟨oc13, od13, .func (PySem.W.fnOf "_law_pattern" "_law_pattern" (defArgs s_l_pattern) (defBody s_l_pattern) (defScope s_l_pattern) .none kV13 dc13 pm13 an13 cd13 ct13), sl13⟩) (c13 : PySem.W.codeIn K cd13 "_law_pattern" = true) (k13 : PySem.W.keepIn K (.ref f13) = true)
    (a14 : PySem.W.nsIn K mainGlobals "_law_bent" = some (some (.ref f14))) (l14 : K.lookup f14 = some ⟨oc14, od14, .func (PySem.W.fnOf "_law_bent" "_law_bent" (defArgs s_l_bent) (defBody s_l_bent) (defScope s_l_bent) .none kV14 dc14 pm14 an14 cd14 ct14), sl14⟩) (c14 : PySem.W.codeIn K cd14 "_law_bent" = true) (k14 : PySem.W.keepIn K (.ref f14) = true)
    (a15 : PySem.W.nsIn K mainGlobals "law" = some (some (.ref f15))) (l15 : K.lookup f15 = some ⟨oc15, od15, .func (PySem.W.fnOf "law" "law" (defArgs s_law) (defBody s_law) (defScope s_law) .none kV15 dc15 pm15 an15 cd15 ct15), sl15⟩) (c15 : PySem.W.codeIn K cd15 "law" = true) (k15 : PySem.W.keepIn K (.ref f15) = true)
    (m_all : PySem.W.nsIn K mainGlobals "all" = some none)
    (m_isinstance : PySem.W.nsIn K mainGlobals "isinstance" = some none)
    (m_len : PySem.W.nsIn K mainGlobals "len" = some none)
    (m_list : PySem.W.nsIn K mainGlobals "list" = some none)
    (m_ord : PySem.W.nsIn K mainGlobals "ord" = some none)
    (m_range : PySem.W.nsIn K mainGlobals "range" = some none)
    (m_repr : PySem.W.nsIn K mainGlobals "repr" = some none)
    (m_str : PySem.W.nsIn K mainGlobals "str" = some none)
    (m_tuple : PySem.W.nsIn K mainGlobals "tuple" = some none)
    (g_HOLE : PySem.W.nsIn K mainGlobals "HOLE" = some (some (.str "T" t_HOLE)))
    (g_LETTERS : PySem.W.nsIn K mainGlobals "LETTERS" = some (some (.str "abcdefghijklmnopqrstuvwxyz" t_LETTERS)))
    (g_LONGEST_NAME : PySem.W.nsIn K mainGlobals "LONGEST_NAME" = some (some (.int 8 t_LONGEST_NAME)))
    : ∃ fd : FuncData, (∀ (s : Shared) (u : Value), BindsTo s fd ⟨[u], []⟩ [("_law_script", u)]) ∧ ∀ base : Heap, K.In base → base.Ns mainGlobals mg → FnG l.prog w K mg base CX0 5 fa fd ["_law_script"] (SpD K 1 R_law) := by
  have e := hfa.symm.trans (PySem.W.mg_of X G a15)
  cases e
  have F0 := fun_mk (st := s_is_name) l0 c0 k0
  have b0 := F0.binds (ps := ["thing"]) fun _ _ _ _ _ _ us hl => match us, hl with | [_], _ => rfl
  have F1 := fun_mk (st := s_has_hole) l1 c1 k1
  have b1 := F1.binds (ps := ["pattern"]) fun _ _ _ _ _ _ us hl => match us, hl with | [_], _ => rfl
  have F2 := fun_mk (st := s_l_hand) l2 c2 k2
  have b2 := F2.binds (ps := ["_law_script"]) fun _ _ _ _ _ _ us hl => match us, hl with | [_], _ => rfl
  have F3 := fun_mk (st := s_l_draw) l3 c3 k3
  have b3 := F3.binds (ps := ["_law_hand_here", "_law_many"]) fun _ _ _ _ _ _ us hl => match us, hl with | [_, _], _ => rfl
  have F4 := fun_mk (st := s_l_is_name) l4 c4 k4
  have b4 := F4.binds (ps := ["_law_it"]) fun _ _ _ _ _ _ us hl => match us, hl with | [_], _ => rfl
  have F5 := fun_mk (st := s_is_kind) l5 c5 k5
  have b5 := F5.binds (ps := ["thing"]) fun _ _ _ _ _ _ us hl => match us, hl with | [_], _ => rfl
  have F6 := fun_mk (st := s_is_pattern) l6 c6 k6
  have b6 := F6.binds (ps := ["thing"]) fun _ _ _ _ _ _ us hl => match us, hl with | [_], _ => rfl
  have F7 := fun_mk (st := s_l_pick) l7 c7 k7
  have b7 := F7.binds (ps := ["_law_hand_here", "_law_some"]) fun _ _ _ _ _ _ us hl => match us, hl with | [_, _], _ => rfl
  have F8 := fun_mk (st := s_l_due) l8 c8 k8
  have b8 := F8.binds (ps := ["_law_it"]) fun _ _ _ _ _ _ us hl => match us, hl with | [_], _ => rfl
  have F9 := fun_mk (st := s_l_name) l9 c9 k9
  have b9 := F9.binds (ps := ["_law_hand_here"]) fun _ _ _ _ _ _ us hl => match us, hl with | [_], _ => rfl
  have F10 := fun_mk (st := s_l_odd) l10 c10 k10
  have b10 := F10.binds (ps := ["_law_hand_here"]) fun _ _ _ _ _ _ us hl => match us, hl with | [_], _ => rfl
  have F11 := fun_mk (st := s_l_right) l11 c11 k11
  have b11 := F11.binds (ps := ["_law_it"]) fun _ _ _ _ _ _ us hl => match us, hl with | [_], _ => rfl
  have F12 := fun_mk (st := s_l_long) l12 c12 k12
  have b12 := F12.binds (ps := ["_law_hand_here"]) fun _ _ _ _ _ _ us hl => match us, hl with | [_], _ => rfl
  have F13 := fun_mk (st := s_l_pattern) l13 c13 k13
  have b13 := F13.binds (ps := ["_law_hand_here"]) fun _ _ _ _ _ _ us hl => match us, hl with | [_], _ => rfl
  have F14 := fun_mk (st := s_l_bent) l14 c14 k14
  have b14 := F14.binds (ps := ["_law_hand_here", "_law_it"]) fun _ _ _ _ _ _ us hl => match us, hl with | [_, _], _ => rfl
  have F15 := fun_mk (st := s_law) l15 c15 k15
  have b15 := F15.binds (ps := ["_law_script"]) fun _ _ _ _ _ _ us hl => match us, hl with | [_], _ => rfl
  have kb_6_id := kb_id (ps := ["thing"]) F6 (by decide) fun _ _ _ _ _ _ us hl => match us, hl with | [_], _ => rfl
  have kb_5_id := kb_id (ps := ["thing"]) F5 (by decide) fun _ _ _ _ _ _ us hl => match us, hl with | [_], _ => rfl
  have kb_0_id := kb_id (ps := ["thing"]) F0 (by decide) fun _ _ _ _ _ _ us hl => match us, hl with | [_], _ => rfl
  refine ⟨PySem.W.fnOf "law" "law" (defArgs s_law) (defBody s_law) (defScope s_law) .none kV15 dc15 pm15 an15 cd15 ct15, fun s v => .of_eq rfl, fun base _ _ => ?_⟩
  have n_all := PySem.W.mg_none_of X G m_all
  have n_isinstance := PySem.W.mg_none_of X G m_isinstance
  have n_len := PySem.W.mg_none_of X G m_len
  have n_list := PySem.W.mg_none_of X G m_list
  have n_ord := PySem.W.mg_none_of X G m_ord
  have n_range := PySem.W.mg_none_of X G m_range
  have n_repr := PySem.W.mg_none_of X G m_repr
  have n_str := PySem.W.mg_none_of X G m_str
  have n_tuple := PySem.W.mg_none_of X G m_tuple
  have v_HOLE : GV K mg "HOLE" (.str "T") := GV.str (PySem.W.mg_of X G g_HOLE)
  have v_LETTERS : GV K mg "LETTERS" (.str "abcdefghijklmnopqrstuvwxyz") := GV.str (PySem.W.mg_of X G g_LETTERS)
  have v_LONGEST_NAME : GV K mg "LONGEST_NAME" (.int 8) := GV.int (PySem.W.mg_of X G g_LONGEST_NAME)
  have H0 := ok_is_name (P := l.prog) (w := w) (base := base) (R := R_is_name) n_all n_len n_isinstance n_str v_LETTERS v_LONGEST_NAME F0 b0 (PySem.W.mg_of X G a0) ln_is_name rd_is_name
  have H1 := ok_has_hole (P := l.prog) (w := w) (base := base) (R := R_has_hole) n_isinstance n_str v_HOLE F1 b1 (PySem.W.mg_of X G a1) ln_has_hole rd_has_hole
  have H2 := ok_l_hand (P := l.prog) (w := w) (base := base) (R := R_hand) n_list F2 b2 (PySem.W.mg_of X G a2) ln_hand rd_l_hand
  have H3 := ok_l_draw (P := l.prog) (w := w) (base := base) (R := R_draw) F3 b3 (PySem.W.mg_of X G a3) ln_draw rd_l_draw
  have H4 := ok_l_is_name (P := l.prog) (w := w) (base := base) (R := R_is_name) n_ord n_len n_isinstance n_str F4 b4 (PySem.W.mg_of X G a4) ln_is_name rd_l_is_name
  have H5 := ok_is_kind (P := l.prog) (w := w) (base := base) (R := R_is_kind) H0 n_all n_isinstance n_tuple F5 b5 (PySem.W.mg_of X G a5) ln_is_kind rd_is_kind
  have H6 := ok_is_pattern (P := l.prog) (w := w) (base := base) (R := R_is_pattern) H1 H0 n_all n_isinstance n_tuple F6 b6 (PySem.W.mg_of X G a6) ln_is_pattern rd_is_pattern
  have H7 := ok_l_pick (P := l.prog) (w := w) (base := base) (R := R_pick) H3 n_len F7 b7 (PySem.W.mg_of X G a7) ln_pick rd_l_pick
  have H8 := ok_l_due (P := l.prog) (w := w) (base := base) (R := R_l_due) H4 n_repr n_len n_isinstance n_tuple n_str F8 b8 (PySem.W.mg_of X G a8) ln_l_due rd_l_due
  have H9 := ok_l_name (P := l.prog) (w := w) (base := base) (R := (R_gen P_name)) H3 H7 n_range F9 b9 (PySem.W.mg_of X G a9) ln_gen rd_l_name
  have H10 := ok_l_odd (P := l.prog) (w := w) (base := base) (R := (R_gen P_odd)) H7 F10 b10 (PySem.W.mg_of X G a10) ln_gen rd_l_odd
  have H11 := ok_l_right (P := l.prog) (w := w) (base := base) (R := R_l_right) H6 H5 H0 H8 kb_6_id kb_5_id kb_0_id n_repr F11 b11 (PySem.W.mg_of X G a11) ln_l_right rd_l_right
  have H12 := ok_l_long (P := l.prog) (w := w) (base := base) (R := (R_gen P_long)) H7 H3 n_tuple F12 b12 (PySem.W.mg_of X G a12) ln_gen rd_l_long
  have H13 := ok_l_pattern (P := l.prog) (w := w) (base := base) (R := (R_gen P_pat)) H7 H9 n_tuple n_range F13 b13 (PySem.W.mg_of X G a13) ln_gen rd_l_pattern
  have H14 := ok_l_bent (P := l.prog) (w := w) (base := base) (R := R_l_bent) H10 H7 H9 H3 n_list n_len F14 b14 (PySem.W.mg_of X G a14) ln_l_bent rd_l_bent
  have H15 := ok_law (P := l.prog) (w := w) (base := base) (R := R_law) H10 H9 H11 H7 H14 H13 H12 H2 n_range n_isinstance n_tuple F15 b15 (PySem.W.mg_of X G a15) ln_law rd_law
  exact H15.fn
end K02
open PySem PySem.W PyProof.Rows
set_option maxHeartbeats 0 in
theorem PySem.Challenge.cw_finishable_k02_names_kinds_and_patterns_holds : PySem.Challenge.rw_finishable_k02_names_kinds_and_patterns.Holds := by
  w_on; o_law; k_head; (case hw => w_witness2)
  k_fill
  refine Fx.walkG (l := PySem.Challenge.rw_finishable_k02_names_kinds_and_patterns) (n := 63) (k := 5) (x := "_law_script") (R := K02.R_law) rfl (by decide) rfl ⟨rfl, by decide, by decide⟩ (fun w h Y => PySem.W.kIn_of Y) ?F K02.at_end
  case F =>
    intro w mg fa h KX G hmg
    refine' K02.all_mk KX G hmg ?a0 ?l0 ?c0 ?k0 ?a1 ?l1 ?c1 ?k1 ?a2 ?l2 ?c2 ?k2 ?a3 ?l3 ?c3 ?k3 ?a4 ?l4 ?c4 ?k4 ?a5 ?l5 ?c5 ?k5 ?a6 ?l6 ?c6 ?k6 ?a7 ?l7 ?c7 ?k7 ?a8 ?l8 ?c8 ?k8 ?a9 ?l9 ?c9 ?k9 ?a10 ?l10 ?c10 ?k10 ?a11 ?l11 ?c11 ?k11 ?a12 ?l12 ?c12 ?k12 ?a13 ?l13 ?c13 ?k13 ?a14 ?l14 ?c14 ?k14 ?a15 ?l15 ?c15 ?k15 ?m_all ?m_isinstance ?m_len ?m_list ?m_ord ?m_range ?m_repr ?m_str ?m_tuple ?g_HOLE ?g_LETTERS ?g_LONGEST_NAME
    (case a0 => k_is); (case l0 => k_is); (case c0 => k_is); (case k0 => k_is); (case a1 => k_is); (case l1 => k_is); (case c1 => k_is); (case k1 => k_is); (case a2 => k_is); (case l2 => k_is); (case c2 => k_is); (case k2 => k_is); (case a3 => k_is); (case l3 => k_is); (case c3 => k_is); (case k3 => k_is); (case a4 => k_is); (case l4 => k_is); (case c4 => k_is); (case k4 => k_is); (case a5 => k_is); (case l5 => k_is); (case c5 => k_is); (case k5 => k_is); (case a6 => k_is); (case l6 => k_is); (case c6 => k_is); (case k6 => k_is); (case a7 => k_is); (case l7 => k_is); (case c7 => k_is); (case k7 => k_is); (case a8 => k_is); (case l8 => k_is); (case c8 => k_is); (case k8 => k_is); (case a9 => k_is); (case l9 => k_is); (case c9 => k_is); (case k9 => k_is); (case a10 => k_is); (case l10 => k_is); (case c10 => k_is); (case k10 => k_is); (case a11 => k_is); (case l11 => k_is); (case c11 => k_is); (case k11 => k_is); (case a12 => k_is); (case l12 => k_is); (case c12 => k_is); (case k12 => k_is); (case a13 => k_is); (case l13 => k_is); (case c13 => k_is); (case k13 => k_is); (case a14 => k_is); (case l14 => k_is); (case c14 => k_is); (case k14 => k_is); (case a15 => k_is); (case l15 => k_is); (case c15 => k_is); (case k15 => k_is); (case m_all => k_is); (case m_isinstance => k_is); (case m_len => k_is); (case m_list => k_is); (case m_ord => k_is); (case m_range => k_is); (case m_repr => k_is); (case m_str => k_is); (case m_tuple => k_is); (case g_HOLE => k_is); (case g_LETTERS => k_is); (case g_LONGEST_NAME => k_is)

