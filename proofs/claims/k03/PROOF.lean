import PyProof.Rows.All
import Wide.All
import OpenK.AllK
import Wide.FinOn
import HandS.ForMost
import HandS.ForExc
import HandS.IsInst
import HandS.Wide
import HandS.Flow
import HandS.Deep
import HandS.Style
import HandS.Defaults
import HandS.CallSlots
import HandS.Zip
import HandS.More
import HandS.Head0
import HandS.Head1
import HandS.Head2
import HandS.HeadEnd
import HandS.HeadHook1
import HandS.HeadHook2
import HandS.EndBits
import KE.KStateDown
import PySem.Challenge.RW_knowsmore_k03_whole_near_and_simple
set_option Elab.async false
set_option linter.all false
set_option maxRecDepth 100000
set_option maxHeartbeats 4000000
/-! KMA: values with plain tuples, partial views of the heap, how they lie over the hand layer's heap. -/
namespace KM
open PySem PySem.Spec PyProof.Rows L2

/-- a value: a tuple is plain data, a list (or another thing that changes) stands at an address -/
inductive Val where
  | non | bl (b : Bool) | int (i : Int) | str (x : Str) | tup (xs : List Val) | rom (xs : List Val) | ref (a : Addr) | ty (n : String)
  deriving Inhabited

/-- what stands at an address of the view -/
inductive Ob where
  | lst (xs : List Val)

abbrev Hep := Addr → Option Ob
def hset (h : Hep) (a : Addr) (o : Ob) : Hep := fun b => if b = a then some o else h b
theorem hset_same {h : Hep} {a : Addr} {o : Ob} : hset h a o a = some o := by unfold hset; rw [if_pos rfl]
theorem hset_ne {h : Hep} {a b : Addr} {o : Ob} (q : b ≠ a) : hset h a o b = h b := by unfold hset; rw [if_neg q]

/-- a list that nobody writes -/
def RomL (K : PySem.W.Frag) (H : Hp) (a : Addr) (us : List V) : Prop :=
  (∃ o, H a = some (.frz o (.lst us))) ∨
    ∃ (o : Obj) (its : Array Value) (n : Nat), K.lookup a = some o ∧ o.cls = .type "list" ∧ o.dict = none ∧ o.data = .seq its n ∧ its.size ≤ sizeLine ∧ Vals us its.toList
theorem RomL.sq {K : PySem.W.Frag} {H : Hp} {a : Addr} {us : List V} (t : RomL K H a us) : SqL K H a us := by
  rcases t with ⟨o, t⟩ | t
  · exact .inl (.inr ⟨o, t⟩)
  · exact .inr t

mutual
def RV (K : PySem.W.Frag) (H : Hp) : Val → V → Prop
  | .non, u => u = V.non
  | .bl b, u => u = V.bl b
  | .int i, u => u = V.int i
  | .str x, u => u = V.str x
  | .ty n, u => u = V.ty n
  | .ref a, u => u = V.ref a
  | .tup xs, u => ∃ p us, u = V.ref p ∧ SqT K H p us ∧ RVs K H xs us
  | .rom xs, u => ∃ p us, u = V.ref p ∧ RomL K H p us ∧ RVs K H xs us
def RVs (K : PySem.W.Frag) (H : Hp) : List Val → List V → Prop
  | [], us => us = []
  | x :: xs, us => ∃ u r, us = u :: r ∧ RV K H x u ∧ RVs K H xs r
end

def RO (K : PySem.W.Frag) (H : Hp) (a : Addr) : Ob → Prop
  | .lst xs => ∃ us, H a = some (.lst us) ∧ RVs K H xs us
/-- the view h lies over H -/
def Sim (K : PySem.W.Frag) (h : Hep) (H : Hp) : Prop := ∀ a o, h a = some o → RO K H a o

/-- a step: what the view doesn't show is kept, nothing goes, the view shows nothing of old that it hadn't shown -/
structure Go (h : Hep) (H : Hp) (h' : Hep) (H' : Hp) : Prop where
  fr : ∀ a o, H a = some o → h a = none → H' a = some o
  dm : ∀ a, H a ≠ none → H' a ≠ none
  nw : ∀ a, h a = none → H a ≠ none → h' a = none
theorem Go.refl (h : Hep) (H : Hp) : Go h H h H := ⟨fun _ _ e _ => e, fun _ e => e, fun _ e _ => e⟩
theorem Go.trans {h h1 h2 : Hep} {H H1 H2 : Hp} (x : Go h H h1 H1) (y : Go h1 H1 h2 H2) : Go h H h2 H2 where
  fr := fun a o e n => y.fr a o (x.fr a o e n) (x.nw a n (by rw [e]; simp))
  dm := fun a e => y.dm a (x.dm a e)
  nw := fun a n e => y.nw a (x.nw a n e) (x.dm a e)

section
variable {K : PySem.W.Frag} {h h' : Hep} {H H' : Hp}
theorem Sim.kind (s : Sim K h H) {a : Addr} {o : HO} (e : H a = some o) (n : ∀ us, o ≠ .lst us) : h a = none := by
  cases q : h a with
  | none => rfl
  | some ob =>
    have r := s a ob q
    cases ob with
    | lst xs =>
      obtain ⟨us, e2, _⟩ := r
      rw [e] at e2
      exact absurd (Option.some.inj e2) (n us)
theorem Sim.free (s : Sim K h H) {a : Addr} (e : H a = none) : h a = none := by
  cases q : h a with
  | none => rfl
  | some ob =>
    have r := s a ob q
    cases ob with
    | lst xs =>
      obtain ⟨us, e2, _⟩ := r
      rw [e] at e2
      cases e2
theorem SqT.go (s : Sim K h H) (g : Go h H h' H') {a : Addr} {us : List V} (t : SqT K H a us) : SqT K H' a us := by
  rcases t with (t | ⟨o, t⟩) | t
  · exact .inl (.inl (g.fr a _ t (s.kind t (fun us z => by cases z))))
  · exact .inl (.inr ⟨o, g.fr a _ t (s.kind t (fun us z => by cases z))⟩)
  · exact .inr t
theorem RomL.go (s : Sim K h H) (g : Go h H h' H') {a : Addr} {us : List V} (t : RomL K H a us) : RomL K H' a us := by
  rcases t with ⟨o, t⟩ | t
  · exact .inl ⟨o, g.fr a _ t (s.kind t (fun us z => by cases z))⟩
  · exact .inr t
mutual
theorem RV.go (s : Sim K h H) (g : Go h H h' H') : ∀ {v : Val} {u : V}, RV K H v u → RV K H' v u
  | .non, _, r => r
  | .bl _, _, r => r
  | .int _, _, r => r
  | .str _, _, r => r
  | .ty _, _, r => r
  | .ref _, _, r => r
  | .tup _, _, ⟨p, us, e, t, q⟩ => ⟨p, us, e, SqT.go s g t, RVs.go s g q⟩
  | .rom _, _, ⟨p, us, e, t, q⟩ => ⟨p, us, e, RomL.go s g t, RVs.go s g q⟩
theorem RVs.go (s : Sim K h H) (g : Go h H h' H') : ∀ {vs : List Val} {us : List V}, RVs K H vs us → RVs K H' vs us
  | [], _, r => r
  | _ :: _, _, ⟨u, r, e, q, t⟩ => ⟨u, r, e, RV.go s g q, RVs.go s g t⟩
end
theorem RVs.length : ∀ {vs : List Val} {us : List V}, RVs K H vs us → us.length = vs.length
  | [], _, r => by
    have e : _ = [] := r
    rw [e]; rfl
  | _ :: _, _, ⟨u, r, e, q, t⟩ => by rw [e, List.length_cons, List.length_cons, RVs.length t]
theorem RVs.get : ∀ {vs : List Val} {us : List V} {i : Nat} {v : Val}, RVs K H vs us → vs[i]? = some v → ∃ u, us[i]? = some u ∧ RV K H v u
  | [], _, _, _, _, e => by simp at e
  | _ :: _, _, 0, _, ⟨u, r, e, q, t⟩, x => by
    simp at x; subst x; subst e; exact ⟨u, rfl, q⟩
  | _ :: _, _, i + 1, v, ⟨u, r, e, q, t⟩, x => by
    subst e
    obtain ⟨w, e1, e2⟩ := RVs.get (i := i) (v := v) t (by simpa using x)
    exact ⟨w, by simpa using e1, e2⟩
theorem RVs.get' : ∀ {vs : List Val} {us : List V} {i : Nat} {u : V}, RVs K H vs us → us[i]? = some u → ∃ v, vs[i]? = some v ∧ RV K H v u
  | [], _, _, _, r, e => by
    have z : _ = [] := r
    subst z
    simp at e
  | _ :: _, _, 0, _, ⟨u, r, e, q, t⟩, x => by
    subst e
    simp at x; subst x; exact ⟨_, rfl, q⟩
  | _ :: _, _, i + 1, v, ⟨u, r, e, q, t⟩, x => by
    subst e
    obtain ⟨w, e1, e2⟩ := RVs.get' (i := i) (u := v) t (by simpa using x)
    exact ⟨w, by simpa using e1, e2⟩
theorem RVs.cons {v : Val} {u : V} {vs : List Val} {us : List V} (a : RV K H v u) (b : RVs K H vs us) : RVs K H (v :: vs) (u :: us) := ⟨u, us, rfl, a, b⟩
theorem RVs.nil : RVs K H [] [] := rfl
theorem RVs.app : ∀ {vs ws : List Val} {us xs : List V}, RVs K H vs us → RVs K H ws xs → RVs K H (vs ++ ws) (us ++ xs)
  | [], _, _, _, r, t => by
    have e : _ = [] := r
    rw [e]; exact t
  | _ :: _, _, _, _, ⟨u, r, e, q, t⟩, z => by
    rw [e]; exact ⟨u, _, rfl, q, RVs.app t z⟩
theorem RVs.set {v : Val} {u : V} (a : RV K H v u) : ∀ {vs : List Val} {us : List V} (i : Nat), RVs K H vs us → RVs K H (vs.set i v) (us.set i u)
  | [], _, _, r => by
    have e : _ = [] := r
    rw [e]; rfl
  | _ :: _, _, 0, ⟨w, r, e, q, t⟩ => by
    rw [e]; exact ⟨u, r, rfl, a, t⟩
  | _ :: _, _, i + 1, ⟨w, r, e, q, t⟩ => by
    rw [e]; exact ⟨w, _, rfl, q, RVs.set a i t⟩
theorem RVs.take : ∀ {vs : List Val} {us : List V} (n : Nat), RVs K H vs us → RVs K H (vs.take n) (us.take n)
  | _, _, 0, _ => rfl
  | [], _, _ + 1, r => by
    have e : _ = [] := r
    rw [e]; rfl
  | _ :: _, _, n + 1, ⟨w, r, e, q, t⟩ => by
    rw [e]; exact ⟨w, _, rfl, q, RVs.take n t⟩
theorem RVs.drop : ∀ {vs : List Val} {us : List V} (n : Nat), RVs K H vs us → RVs K H (vs.drop n) (us.drop n)
  | _, _, 0, r => r
  | [], _, _ + 1, r => by
    have e : _ = [] := r
    rw [e]; rfl
  | _ :: _, _, n + 1, ⟨w, r, e, q, t⟩ => by
    rw [e]; exact RVs.drop n t
theorem RVs.rev : ∀ {vs : List Val} {us : List V}, RVs K H vs us → RVs K H vs.reverse us.reverse
  | [], _, r => by
    have e : _ = [] := r
    rw [e]; rfl
  | _ :: _, _, ⟨w, r, e, q, t⟩ => by
    rw [e, List.reverse_cons, List.reverse_cons]
    exact RVs.app (RVs.rev t) (RVs.cons q RVs.nil)
theorem RVs.erase : ∀ {vs : List Val} {us : List V} (n : Nat), RVs K H vs us → RVs K H (vs.eraseIdx n) (us.eraseIdx n)
  | [], _, _, r => by
    have e : _ = [] := r
    rw [e]; rfl
  | _ :: _, _, 0, ⟨w, r, e, q, t⟩ => by
    rw [e]; exact t
  | _ :: _, _, n + 1, ⟨w, r, e, q, t⟩ => by
    rw [e]; exact ⟨w, _, rfl, q, RVs.erase n t⟩
theorem RVs.ints : ∀ {ns : List Int} {us : List V}, RVs K H (ns.map Val.int) us → us = ns.map V.int
  | [], _, r => r
  | _ :: _, _, ⟨w, r, e, q, t⟩ => by
    rw [e, show w = _ from q, RVs.ints t]; rfl
theorem RVs.bls : ∀ {ns : List Bool} {us : List V}, RVs K H (ns.map Val.bl) us → us = ns.map V.bl
  | [], _, r => r
  | _ :: _, _, ⟨w, r, e, q, t⟩ => by
    rw [e, show w = _ from q, RVs.bls t]; rfl
theorem RVs.of_ints : ∀ (ns : List Int), RVs K H (ns.map Val.int) (ns.map V.int)
  | [] => rfl
  | _ :: r => ⟨_, _, rfl, rfl, RVs.of_ints r⟩
theorem Sim.go {h0 : Hep} (s : Sim K h H) (s0 : Sim K h0 H) (g : Go h H h' H') (d : ∀ a o, h0 a = some o → h a = none) : Sim K h0 H' := fun a o e => by
  have r := s0 a o e
  cases o with
  | lst xs =>
    obtain ⟨us, e2, q⟩ := r
    exact ⟨us, g.fr a _ e2 (d a _ e), RVs.go s g q⟩

/-! ### new things, things written -/
theorem go_new {p : Addr} {o : HO} {ob : Ob} (n : H p = none) : Go h H (hset h p ob) (upd H p o) where
  fr := fun a o' e _ => by rw [upd_ne (ne_of_none e n)]; exact e
  dm := fun a e => by
    by_cases z : a = p
    · subst z; rw [upd_same]; simp
    · rw [upd_ne z]; exact e
  nw := fun a e z => by
    have q : a ≠ p := fun y => by subst y; exact z n
    rw [hset_ne q]; exact e
/-- laid, but not shown -/
theorem go_hid {p : Addr} {o : HO} (n : H p = none) : Go h H h (upd H p o) where
  fr := fun a o' e _ => by rw [upd_ne (ne_of_none e n)]; exact e
  dm := fun a e => by
    by_cases z : a = p
    · subst z; rw [upd_same]; simp
    · rw [upd_ne z]; exact e
  nw := fun a e z => e
theorem go_set {p : Addr} {o : HO} {ob ob0 : Ob} (n : h p = some ob0) : Go h H (hset h p ob) (upd H p o) where
  fr := fun a o' e z => by
    have q : a ≠ p := fun y => by subst y; rw [n] at z; cases z
    rw [upd_ne q]; exact e
  dm := fun a e => by
    by_cases z : a = p
    · subst z; rw [upd_same]; simp
    · rw [upd_ne z]; exact e
  nw := fun a e z => by
    have q : a ≠ p := fun y => by subst y; rw [n] at e; cases e
    rw [hset_ne q]; exact e
theorem Sim.hid (s : Sim K h H) {p : Addr} {o : HO} (n : H p = none) : Sim K h (upd H p o) :=
  Sim.go (h := fun _ => none) (h' := fun _ => none) (fun _ _ e => nomatch e) s (go_hid n) fun _ _ _ => rfl
theorem Sim.new (s : Sim K h H) {p : Addr} {xs : List Val} {us : List V} (n : H p = none) (r : RVs K H xs us) : Sim K (hset h p (.lst xs)) (upd H p (.lst us)) := fun a o e => by
  have g : Go h H h (upd H p (.lst us)) := go_hid n
  by_cases z : a = p
  · subst z
    rw [hset_same] at e
    cases e
    exact ⟨us, upd_same, RVs.go s g r⟩
  · rw [hset_ne z] at e
    have q := s.hid (o := .lst us) n a o e
    exact q
theorem Sim.set (s : Sim K h H) {p : Addr} {xs : List Val} {us : List V} {ob0 : Ob} (n : h p = some ob0) (r : RVs K H xs us) : Sim K (hset h p (.lst xs)) (upd H p (.lst us)) := fun a o e => by
  have g : Go h H (hset h p (.lst xs)) (upd H p (.lst us)) := go_set n
  by_cases z : a = p
  · subst z
    rw [hset_same] at e
    cases e
    exact ⟨us, upd_same, RVs.go s g r⟩
  · rw [hset_ne z] at e
    have q := s a o e
    cases o with
    | lst ys =>
      obtain ⟨ws, e2, t⟩ := q
      exact ⟨ws, by rw [upd_ne z]; exact e2, RVs.go s g t⟩
theorem RV.tupN (s : Sim K h H) {p : Addr} {xs : List Val} {us : List V} (n : H p = none) (r : RVs K H xs us) : RV K (upd H p (.tup us)) (.tup xs) (.ref p) :=
  ⟨p, us, rfl, .inl (.inl upd_same), RVs.go s (go_hid n) r⟩

/-! ### what is wanted -/
structure Exv where
  cls : Str
  fs : List (Str × Val)
abbrev VQ := Val → Hep → Prop
abbrev XQ := Exv → Hep → Prop
abbrev Env := List (Option Val)
abbrev WE := Env → Hep → VQ → XQ → Prop
def LQ (K : PySem.W.Frag) (h : Hep) (H : Hp) (Q : VQ) (u : V) (H' : Hp) : Prop := ∃ v h', Go h H h' H' ∧ Sim K h' H' ∧ RV K H' v u ∧ Q v h'
/-- an exception: its class by its name, its fields -/
def RFs (K : PySem.W.Frag) (H : Hp) (fs : List (Str × Val)) (us : List (Str × V)) : Prop := us.map (·.1) = fs.map (·.1) ∧ RVs K H (fs.map (·.2)) (us.map (·.2))
def RX (K : PySem.W.Frag) (mg : Str → Option Value) (H : Hp) (ex : Exv) (cls : Value) (d : Option Addr) : Prop :=
  ∃ C, mg ex.cls = some (.ref C) ∧ cls = .ref C ∧ ((d = none ∧ ex.fs = []) ∨ ∃ dd us, d = some dd ∧ H dd = some (.xd us) ∧ RFs K H ex.fs us)
def LX (K : PySem.W.Frag) (mg : Str → Option Value) (h : Hep) (H : Hp) (E : XQ) (cls : Value) (d : Option Addr) (H' : Hp) : Prop :=
  ∃ ex h', Go h H h' H' ∧ Sim K h' H' ∧ RX K mg H' ex cls d ∧ E ex h'
theorem LQ.trans {h1 : Hep} {H1 : Hp} {Q : VQ} {u : V} (g : Go h H h1 H1) (q : LQ K h1 H1 Q u H') : LQ K h H Q u H' := by
  obtain ⟨v, h2, g2, s2, r, q⟩ := q
  exact ⟨v, h2, g.trans g2, s2, r, q⟩
theorem LX.trans {mg : Str → Option Value} {h1 : Hep} {H1 : Hp} {E : XQ} {cls : Value} {d : Option Addr} (g : Go h H h1 H1) (q : LX K mg h1 H1 E cls d H') : LX K mg h H E cls d H' := by
  obtain ⟨v, h2, g2, s2, r, q⟩ := q
  exact ⟨v, h2, g.trans g2, s2, r, q⟩
/-- slots -/
def RVo (K : PySem.W.Frag) (H : Hp) (env : Env) (σ : L2.St) : Prop := env.length = σ.length ∧ ∀ (i : Nat) (v : Val), env[i]? = some (some v) → ∃ u : V, σ[i]? = some (some u) ∧ RV K H v u
theorem RVo.go (s : Sim K h H) (g : Go h H h' H') {env : Env} {σ : L2.St} (r : RVo K H env σ) : RVo K H' env σ := ⟨r.1, fun i v e => by
  obtain ⟨u, e2, q⟩ := r.2 i v e
  exact ⟨u, e2, RV.go s g q⟩⟩
theorem RVo.set {env : Env} {σ : L2.St} (r : RVo K H env σ) {v : Val} {u : V} (q : RV K H v u) (i : Nat) : RVo K H (env.set i (some v)) (σ.set i (some u)) := by
  refine ⟨by rw [List.length_set, List.length_set]; exact r.1, fun j w e => ?_⟩
  by_cases z : i = j
  · subst z
    rw [List.getElem?_set] at e
    simp only [if_true] at e
    split at e
    · rename_i hl
      cases e
      exact ⟨u, by rw [List.getElem?_set_self (by rw [← r.1]; exact hl)], q⟩
    · cases e
  · rw [List.getElem?_set_ne z] at e
    obtain ⟨x, e1, e2⟩ := r.2 j w e
    exact ⟨x, by rw [List.getElem?_set_ne z]; exact e1, e2⟩
theorem RVo.wipe {env : Env} {σ : L2.St} (r : RVo K H env σ) (i : Nat) : RVo K H (env.set i none) (σ.set i none) := by
  refine ⟨by rw [List.length_set, List.length_set]; exact r.1, fun j w e => ?_⟩
  by_cases z : i = j
  · subst z
    rw [List.getElem?_set] at e
    simp only [if_true] at e
    split at e <;> cases e
  · rw [List.getElem?_set_ne z] at e
    obtain ⟨x, e1, e2⟩ := r.2 j w e
    exact ⟨x, by rw [List.getElem?_set_ne z]; exact e1, e2⟩
end

/-- what a body takes of exceptions, at slots σ -/
def Tk (X : Cx) (σ : L2.St) (h : Hep) (H : Hp) (E : XQ) : Prop := Takes X fun cls d σ' H' => σ' = σ ∧ LX X.K X.mg h H E cls d H'
theorem Tk.go {X : Cx} {σ : L2.St} {h h' : Hep} {H H' : Hp} {E : XQ} (t : Tk X σ h H E) (g : Go h H h' H') : Tk X σ h' H' E := Takes.imp t fun _ _ _ _ ⟨e, q⟩ => ⟨e, q.trans g⟩
theorem Tk.imp {X : Cx} {σ : L2.St} {h : Hep} {H : Hp} {E E' : XQ} (t : Tk X σ h H E) (g : ∀ ex h, E' ex h → E ex h) : Tk X σ h H E' := Takes.imp t fun _ _ _ _ ⟨e, x, h', g1, s1, r, q⟩ => ⟨e, x, h', g1, s1, r, g _ _ q⟩

/-- an expression's reading by the view -/
def tS (X : Cx) (w : WE) : TE := fun σ H Q' => ∃ env h Q E, Tk X σ h H E ∧ Sim X.K h H ∧ RVo X.K H env σ ∧ w env h Q E ∧ ∀ u H', LQ X.K h H Q u H' → Q' u H'
def JE (X : Cx) (e : Expr) (w : WE) : Prop := PE X e (tS X w)
abbrev BQ := Bool → Hep → Prop
abbrev WT := Env → Hep → BQ → XQ → Prop
def LB (K : PySem.W.Frag) (h : Hep) (H : Hp) (Q : BQ) (b : Bool) (H' : Hp) : Prop := ∃ h', Go h H h' H' ∧ Sim K h' H' ∧ Q b h'
def tST (X : Cx) (w : WT) : TT := fun σ H Q' => ∃ env h Q E, Tk X σ h H E ∧ Sim X.K h H ∧ RVo X.K H env σ ∧ w env h Q E ∧ ∀ b H', LB X.K h H Q b H' → Q' b H'
def JT (X : Cx) (e : Expr) (w : WT) : Prop := PT X e (tST X w)
abbrev LQs := List Val → Hep → Prop
abbrev WA := Env → Hep → LQs → XQ → Prop
def LA (K : PySem.W.Frag) (h : Hep) (H : Hp) (Q : LQs) (us : List V) (H' : Hp) : Prop := ∃ vs h', Go h H h' H' ∧ Sim K h' H' ∧ RVs K H' vs us ∧ Q vs h'
def tSA (X : Cx) (w : WA) : TA := fun σ H Q' => ∃ env h Q E, Tk X σ h H E ∧ Sim X.K h H ∧ RVo X.K H env σ ∧ w env h Q E ∧ ∀ us H', LA X.K h H Q us H' → Q' us H'
def JA (X : Cx) (es : List Expr) (w : WA) : Prop := PA X es (tSA X w)

theorem PE.imp {X : Cx} {e : Expr} {t t' : TE} (p : PE X e t) (h : ∀ σ H Q, t' σ H Q → t σ H Q) : PE X e t' := ⟨fun pins s σ H Q I q => p.run pins s σ H Q I (h _ _ _ q)⟩
theorem PT.imp {X : Cx} {e : Expr} {t t' : TT} (p : PT X e t) (h : ∀ σ H Q, t' σ H Q → t σ H Q) : PT X e t' := ⟨fun pins s σ H Q I q => p.run pins s σ H Q I (h _ _ _ q)⟩
theorem PA.imp {X : Cx} {e : List Expr} {t t' : TA} (p : PA X e t) (h : ∀ σ H Q, t' σ H Q → t σ H Q) : PA X e t' := ⟨fun po pins s σ H Q I q => p.run po pins s σ H Q I (h _ _ _ q)⟩
theorem PS.imp {X : Cx} {e : Stmt} {t t' : TS} (p : PS X e t) (h : ∀ D σ H, t' D σ H → t D σ H) : PS X e t' := ⟨fun pins s σ H D I q => p.run pins s σ H D I (h _ _ _ q)⟩
theorem PSs.imp {X : Cx} {e : List Stmt} {t t' : TS} (p : PSs X e t) (h : ∀ D σ H, t' D σ H → t D σ H) : PSs X e t' := ⟨fun pins s σ H D I q => p.run pins s σ H D I (h _ _ _ q)⟩
end KM
/-! KMB: a small language of resolved names, and what its texts ask (weakest wants). -/
namespace KM
open PySem PySem.Spec PyProof.Rows L2

inductive Tg where
  | nm (i : Nat) | tn | tc (a b : Tg)
inductive Bi where
  | len | abs | int | all | any | sum | isi | tuple | list
  deriving DecidableEq
inductive Mt where
  | append | pop | extend
  deriving DecidableEq
mutual
inductive Ex where
  | bad | var (i : Nat) | non | bl (b : Bool) | int (i : Int) | str (s : Str) | ty (n : String) | con (v : Val)
  | lst (es : Exs) | tup (es : Exs)
  | bin (op : Operator) (a b : Ex) | neg (a : Ex)
  | and (a b : Ex) | or (a b : Ex) | not (a : Ex) | ife (c a b : Ex)
  | cmp (op : CmpOp) (a b : Ex) | chn (op op' : CmpOp) (a b c : Ex)
  | call (f : Str) (es : Exs) | kall (f : Str) (p : List Nat) (es : Exs)
  | bi (f : Bi) (es : Exs) | mth (m : Mt) (o : Ex) (es : Exs)
  | ix (a b : Ex) | sl (a : Ex) (lo hi : Exs) | rev (a : Ex)
  | lc (elt : Ex) (tg : Tg) (it : Ir) (cnd : Exs) (own : List Nat)
inductive Exs where
  | nil | cons (e : Ex) (es : Exs)
inductive Ir where
  | seq (e : Ex) | rng1 (e : Ex) | rng2 (a b : Ex) | zip (a b : Ex) | enum (a : Ex)
end
def Exs.len : Exs → Nat
  | .nil => 0
  | .cons _ r => r.len + 1

/-! ### by values -/
def Sm (n : Nat) : Prop := n < 1000000
@[irreducible] def onL (h : Hep) (a : Addr) (P : List Val → Prop) : Prop := match h a with
  | some (.lst xs) => P xs
  | none => False
theorem onL_of {h : Hep} {a : Addr} {P : List Val → Prop} {xs : List Val} (e : h a = some (.lst xs)) : onL h a P = P xs := by unfold onL; rw [e]
theorem onL_elim {h : Hep} {a : Addr} {P : List Val → Prop} (x : onL h a P) : ∃ xs, h a = some (.lst xs) ∧ P xs := by
  unfold onL at x
  split at x
  · exact ⟨_, by assumption, x⟩
  · exact x.elim
/-- the items of a list or a tuple -/
def onI (h : Hep) (v : Val) (P : List Val → Prop) : Prop := match v with
  | .tup xs => P xs
  | .rom xs => P xs
  | .ref a => onL h a P
  | _ => False
def truthOf (h : Hep) : Val → Option Bool
  | .non => some false
  | .bl b => some b
  | .int i => some (i != 0)
  | .tup xs => some (!xs.isEmpty)
  | .rom xs => some (!xs.isEmpty)
  | .ref a => (match h a with
    | some (.lst xs) => some (!xs.isEmpty)
    | none => none)
  | _ => none
def onT (h : Hep) (v : Val) (P : Bool → Prop) : Prop := match truthOf h v with
  | some b => P b
  | none => False
def onO {α : Type} (o : Option α) (P : α → Prop) : Prop := match o with
  | some x => P x
  | none => False
theorem onO_some {α : Type} {x : α} {P : α → Prop} : onO (some x) P = P x := rfl
def onInt (v : Val) (P : Int → Prop) : Prop := match v with
  | .int i => P i
  | _ => False
def isTupV : Val → Bool
  | .tup _ => true
  | _ => false
/-- both tuples, or both lists -/
def sameKind (v u : Val) : Bool := isTupV v == isTupV u
/-- a new list -/
@[irreducible] def newL (h : Hep) (xs : List Val) (Q : VQ) : Prop := ∀ p, h p = none → Q (.ref p) (hset h p (.lst xs))
theorem newL_in {h : Hep} {xs : List Val} {Q : VQ} (q : ∀ p, h p = none → Q (.ref p) (hset h p (.lst xs))) : newL h xs Q := by unfold newL; exact q
theorem newL_at {h : Hep} {xs : List Val} {Q : VQ} (q : newL h xs Q) : ∀ p, h p = none → Q (.ref p) (hset h p (.lst xs)) := by unfold newL at q; exact q
def CDivG (j : Int) : Prop := j ≠ 0 ∧ j.natAbs.log2 < 9000
def opB (op : Operator) (x y : Val) (h : Hep) (Q : VQ) : Prop := match op, x, y with
  | .Add, .int i, .int j => Q (.int (i + j)) h
  | .Sub, .int i, .int j => Q (.int (i - j)) h
  | .Mult, .int i, .int j => CMulW i j ∧ Q (.int (i * j)) h
  | .FloorDiv, .int i, .int j => CDivG j ∧ Q (.int (i.fdiv j)) h
  | .Mod, .int i, .int j => j ≠ 0 ∧ Q (.int (i.fmod j)) h
  | .Pow, .int i, .int j => CPow i j ∧ Q (.int (i ^ j.toNat)) h
  | .Add, .str i, .str j => i.length + j.length ≤ sizeLine ∧ Q (.str (i ++ j)) h
  | .Add, .tup xs, .tup ys => xs ≠ [] ∧ Sm (xs.length + ys.length) ∧ Q (.tup (xs ++ ys)) h
  | .Add, .ref a, .ref b => onL h a fun xs => onL h b fun ys => Sm (xs.length + ys.length) ∧ newL h (xs ++ ys) Q
  | .Mult, .ref a, .int k => onL h a fun xs => -(2 ^ 63) ≤ k ∧ k < 2 ^ 63 ∧ Sm (xs.length * k.toNat) ∧ newL h (List.replicate k.toNat xs).flatten Q
  | _, _, _ => False
/-- a value as data, so deep -/
def datN : Nat → Hep → Val → Option PyData
  | _, _, .non => some .none
  | _, _, .bl b => some (.bool b)
  | _, _, .int i => some (.int i)
  | _, _, .str x => some (.str x)
  | n + 1, h, .tup xs => (xs.mapM (datN n h)).map .tuple
  | n + 1, h, .rom xs => (xs.mapM (datN n h)).map .list
  | n + 1, h, .ref a => (match h a with
    | some (.lst xs) => (xs.mapM (datN n h)).map .list
    | none => none)
  | _, _, _ => none
@[irreducible] def onD (h : Hep) (v : Val) (P : PyData → Prop) : Prop := match datN 20 h v with
  | some d => SeqAt.shaped d = true ∧ P d
  | none => False
def isNon : Val → Bool
  | .non => true
  | _ => false
def opC (op : CmpOp) (x y : Val) (h : Hep) (Q : Bool → Prop) : Prop := match op, x, y with
  | .Lt, .int i, .int j => Q (decide (i < j))
  | .LtE, .int i, .int j => Q (decide (i ≤ j))
  | .Gt, .int i, .int j => Q (decide (j < i))
  | .GtE, .int i, .int j => Q (decide (j ≤ i))
  | .Eq, .int i, .int j => Q (decide (i = j))
  | .NotEq, .int i, .int j => Q (!decide (i = j))
  | .Eq, .bl i, .bl j => Q (decide (i = j))
  | .NotEq, .bl i, .bl j => Q (!decide (i = j))
  | .Eq, .str i, .str j => Q (decide (i = j))
  | .NotEq, .str i, .str j => Q (!decide (i = j))
  | .Is, x, .non => Q (isNon x)
  | .IsNot, x, .non => Q (!isNon x)
  | .Eq, x, y => onD h x fun d => onD h y fun e => Q (PyData.eqv d e)
  | .NotEq, x, y => onD h x fun d => onD h y fun e => Q (!PyData.eqv d e)
  | .In, x, .ref a => onD h x fun d => onD h (.ref a) fun e => match e with
    | .list ds => Q (ds.any fun z => PyData.eqv z d)
    | _ => False
  | .NotIn, x, .ref a => onD h x fun d => onD h (.ref a) fun e => match e with
    | .list ds => Q (!ds.any fun z => PyData.eqv z d)
    | _ => False
  | _, _, _ => False
/-- a value's class, if it is a built-in one -/
def tyOf (h : Hep) : Val → Option String
  | .non => some "NoneType"
  | .bl _ => some "bool"
  | .int _ => some "int"
  | .str _ => some "str"
  | .tup _ => some "tuple"
  | .rom _ => some "list"
  | .ref a => (match h a with
    | some (.lst _) => some "list"
    | none => none)
  | .ty _ => none
def isKnown (t : String) : Bool := t == "NoneType" || t == "bool" || t == "int" || t == "str" || t == "tuple" || t == "list" || t == "dict"
def isSub (t n : String) : Bool := t == n || (t == "bool" && n == "int")
def isAny (t : String) : List Val → Option Bool
  | [] => some false
  | .ty n :: r => (match isAny t r with
    | some b => if isKnown n then some (isSub t n || b) else none
    | none => none)
  | _ :: _ => none
@[irreducible] def opIsi (x c : Val) (h : Hep) (Q : Bool → Prop) : Prop := match tyOf h x, c with
  | some t, .ty n => isKnown n = true ∧ Q (isSub t n)
  | some t, .tup cs => (match isAny t cs with
    | some b => Q b
    | none => False)
  | _, _ => False
def blsOf : List Val → Option (List Bool)
  | [] => some []
  | .bl b :: r => (blsOf r).map (b :: ·)
  | _ :: _ => none
def intsOf : List Val → Option (List Int)
  | [] => some []
  | .int b :: r => (intsOf r).map (b :: ·)
  | _ :: _ => none
def opF (f : Bi) (vs : List Val) (h : Hep) (Q : VQ) : Prop := match f, vs with
  | .len, [v] => onI h v fun xs => Q (.int xs.length) h
  | .abs, [.int i] => Q (.int (if i < 0 then -i else i)) h
  | .int, [.int i] => Q (.int i) h
  | .int, [.bl k] => Q (.int (if k then 1 else 0)) h
  | .all, [.ref a] => onL h a fun xs => (match blsOf xs with
    | some bs => Q (.bl (bs.all id)) h
    | none => False)
  | .any, [.ref a] => onL h a fun xs => (match blsOf xs with
    | some bs => Q (.bl (bs.any id)) h
    | none => False)
  | .sum, [.ref a] => onL h a fun xs => (match intsOf xs with
    | some bs => Q (.int bs.sum) h
    | none => False)
  | .isi, [x, c] => opIsi x c h fun b => Q (.bl b) h
  | .tuple, [v] => onI h v fun xs => Q (.tup xs) h
  | .list, [v] => onI h v fun xs => newL h xs Q
  | _, _ => False
def opM (m : Mt) (o : Val) (vs : List Val) (h : Hep) (Q : VQ) : Prop := match m, o, vs with
  | .append, .ref a, [v] => onL h a fun xs => Sm xs.length ∧ Q .non (hset h a (.lst (xs ++ [v])))
  | .extend, .ref a, [.ref b] => onL h a fun xs => onL h b fun ys => Sm (xs.length + ys.length) ∧ Q .non (hset h a (.lst (xs ++ ys)))
  | .pop, .ref a, [] => onL h a fun xs => (match xs.getLast? with
    | some v => Q v (hset h a (.lst xs.dropLast))
    | none => False)
  | .pop, .ref a, [.int i] => onL h a fun xs => i = 0 ∧ (match xs with
    | v :: r => Q v (hset h a (.lst r))
    | [] => False)
  | _, _, _ => False
/-- the receiver has such a method -/
def mtOk (m : Mt) (x : Val) (h : Hep) : Prop := match x with
  | .ref a => onL h a fun _ => True
  | _ => False
def opIx (x y : Val) (h : Hep) (Q : Val → Prop) : Prop := match y with
  | .int i => onI h x fun xs => (match atI xs i with
    | some v => Q v
    | none => False)
  | _ => False
def cutL {α : Type} (xs : List α) (lo hi : Option Int) : List α := (xs.drop (HT.sIx xs.length 0 lo)).take (HT.sIx xs.length xs.length hi - HT.sIx xs.length 0 lo)
def opSl (x : Val) (lo hi : Option Int) (h : Hep) (Q : VQ) : Prop := match x with
  | .tup xs => ¬ (HT.sIx xs.length 0 lo = 0 ∧ HT.sIx xs.length xs.length hi = xs.length) ∧ Q (.tup (cutL xs lo hi)) h
  | .rom xs => newL h (cutL xs lo hi) Q
  | .ref a => onL h a fun xs => newL h (cutL xs lo hi) Q
  | _ => False

def opN (x : Val) (h : Hep) (Q : VQ) : Prop := onInt x fun i => Q (.int (-i)) h
def opRev (x : Val) (h : Hep) (Q : VQ) : Prop := match x with
  | .ref a => onL h a fun xs => newL h xs.reverse Q
  | _ => False

/-! ### targets, walks -/
/-- a tuple's items bound -/
def endT (vs : List Val) (env : Env) : Option Env := match vs with
  | [] => some env
  | _ => none
def conT (a : Val → Env → Option Env) (b : List Val → Env → Option Env) (vs : List Val) (env : Env) : Option Env := match vs with
  | x :: xs => (match a x env with
    | some env' => b xs env'
    | none => none)
  | [] => none
def tupT (b : List Val → Env → Option Env) (v : Val) (env : Env) : Option Env := match v with
  | .tup vs => b vs env
  | _ => none
def bindP : Tg → (Val → Env → Option Env) × (List Val → Env → Option Env)
  | .nm i => (fun v env => some (env.set i (some v)), fun _ _ => none)
  | .tn => (tupT endT, endT)
  | .tc a b => (tupT (conT (bindP a).1 (bindP b).2), conT (bindP a).1 (bindP b).2)
def bindT (t : Tg) : Val → Env → Option Env := (bindP t).1
def bindTs (t : Tg) : List Val → Env → Option Env := (bindP t).2
/-- what is walked: the items, and the lists that have to stay as they are meanwhile -/
structure Src where
  vals : List Val
  pins : List (Addr × List Val)
def pinOk (h : Hep) : List (Addr × List Val) → Prop
  | [] => True
  | p :: r => h p.1 = some (.lst p.2) ∧ pinOk h r
def onSrc (h : Hep) (v : Val) (P : Src → Prop) : Prop := match v with
  | .tup xs => P ⟨xs, []⟩
  | .rom xs => P ⟨xs, []⟩
  | .ref a => onL h a fun xs => P ⟨xs, [(a, xs)]⟩
  | _ => False
def enumV : Nat → List Val → List Val
  | _, [] => []
  | n, x :: r => .tup [.int n, x] :: enumV (n + 1) r
def zipV : List Val → List Val → List Val
  | x :: xs, y :: ys => .tup [x, y] :: zipV xs ys
  | _, _ => []
def rngV (lo : Int) : Nat → List Val
  | 0 => []
  | n + 1 => .int lo :: rngV (lo + 1) n
def smI (i : Int) : Prop := -(2 ^ 62) ≤ i ∧ i < 2 ^ 62
def lcW (cnd : WT) (elt : WE) (bind : Val → Env → Option Env) (pins : List (Addr × List Val)) (env : Env) (Q : VQ) : List Val → List Val → Hep → Prop
  | [], acc, h => pinOk h pins ∧ newL h acc Q
  | x :: xs, acc, h => pinOk h pins ∧ onO (bind x env) fun env' => cnd env' h (fun b h1 => if b = true then elt env' h1 (fun y h2 => lcW cnd elt bind pins env Q xs (acc ++ [y]) h2) (fun _ _ => False) else lcW cnd elt bind pins env Q xs acc h1) (fun _ _ => False)
def wipeE (env : Env) : List Nat → Env
  | [] => env
  | v :: vs => (wipeE env vs).set v none
/-- the values at these places -/
def permL {α : Type} (p : List Nat) (xs : List α) : List α := p.filterMap (xs[·]?)

/-! ### expressions -/
abbrev CalT := Str → List Val → Hep → VQ → XQ → Prop
/-- a value's want, and a test's by the value's truth -/
def dfl (w : WE) : WE × WT := (w, fun env h Q E => w env h (fun x h1 => onT h1 x fun t => Q t h1) E)
section
variable (C : CalT)
mutual
def wP : Ex → WE × WT
  | .bad => (fun _ _ _ _ => False, fun _ _ _ _ => False)
  | .var i => dfl fun env h Q _ => (match env[i]? with
    | some (some v) => Q v h
    | _ => False)
  | .non => dfl fun _ h Q _ => Q .non h
  | .bl b => dfl fun _ h Q _ => Q (.bl b) h
  | .int i => dfl fun _ h Q _ => Q (.int i) h
  | .str x => dfl fun _ h Q _ => Q (.str x) h
  | .ty n => dfl fun _ h Q _ => Q (.ty n) h
  | .con v => dfl fun _ h Q _ => Q v h
  | .lst es => dfl fun env h Q E => wA es env h (fun vs h1 => newL h1 vs Q) E
  | .tup es => dfl fun env h Q E => wA es env h (fun vs h1 => Q (.tup vs) h1) E
  | .bin op a b => dfl fun env h Q E => (wP a).1 env h (fun x h1 => (wP b).1 env h1 (fun y h2 => opB op x y h2 Q) E) E
  | .neg a => dfl fun env h Q E => (wP a).1 env h (fun x h1 => opN x h1 Q) E
  | .and a b => (fun env h Q E => (wP a).1 env h (fun x h1 => onT h1 x fun t => if t = true then (wP b).1 env h1 Q E else Q x h1) E,
      fun env h Q E => (wP a).2 env h (fun t h1 => if t = true then (wP b).2 env h1 Q E else Q false h1) E)
  | .or a b => (fun env h Q E => (wP a).1 env h (fun x h1 => onT h1 x fun t => if t = true then Q x h1 else (wP b).1 env h1 Q E) E,
      fun env h Q E => (wP a).2 env h (fun t h1 => if t = true then Q true h1 else (wP b).2 env h1 Q E) E)
  | .not a => (fun env h Q E => (wP a).1 env h (fun x h1 => onT h1 x fun t => Q (.bl (!t)) h1) E, fun env h Q E => (wP a).2 env h (fun t h1 => Q (!t) h1) E)
  | .ife c a b => (fun env h Q E => (wP c).2 env h (fun t h1 => if t = true then (wP a).1 env h1 Q E else (wP b).1 env h1 Q E) E,
      fun env h Q E => (wP c).2 env h (fun t h1 => if t = true then (wP a).2 env h1 Q E else (wP b).2 env h1 Q E) E)
  | .cmp op a b => (fun env h Q E => (wP a).1 env h (fun x h1 => (wP b).1 env h1 (fun y h2 => opC op x y h2 fun t => Q (.bl t) h2) E) E,
      fun env h Q E => (wP a).1 env h (fun x h1 => (wP b).1 env h1 (fun y h2 => opC op x y h2 fun t => Q t h2) E) E)
  | .chn op op' a b c => (fun env h Q E => (wP a).1 env h (fun x h1 => (wP b).1 env h1 (fun y h2 => opC op x y h2 fun t => if t = true then (wP c).1 env h2 (fun z h3 => opC op' y z h3 fun t => Q (.bl t) h3) E else Q (.bl false) h2) E) E,
      fun env h Q E => (wP a).1 env h (fun x h1 => (wP b).1 env h1 (fun y h2 => opC op x y h2 fun t => if t = true then (wP c).1 env h2 (fun z h3 => opC op' y z h3 fun t => Q t h3) E else Q false h2) E) E)
  | .call f es => dfl fun env h Q E => wA es env h (fun vs h1 => C f vs h1 Q E) E
  | .kall f p es => dfl fun env h Q E => wA es env h (fun vs h1 => C f (permL p vs) h1 Q E) E
  | .bi f es => dfl fun env h Q E => wA es env h (fun vs h1 => opF f vs h1 Q) E
  | .mth m o es => dfl fun env h Q E => (wP o).1 env h (fun x h1 => mtOk m x h1 ∧ wA es env h1 (fun vs h2 => opM m x vs h2 Q) E) E
  | .ix a b => dfl fun env h Q E => (wP a).1 env h (fun x h1 => (wP b).1 env h1 (fun y h2 => opIx x y h2 fun v => Q v h2) E) E
  | .sl a lo hi => dfl fun env h Q E => (wP a).1 env h (fun x h1 => wO lo env h1 (fun l h2 => wO hi env h2 (fun u h3 => opSl x l u h3 Q) E) E) E
  | .rev a => dfl fun env h Q E => (wP a).1 env h (fun x h1 => opRev x h1 Q) E
  | .lc elt tg it cnd own => dfl fun env h Q E => wI it env h (fun src h1 => Sm src.vals.length ∧ lcW (wCs cnd) (wP elt).1 (bindT tg) src.pins (wipeE env own) Q src.vals [] h1) E
def wA : Exs → WA
  | .nil => fun _ h Q _ => Q [] h
  | .cons e es => fun env h Q E => (wP e).1 env h (fun v h1 => wA es env h1 (fun vs h2 => Q (v :: vs) h2) E) E
/-- an end of a slice -/
def wO : Exs → Env → Hep → (Option Int → Hep → Prop) → XQ → Prop
  | .nil => fun _ h Q _ => Q none h
  | .cons e _ => fun env h Q E => (wP e).1 env h (fun v h1 => onInt v fun i => Q (some i) h1) E
/-- a comprehension's test -/
def wCs : Exs → WT
  | .nil => fun _ h Q _ => Q true h
  | .cons e _ => fun env h Q E => (wP e).2 env h Q E
def wI : Ir → Env → Hep → (Src → Hep → Prop) → XQ → Prop
  | .seq e => fun env h Q E => (wP e).1 env h (fun v h1 => onSrc h1 v fun s => Q s h1) E
  | .rng1 e => fun env h Q E => (wP e).1 env h (fun v h1 => onInt v fun i => smI i ∧ Q ⟨rngV 0 i.toNat, []⟩ h1) E
  | .rng2 a b => fun env h Q E => (wP a).1 env h (fun v h1 => (wP b).1 env h1 (fun u h2 => onInt v fun i => onInt u fun j => smI i ∧ smI j ∧ Q ⟨rngV i (j - i).toNat, []⟩ h2) E) E
  | .zip a b => fun env h Q E => (wP a).1 env h (fun v h1 => (wP b).1 env h1 (fun u h2 => onSrc h2 v fun s => onSrc h2 u fun t => sameKind v u = true ∧ Q ⟨zipV s.vals t.vals, s.pins ++ t.pins⟩ h2) E) E
  | .enum a => fun env h Q E => (wP a).1 env h (fun v h1 => onSrc h1 v fun s => isTupV v = false ∧ Q ⟨enumV 0 s.vals, s.pins⟩ h1) E
end
/-- an expression -/
def wE (e : Ex) : WE := (wP C e).1
/-- a test -/
def wT (e : Ex) : WT := (wP C e).2
end

/-! ### statements -/
mutual
inductive Sx where
  | bad | pass | expr (e : Ex) | ret (e : Ex) | retN | asg (tg : Tg) (e : Ex) | par (is : List Nat) (es : Exs)
  | setix (o i e : Ex) | ife (c : Ex) (a b : Sxs) | whil (c : Ex) (b : Sxs) | forr (tg : Tg) (it : Ir) (b : Sxs) | brk | cont
inductive Sxs where
  | nil | cons (s : Sx) (r : Sxs)
end
structure KD where
  nx : Env → Hep → Prop
  rt : VQ
  bk : Env → Hep → Prop
  ct : Env → Hep → Prop
abbrev XE' := Exv → Env → Hep → Prop
abbrev WS := Env → Hep → KD → XE' → Prop
def setMany : List Nat → List Val → Env → Option Env
  | [], [], env => some env
  | i :: is, v :: vs, env => setMany is vs (env.set i (some v))
  | _, _, _ => none
def opSet (o i v : Val) (h : Hep) (Q : Hep → Prop) : Prop := match o, i with
  | .ref a, .int k => onL h a fun xs => (match ixN xs.length k with
    | some j => Q (hset h a (.lst (xs.set j v)))
    | none => False)
  | _, _ => False
def forW (body : WS) (bind : Val → Env → Option Env) (pins : List (Addr × List Val)) (D : KD) (E : XE') : List Val → Env → Hep → Prop
  | [], env, h => pinOk h pins ∧ D.nx env h
  | x :: xs, env, h => pinOk h pins ∧ onO (bind x env) fun env' => body env' h { D with nx := fun e1 h1 => forW body bind pins D E xs e1 h1, ct := fun e1 h1 => forW body bind pins D E xs e1 h1, bk := D.nx } E
section
variable (C : CalT)
mutual
def wS : Sx → WS
  | .bad => fun _ _ _ _ => False
  | .pass => fun env h D _ => D.nx env h
  | .expr e => fun env h D E => wE C e env h (fun _ h1 => D.nx env h1) (fun x h1 => E x env h1)
  | .ret e => fun env h D E => wE C e env h D.rt (fun x h1 => E x env h1)
  | .retN => fun _ h D _ => D.rt .non h
  | .asg tg e => fun env h D E => wE C e env h (fun v h1 => onO (bindT tg v env) fun env' => D.nx env' h1) (fun x h1 => E x env h1)
  | .par is es => fun env h D E => wA C es env h (fun vs h1 => onO (setMany is vs env) fun env' => D.nx env' h1) (fun x h1 => E x env h1)
  | .setix o i e => fun env h D E => wE C e env h (fun v h1 => wE C o env h1 (fun x h2 => wE C i env h2 (fun y h3 => opSet x y v h3 fun h4 => D.nx env h4) (fun x h1 => E x env h1)) (fun x h1 => E x env h1)) (fun x h1 => E x env h1)
  | .ife c a b => fun env h D E => wT C c env h (fun t h1 => if t = true then wSs a env h1 D E else wSs b env h1 D E) (fun x h1 => E x env h1)
  | .whil c b => fun env h D E => ∃ I : Nat → Env → Hep → Prop, (∃ m, I m env h) ∧ ∀ m env h, I m env h →
      wT C c env h (fun t h1 => if t = true then wSs b env h1 { D with nx := fun e2 h2 => ∃ m', m' < m ∧ I m' e2 h2, ct := fun e2 h2 => ∃ m', m' < m ∧ I m' e2 h2, bk := D.nx } E else D.nx env h1) (fun x h1 => E x env h1)
  | .forr tg it b => fun env h D E => wI C it env h (fun src h1 => forW (wSs b) (bindT tg) src.pins D E src.vals env h1) (fun x h1 => E x env h1)
  | .brk => fun env h D _ => D.bk env h
  | .cont => fun env h D _ => D.ct env h
def wSs : Sxs → WS
  | .nil => fun env h D _ => D.nx env h
  | .cons s r => fun env h D E => wS s env h { D with nx := fun e1 h1 => wSs r e1 h1 D E } E
end
end
/-! ### defs -/
structure Fc where
  params : Nat
  slots : Nat
  body : Sxs
def startE (n : Nat) (vs : List Val) : Env := vs.map some ++ List.replicate (n - vs.length) none
/-- a smaller view -/
def Sub (h h' : Hep) : Prop := ∀ a o, h a = some o → h' a = some o
theorem Sub.refl (h : Hep) : Sub h h := fun _ _ e => e
theorem Sub.trans {h h1 h2 : Hep} (x : Sub h h1) (y : Sub h1 h2) : Sub h h2 := fun a o e => y a o (x a o e)
/-- what isn't wanted any more is let go from the view -/
def Dr (h1 : Hep) (P : Hep → Prop) : Prop := ∃ h', Sub h' h1 ∧ P h'
theorem Dr.here {h : Hep} {P : Hep → Prop} (p : P h) : Dr h P := ⟨h, Sub.refl h, p⟩
/-- what calls of the table's defs ask, so deep -/
def Calls0 (T : Str → Option Fc) : Nat → Str → List Val → Hep → VQ → XQ → Prop
  | 0 => fun _ _ _ _ _ => False
  | k + 1 => fun f vs h Q E => match T f with
    | some c => vs.length = c.params ∧ wSs (Calls0 T k) c.body (startE c.slots vs) h { nx := fun _ h1 => Dr h1 (Q .non), rt := fun v h1 => Dr h1 (Q v), bk := fun _ _ => False, ct := fun _ _ => False } (fun x _ h1 => Dr h1 (E x))
    | none => False
@[irreducible] def Calls (T : Str → Option Fc) (k : Nat) : CalT := Calls0 T k
theorem Calls_succ {T : Str → Option Fc} {k : Nat} {f : Str} {c : Fc} {vs : List Val} {h : Hep} {Q : VQ} {E : XQ} (e : T f = some c) :
    Calls T (k + 1) f vs h Q E = (vs.length = c.params ∧ wSs (Calls T k) c.body (startE c.slots vs) h { nx := fun _ h1 => Dr h1 (Q .non), rt := fun v h1 => Dr h1 (Q v), bk := fun _ _ => False, ct := fun _ _ => False } (fun x _ h1 => Dr h1 (E x))) := by
  unfold Calls
  show (match T f with
    | some c => _
    | none => _) = _
  rw [e]
theorem Calls_zero {T : Str → Option Fc} {f : Str} {vs : List Val} {h : Hep} {Q : VQ} {E : XQ} : ¬ Calls T 0 f vs h Q E := by
  unfold Calls
  exact fun z => z
/-- a call by the def's body -/
theorem Calls_eq {T : Str → Option Fc} {k : Nat} {f : Str} {c : Fc} {vs : List Val} {h : Hep} {Q : VQ} {E : XQ} (env : Env) (e : T f = some c) (hl : vs.length = c.params) (he : startE c.slots vs = env)
    (w : wSs (Calls T k) c.body env h { nx := fun _ h1 => Dr h1 (Q .non), rt := fun v h1 => Dr h1 (Q v), bk := fun _ _ => False, ct := fun _ _ => False } (fun x _ h1 => Dr h1 (E x))) : Calls T (k + 1) f vs h Q E := by
  rw [Calls_succ e]
  subst he
  exact ⟨hl, w⟩
theorem onL_in {h : Hep} {a : Addr} {P : List Val → Prop} {xs : List Val} (e : h a = some (.lst xs)) (p : P xs) : onL h a P := by rw [onL_of e]; exact p
theorem onD_in {h : Hep} {v : Val} {P : PyData → Prop} {d : PyData} (e : datN 20 h v = some d) (s : SeqAt.shaped d = true) (p : P d) : onD h v P := by
  unfold onD
  rw [e]
  exact ⟨s, p⟩
end KM
/-! KMC: that what is asked suffices: operators, built-ins. -/
namespace KM
open PySem PySem.Spec PyProof.Rows L2

theorem sm_line {n : Nat} (h : Sm n) : n < sizeLine := by
  rw [sizeLine_eq]; unfold Sm at h; omega
section
variable {K : PySem.W.Frag} {h : Hep} {H : Hp} {Q : VQ} {u : V} {xs : List Val}
theorem LQ.here (s : Sim K h H) {v : Val} (r : RV K H v u) (q : Q v h) : LQ K h H Q u H := ⟨v, h, Go.refl _ _, s, r, q⟩
theorem LQ.newL (s : Sim K h H) {us : List V} (r : RVs K H xs us) (q : newL h xs Q) {p : Addr} (n : H p = none) : LQ K h H Q (.ref p) (upd H p (.lst us)) :=
  ⟨.ref p, hset h p (.lst xs), go_new n, s.new n r, rfl, newL_at q p (s.free n)⟩
theorem LQ.tup (s : Sim K h H) {us : List V} (r : RVs K H xs us) (q : Q (.tup xs) h) {p : Addr} (n : H p = none) : LQ K h H Q (.ref p) (upd H p (.tup us)) :=
  ⟨.tup xs, h, go_hid n, s.hid n, RV.tupN s n r, q⟩
theorem LQ.set (s : Sim K h H) {us : List V} {p : Addr} {ob : Ob} {v : Val} (e : h p = some ob) (r : RVs K H xs us) (rv : RV K H v u) (q : Q v (hset h p (.lst xs))) : LQ K h H Q u (upd H p (.lst us)) :=
  have g := go_set (h := h) (H := H) (ob := .lst xs) (o := .lst us) e
  ⟨v, _, g, s.set e r, RV.go s g rv, q⟩
theorem Sim.lst (s : Sim K h H) {a : Addr} (e : h a = some (.lst xs)) : ∃ us, H a = some (.lst us) ∧ RVs K H xs us := s a _ e
/-- the items of a list or a tuple -/
theorem onI_elim (s : Sim K h H) {v : Val} (r : RV K H v u) {P : List Val → Prop} (x : onI h v P) : ∃ p xs us, u = .ref p ∧ (SqL K H p us ∨ SqT K H p us) ∧ RVs K H xs us ∧ P xs ∧ ((∃ ys, v = .tup ys) → SqT K H p us) ∧ ((¬ ∃ ys, v = .tup ys) → SqL K H p us) := by
  cases v with
  | tup xs =>
    obtain ⟨p, us, e, t, q⟩ := r
    exact ⟨p, xs, us, e, .inr t, q, x, fun _ => t, fun z => (z ⟨_, rfl⟩).elim⟩
  | rom xs =>
    obtain ⟨p, us, e, t, q⟩ := r
    exact ⟨p, xs, us, e, .inl t.sq, q, x, (fun ⟨_, z⟩ => by cases z), fun _ => t.sq⟩
  | ref a =>
    obtain ⟨xs, e, q⟩ := onL_elim x
    obtain ⟨us, e2, r2⟩ := s.lst e
    exact ⟨a, xs, us, r, .inl (SqL.of e2), r2, q, (fun ⟨_, z⟩ => by cases z), fun _ => SqL.of e2⟩
  | _ => exact x.elim
end

abbrev O2 := Val → Val → Hep → VQ → Prop
def rJ (X : Cx) (o : O2) : R2 := fun u v H Q' => ∃ x y h Q, Sim X.K h H ∧ RV X.K H x u ∧ RV X.K H y v ∧ o x y h Q ∧ ∀ u' H', LQ X.K h H Q u' H' → Q' u' H'
section
variable {X : Cx}
theorem fdivG : OpR X (binaryOp .FloorDiv) (rI (fun _ j => CDivG j) fun i j => .int (i.fdiv j)) := opI fun i j _ _ _ _ _ hc q =>
  floordiv_int hc.1 q (.inl (PyProof.noPylong_of_log2 hc.2))
theorem atI_get2 {α β : Type} {xs : List α} {ys : List β} (e : ys.length = xs.length) {i : Int} {v : α} (q : atI xs i = some v) : ∃ j : Nat, xs[j]? = some v ∧ ∀ w, ys[j]? = some w → atI ys i = some w := by
  unfold atI at q ⊢
  rw [e]
  cases z : ixN xs.length i with
  | none => rw [z] at q; cases q
  | some j =>
    rw [z] at q
    exact ⟨j, q, fun w hw => hw⟩
theorem opB_ok (op : Operator) : OpR X (binaryOp op) (rJ X (opB op)) := by
  intro pins s σ H u v ux vx Q' I ru rv ⟨x, y, h, Q, sm, rx, ry, o, k⟩
  unfold opB at o
  split at o
  · cases rx; cases ry
    exact op_add pins s σ H _ _ ux vx Q' I ru rv ⟨_, _, rfl, rfl, k _ _ (LQ.here (v := .int _) sm rfl o)⟩
  · cases rx; cases ry
    exact op_sub pins s σ H _ _ ux vx Q' I ru rv ⟨_, _, rfl, rfl, k _ _ (LQ.here (v := .int _) sm rfl o)⟩
  · cases rx; cases ry
    exact op_mulW pins s σ H _ _ ux vx Q' I ru rv ⟨_, _, rfl, rfl, o.1, k _ _ (LQ.here (v := .int _) sm rfl o.2)⟩
  · cases rx; cases ry
    exact fdivG pins s σ H _ _ ux vx Q' I ru rv ⟨_, _, rfl, rfl, o.1, k _ _ (LQ.here (v := .int _) sm rfl o.2)⟩
  · cases rx; cases ry
    exact op_modN pins s σ H _ _ ux vx Q' I ru rv ⟨_, _, rfl, rfl, o.1, k _ _ (LQ.here (v := .int _) sm rfl o.2)⟩
  · cases rx; cases ry
    exact op_pow pins s σ H _ _ ux vx Q' I ru rv ⟨_, _, rfl, rfl, o.1, k _ _ (LQ.here (v := .int _) sm rfl o.2)⟩
  · cases rx; cases ry
    exact op_add_str pins s σ H _ _ ux vx Q' I ru rv ⟨_, _, rfl, rfl, o.1, k _ _ (LQ.here (v := .str _) sm rfl o.2)⟩
  · obtain ⟨p, us, rfl, t, r⟩ := rx
    obtain ⟨p2, us2, rfl, t2, r2⟩ := ry
    obtain ⟨o1, o2, o3⟩ := o
    have l1 := r.length
    have l2 := r2.length
    have o4 := sm_line o2
    refine op_catT pins s σ H _ _ ux vx Q' I ru rv ⟨_, _, us, us2, rfl, rfl, t, t2, fun z => ?_, by rw [l1, l2]; omega, fun z => ?_, fun z a n => ?_⟩
    · rw [z] at l1
      exact o1 (List.eq_nil_of_length_eq_zero l1.symm)
    · rw [z] at l2
      have e := List.eq_nil_of_length_eq_zero l2.symm
      rw [e, List.append_nil] at o3
      exact k _ _ (LQ.here (v := .tup _) sm ⟨p, us, rfl, t, r⟩ o3)
    · exact k _ _ (LQ.tup sm (r.app r2) o3 n)
  · cases rx; cases ry
    obtain ⟨xs, e, o⟩ := onL_elim o
    obtain ⟨ys, e2, o1, o2⟩ := onL_elim o
    obtain ⟨us, f, r⟩ := sm.lst e
    obtain ⟨us2, f2, r2⟩ := sm.lst e2
    have l1 := r.length
    have l2 := r2.length
    have o4 := sm_line o1
    exact op_cat pins s σ H _ _ ux vx Q' I ru rv ⟨_, _, us, us2, rfl, rfl, f, f2, by rw [l1, l2]; omega, fun p n => k _ _ (LQ.newL sm (r.app r2) o2 n)⟩
  · cases rx; cases ry
    obtain ⟨xs, e, o1, o2, o3, o4⟩ := onL_elim o
    obtain ⟨us, f, r⟩ := sm.lst e
    have l1 := r.length
    have o5 := sm_line o3
    refine op_rep pins s σ H _ _ ux vx Q' I ru rv ⟨_, _, us, rfl, rfl, f, o1, o2, by rw [l1]; omega, fun p n => k _ _ (LQ.newL sm ?_ o4 n)⟩
    generalize Int.toNat _ = m
    induction m with
    | zero => exact RVs.nil
    | succ m ih =>
      rw [List.replicate_succ, List.replicate_succ, List.flatten_cons, List.flatten_cons]
      exact r.app ih
  · exact o.elim

/-! ### data -/
mutual
theorem dat_dp {K : PySem.W.Frag} {h : Hep} {H : Hp} (sm : Sim K h H) : ∀ (n : Nat) (v : Val) (u : V) (d : PyData), RV K H v u → datN n h v = some d → Dp K H u d
  | n, .non, u, d, r, e => by
    have r : u = .non := r
    subst r
    cases n <;> (simp only [datN] at e; cases e; exact .non)
  | n, .bl b, u, d, r, e => by
    have r : u = .bl b := r
    subst r
    cases n <;> (simp only [datN] at e; cases e; exact .bl b)
  | n, .int i, u, d, r, e => by
    have r : u = .int i := r
    subst r
    cases n <;> (simp only [datN] at e; cases e; exact .int i)
  | n, .str x, u, d, r, e => by
    have r : u = .str x := r
    subst r
    cases n <;> (simp only [datN] at e; cases e; exact .str x)
  | 0, .tup xs, u, d, r, e => by simp only [datN] at e; cases e
  | 0, .rom xs, u, d, r, e => by simp only [datN] at e; cases e
  | 0, .ref xs, u, d, r, e => by simp only [datN] at e; cases e
  | 0, .ty xs, u, d, r, e => by simp only [datN] at e; cases e
  | n + 1, .ty xs, u, d, r, e => by simp only [datN] at e; cases e
  | n + 1, .tup xs, u, d, ⟨p, us, e1, t, q⟩, e => by
    subst e1
    simp only [datN] at e
    cases z : xs.mapM (datN n h) with
    | none => rw [z] at e; cases e
    | some ds =>
      rw [z] at e
      cases e
      exact .tup t (dats_dp sm n xs us ds q z)
  | n + 1, .rom xs, u, d, ⟨p, us, e1, t, q⟩, e => by
    subst e1
    simp only [datN] at e
    cases z : xs.mapM (datN n h) with
    | none => rw [z] at e; cases e
    | some ds =>
      rw [z] at e
      cases e
      exact .lst t.sq (dats_dp sm n xs us ds q z)
  | n + 1, .ref a, u, d, r, e => by
    have r : u = .ref a := r
    subst r
    simp only [datN] at e
    split at e
    · rename_i xs hx
      obtain ⟨us, f, q⟩ := sm.lst hx
      cases z : xs.mapM (datN n h) with
      | none => rw [z] at e; cases e
      | some ds =>
        rw [z] at e
        cases e
        exact .lst (SqL.of f) (dats_dp sm n xs us ds q z)
    · cases e
  termination_by n v => (n, sizeOf v)
theorem dats_dp {K : PySem.W.Frag} {h : Hep} {H : Hp} (sm : Sim K h H) : ∀ (n : Nat) (xs : List Val) (us : List V) (ds : List PyData), RVs K H xs us → xs.mapM (datN n h) = some ds → DpAll K H us ds
  | n, [], us, ds, r, e => by
    have r : us = [] := r
    subst r
    simp at e
    subst e
    exact .nil
  | n, x :: xs, us, ds, ⟨u, us', e1, q, t⟩, e => by
    subst e1
    rw [List.mapM_cons] at e
    cases z : datN n h x with
    | none => rw [z] at e; cases e
    | some d =>
      rw [z] at e
      cases z2 : xs.mapM (datN n h) with
      | none => rw [z2] at e; cases e
      | some ds' =>
        rw [z2] at e
        cases e
        exact .cons (dat_dp sm n x u d q z) (dats_dp sm n xs us' ds' t z2)
  termination_by n xs => (n, sizeOf xs)
end
theorem onD_elim {K : PySem.W.Frag} {h : Hep} {H : Hp} (sm : Sim K h H) {v : Val} {u : V} (r : RV K H v u) {P : PyData → Prop} (x : onD h v P) : ∃ d, SeqAt.shaped d = true ∧ Dp K H u d ∧ P d := by
  unfold onD at x
  split at x
  · rename_i d e
    exact ⟨d, x.1, dat_dp sm _ _ _ _ r e, x.2⟩
  · exact x.elim

def rJC (X : Cx) (o : Val → Val → Hep → (Bool → Prop) → Prop) : R2 := fun u v H Q' => ∃ (x y : Val) (h : Hep) (P : Bool → Prop), Sim X.K h H ∧ RV X.K H x u ∧ RV X.K H y v ∧ o x y h P ∧ ∀ b, P b → Q' (.bl b) H
theorem V.bl_dec {i j : Bool} : decide (V.bl i = V.bl j) = decide (i = j) := by cases i <;> cases j <;> rfl
theorem opC_ok (hu : X.A.units + 65 < cLine) (op : CmpOp) : OpR X (compareOp op) (rJC X (opC op)) := by
  intro pins s σ H u v ux vx Q' I ru rv ⟨x, y, h, P, sm, rx, ry, o, k⟩
  unfold opC at o
  split at o
  · cases rx; cases ry
    exact op_lt pins s σ H _ _ ux vx Q' I ru rv ⟨_, _, rfl, rfl, k _ o⟩
  · cases rx; cases ry
    exact op_le pins s σ H _ _ ux vx Q' I ru rv ⟨_, _, rfl, rfl, k _ o⟩
  · cases rx; cases ry
    exact op_gt pins s σ H _ _ ux vx Q' I ru rv ⟨_, _, rfl, rfl, k _ o⟩
  · cases rx; cases ry
    exact op_ge pins s σ H _ _ ux vx Q' I ru rv ⟨_, _, rfl, rfl, k _ o⟩
  · cases rx; cases ry
    refine op_eq pins s σ H _ _ ux vx Q' I ru rv ⟨rfl, ?_⟩
    rw [dec_int, Bool.beq_eq_decide_eq]
    exact k _ o
  · cases rx; cases ry
    refine op_ne pins s σ H _ _ ux vx Q' I ru rv ⟨rfl, ?_⟩
    rw [dec_int, Bool.beq_eq_decide_eq]
    exact k _ o
  · cases rx; cases ry
    refine op_eq pins s σ H _ _ ux vx Q' I ru rv ⟨rfl, ?_⟩
    rw [V.bl_dec]
    exact k _ o
  · cases rx; cases ry
    refine op_ne pins s σ H _ _ ux vx Q' I ru rv ⟨rfl, ?_⟩
    rw [V.bl_dec]
    exact k _ o
  · cases rx; cases ry
    refine op_eq pins s σ H _ _ ux vx Q' I ru rv ⟨rfl, ?_⟩
    rw [dec_str, Bool.beq_eq_decide_eq]
    exact k _ o
  · cases rx; cases ry
    refine op_ne pins s σ H _ _ ux vx Q' I ru rv ⟨rfl, ?_⟩
    rw [dec_str, Bool.beq_eq_decide_eq]
    exact k _ o
  · cases ry
    refine op_isN pins s σ H _ _ ux vx Q' I ru rv ⟨rfl, ?_⟩
    have e : decide (u = .non) = isNon x := by
      cases x <;> first | (cases rx; rfl) | (obtain ⟨p, us, e, _⟩ := rx; subst e; rfl)
    rw [e]
    exact k _ o
  · cases ry
    refine op_notN pins s σ H _ _ ux vx Q' I ru rv ⟨rfl, ?_⟩
    have e : (!decide (u = .non)) = !isNon x := by
      cases x <;> first | (cases rx; rfl) | (obtain ⟨p, us, e, _⟩ := rx; subst e; rfl)
    rw [e]
    exact k _ o
  · obtain ⟨d, h1, h2, o⟩ := onD_elim sm rx o
    obtain ⟨e, h3, h4, o⟩ := onD_elim sm ry o
    exact op_eqD (by omega) pins s σ H _ _ ux vx Q' I ru rv ⟨d, e, h2, h4, h1, h3, k _ o⟩
  · obtain ⟨d, h1, h2, o⟩ := onD_elim sm rx o
    obtain ⟨e, h3, h4, o⟩ := onD_elim sm ry o
    exact op_neD (by omega) pins s σ H _ _ ux vx Q' I ru rv ⟨d, e, h2, h4, h1, h3, k _ o⟩
  · obtain ⟨d, h1, h2, o⟩ := onD_elim sm rx o
    obtain ⟨e, h3, h4, o⟩ := onD_elim sm ry o
    cases e with
    | list ds => exact op_inD hu pins s σ H _ _ ux vx Q' I ru rv ⟨d, ds, h2, h4, h1, h3, k _ o⟩
    | _ => exact o.elim
  · obtain ⟨d, h1, h2, o⟩ := onD_elim sm rx o
    obtain ⟨e, h3, h4, o⟩ := onD_elim sm ry o
    cases e with
    | list ds => exact op_notInD hu pins s σ H _ _ ux vx Q' I ru rv ⟨d, ds, h2, h4, h1, h3, k _ o⟩
    | _ => exact o.elim
  · exact o.elim

/-! ### isinstance -/
theorem isSub_ok {K : PySem.W.Frag} {t n : String} (ht : isKnown t = true) (hn : isKnown n = true) : PySem.W.kitOne K (.type t) (.type n) = some (isSub t n) := by
  refine kit_ty ?_
  unfold isKnown at ht hn
  simp only [Bool.or_eq_true, beq_iff_eq] at ht hn
  rcases ht with (((((rfl | rfl) | rfl) | rfl) | rfl) | rfl) | rfl <;> rcases hn with (((((rfl | rfl) | rfl) | rfl) | rfl) | rfl) | rfl <;> decide +kernel
theorem tyOf_known {h : Hep} {v : Val} {t : String} (e : tyOf h v = some t) : isKnown t = true := by
  cases v with
  | ref a =>
    simp only [tyOf] at e
    split at e
    · cases e; decide
    · cases e
  | _ => simp only [tyOf] at e <;> cases e <;> decide
theorem tyOf_ok {K : PySem.W.Frag} {h : Hep} {H : Hp} (sm : Sim K h H) {v : Val} {u : V} (r : RV K H v u) {t : String} (e : tyOf h v = some t) : TyX K H u (.type t) := by
  cases v with
  | non => cases r; cases e; exact .base .non
  | bl b => cases r; cases e; exact .base (.bl b)
  | int b => cases r; cases e; exact .base (.int b)
  | str b => cases r; cases e; exact .base (.str b)
  | ty n => cases e
  | tup xs =>
    obtain ⟨p, us, rfl, q, _⟩ := r
    cases e
    rcases q with (q | ⟨o, q⟩) | ⟨o, its, n, q1, q2, q3⟩
    · exact .base (.tup q)
    · exact .fTuple q
    · exact .kTuple q1 q2
  | rom xs =>
    obtain ⟨p, us, rfl, q, _⟩ := r
    cases e
    rcases q with ⟨o, q⟩ | ⟨o, its, n, q1, q2, q3⟩
    · exact .base (.frz q)
    · exact .kList q1 q2
  | ref a =>
    cases r
    simp only [tyOf] at e
    split at e
    · rename_i xs hx
      obtain ⟨us, f, _⟩ := sm.lst hx
      cases e
      exact .base (.lst f)
    · cases e
theorem isAny_ok {K : PySem.W.Frag} {H : Hp} {t : String} (ht : isKnown t = true) : ∀ {cs : List Val} {us : List V} {b : Bool}, isAny t cs = some b → RVs K H cs us → ∃ ws, Paired ClsV us ws ∧ PySem.W.kitAny K (.type t) ws = some b
  | [], us, b, e, r => by
    have r : us = [] := r
    subst r
    cases e
    exact ⟨[], .nil, kitAny_nil⟩
  | .ty n :: cs, us, b, e, ⟨u, us', e1, q, r⟩ => by
    subst e1
    have q : u = .ty n := q
    subst q
    simp only [isAny] at e
    split at e
    · rename_i b' hb
      split at e
      · rename_i hn
        cases e
        obtain ⟨ws, h1, h2⟩ := isAny_ok ht hb r
        refine ⟨.type n :: ws, .cons (.ty n) h1, kitAny_cons (isSub_ok ht hn) (fun z => by rw [z]; exact h2) fun z => by rw [z]; rfl⟩
      · cases e
    · cases e
  | .non :: _, _, _, e, _ => by cases e
  | .bl _ :: _, _, _, e, _ => by cases e
  | .int _ :: _, _, _, e, _ => by cases e
  | .str _ :: _, _, _, e, _ => by cases e
  | .tup _ :: _, _, _, e, _ => by cases e
  | .rom _ :: _, _, _, e, _ => by cases e
  | .ref _ :: _, _, _, e, _ => by cases e
end
end KM
/-! KMD: that what is asked suffices: calls of built-ins, methods, places. -/
namespace KM
open PySem PySem.Spec PyProof.Rows L2

def Bi.val : Bi → Value
  | .len => .builtin "len"
  | .abs => .builtin "abs"
  | .int => .type "int"
  | .all => .builtin "all"
  | .any => .builtin "any"
  | .sum => .builtin "sum"
  | .isi => .builtin "isinstance"
  | .tuple => .type "tuple"
  | .list => .type "list"
theorem blsOf_eq : ∀ {xs : List Val} {bs : List Bool}, blsOf xs = some bs → xs = bs.map Val.bl
  | [], _, e => by cases e; rfl
  | .bl b :: r, bs, e => by
    simp only [blsOf] at e
    cases z : blsOf r with
    | none => rw [z] at e; cases e
    | some cs =>
      rw [z] at e
      cases e
      rw [blsOf_eq z]
      rfl
  | .non :: _, _, e => by cases e
  | .int _ :: _, _, e => by cases e
  | .str _ :: _, _, e => by cases e
  | .tup _ :: _, _, e => by cases e
  | .rom _ :: _, _, e => by cases e
  | .ref _ :: _, _, e => by cases e
  | .ty _ :: _, _, e => by cases e
theorem intsOf_eq : ∀ {xs : List Val} {bs : List Int}, intsOf xs = some bs → xs = bs.map Val.int
  | [], _, e => by cases e; rfl
  | .int b :: r, bs, e => by
    simp only [intsOf] at e
    cases z : intsOf r with
    | none => rw [z] at e; cases e
    | some cs =>
      rw [z] at e
      cases e
      rw [intsOf_eq z]
      rfl
  | .non :: _, _, e => by cases e
  | .bl _ :: _, _, e => by cases e
  | .str _ :: _, _, e => by cases e
  | .tup _ :: _, _, e => by cases e
  | .rom _ :: _, _, e => by cases e
  | .ref _ :: _, _, e => by cases e
  | .ty _ :: _, _, e => by cases e
def rJF (X : Cx) (o : List Val → Hep → VQ → Prop) : List V → Hp → VK → Prop := fun us H Q' => ∃ vs h Q, Sim X.K h H ∧ RVs X.K H vs us ∧ o vs h Q ∧ ∀ u' H', LQ X.K h H Q u' H' → Q' u' H'
section
variable {X : Cx}
theorem RVs.one {K : PySem.W.Frag} {H : Hp} {v : Val} {us : List V} (r : RVs K H [v] us) : ∃ u, us = [u] ∧ RV K H v u := by
  obtain ⟨u, r, e, q, t⟩ := r
  have t : r = [] := t
  subst t
  exact ⟨u, e, q⟩
theorem RVs.two {K : PySem.W.Frag} {H : Hp} {v w : Val} {us : List V} (r : RVs K H [v, w] us) : ∃ u z, us = [u, z] ∧ RV K H v u ∧ RV K H w z := by
  obtain ⟨u, r, e, q, t⟩ := r
  obtain ⟨z, rfl, t1⟩ := RVs.one t
  exact ⟨u, z, e, q, t1⟩
theorem opF_ok (hc : X.calm = true) (f : Bi) : CallR X f.val (rJF X (opF f)) := by
  intro pins s σ H us ws Q' I ru ⟨vs, h, Q, sm, r, o, k⟩
  unfold opF at o
  split at o
  · obtain ⟨u, rfl, r1⟩ := RVs.one r
    obtain ⟨p, xs, us, rfl, t, r2, o, _, _⟩ := onI_elim sm r1 o
    have e : (us.length : Int) = xs.length := by rw [r2.length]
    refine call_len_seq pins s σ H _ ws Q' I ru ⟨p, us, rfl, t, ?_⟩
    rw [e]
    exact k _ _ (LQ.here (v := .int _) sm rfl o)
  · obtain ⟨u, rfl, r1⟩ := RVs.one r
    cases r1
    exact call_abs pins s σ H _ ws Q' I ru ⟨_, rfl, k _ _ (LQ.here (v := .int _) sm rfl o)⟩
  · obtain ⟨u, rfl, r1⟩ := RVs.one r
    cases r1
    exact call_int1 pins s σ H _ ws Q' I ru (.inl ⟨_, rfl, k _ _ (LQ.here (v := .int _) sm rfl o)⟩)
  · obtain ⟨u, rfl, r1⟩ := RVs.one r
    cases r1
    exact call_int1 pins s σ H _ ws Q' I ru (.inr ⟨_, rfl, k _ _ (LQ.here (v := .int _) sm rfl o)⟩)
  · obtain ⟨u, rfl, r1⟩ := RVs.one r
    cases r1
    obtain ⟨xs, e, o⟩ := onL_elim o
    obtain ⟨us, f, r2⟩ := sm.lst e
    split at o
    · rename_i bs hb
      rw [blsOf_eq hb] at r2
      have e2 := RVs.bls r2
      subst e2
      exact cr_all hc pins s σ H _ ws Q' I ru ⟨_, bs, rfl, SqL.of f, k _ _ (LQ.here (v := .bl _) sm rfl o)⟩
    · exact o.elim
  · obtain ⟨u, rfl, r1⟩ := RVs.one r
    cases r1
    obtain ⟨xs, e, o⟩ := onL_elim o
    obtain ⟨us, f, r2⟩ := sm.lst e
    split at o
    · rename_i bs hb
      rw [blsOf_eq hb] at r2
      have e2 := RVs.bls r2
      subst e2
      exact cr_any hc pins s σ H _ ws Q' I ru ⟨_, bs, rfl, SqL.of f, k _ _ (LQ.here (v := .bl _) sm rfl o)⟩
    · exact o.elim
  · obtain ⟨u, rfl, r1⟩ := RVs.one r
    cases r1
    obtain ⟨xs, e, o⟩ := onL_elim o
    obtain ⟨us, f, r2⟩ := sm.lst e
    split at o
    · rename_i bs hb
      rw [intsOf_eq hb] at r2
      have e2 := RVs.ints r2
      subst e2
      exact cr_sum hc pins s σ H _ ws Q' I ru ⟨_, bs, rfl, SqL.of f, k _ _ (LQ.here (v := .int _) sm rfl o)⟩
    · exact o.elim
  · obtain ⟨u, w, rfl, r1, r2⟩ := RVs.two r
    unfold opIsi at o
    split at o
    · rename_i t n ht
      obtain ⟨hn, o⟩ := o
      have r2 : w = .ty n := r2
      subst r2
      exact call_isi pins s σ H _ ws Q' I ru ⟨u, _, _, _, _, rfl, .ty n, tyOf_ok sm r1 ht, isSub_ok (tyOf_known ht) hn, k _ _ (LQ.here (v := .bl _) sm rfl o)⟩
    · rename_i t cs ht
      obtain ⟨p, us, rfl, t2, q⟩ := r2
      split at o
      · rename_i b hb
        have ofin := o
        obtain ⟨zs, h1, h2⟩ := isAny_ok (tyOf_known ht) hb q
        rcases t2 with (t2 | ⟨o', t2⟩) | ⟨o', its, n, q1, q2, q3, q4, q5⟩
        · exact call_isiT pins s σ H _ ws Q' I ru ⟨u, p, us, _, zs, b, rfl, t2, h1, tyOf_ok sm r1 ht, h2, k _ _ (LQ.here (v := .bl _) sm rfl o)⟩
        · -- a frozen tuple of classes
          obtain ⟨u1, u2, rfl, x1, x2⟩ := vals2 ru
          cases (show u2 = Value.ref p from x2)
          obtain ⟨P, Z, p2, hx⟩ := kit_of I x1 (tyOf_ok sm r1 ht)
          obtain ⟨_, _, its, rv, o, h1', h2', n, h3'⟩ := (show ObjOk X.prog X.w H s.heap p (.frz o' (.tup us)) from I.hok p _ t2)
          have e3 := ClsV.all h1 rv
          subst e3
          obtain ⟨oc, od, dt, sl⟩ := o
          simp only at h2' h3'
          subst h2' h3'
          exact PySem.W.kia_tup Z I.kIn p2 h1' h2 hx fun tk => ⟨.bl b, H, I.tok tk, rfl, k _ _ (LQ.here (v := .bl _) sm rfl ofin)⟩
        · have e3 := ClsV.all h1 q5
          obtain ⟨oc, od, dt, sl⟩ := o'
          simp only at q2 q3
          subst q2 q3
          refine call_isiK pins s σ H _ ws Q' I ru ⟨u, p, od, zs, n, sl, _, b, rfl, ?_, tyOf_ok sm r1 ht, h2, k _ _ (LQ.here (v := .bl _) sm rfl o)⟩
          rw [← e3]
          exact q1
      · exact o.elim
    · exact o.elim
  · obtain ⟨u, rfl, r1⟩ := RVs.one r
    by_cases z : ∃ ys, (‹Val› : Val) = .tup ys
    · obtain ⟨ys, rfl⟩ := z
      obtain ⟨p, us, rfl, t, q⟩ := id r1
      exact call_tuple_of pins s σ H _ ws Q' I ru ⟨p, us, rfl, .inr ⟨t, k _ _ (LQ.here (v := .tup _) sm r1 o)⟩⟩
    · obtain ⟨p, xs, us, rfl, t, r2, o, _, t2⟩ := onI_elim sm r1 o
      exact call_tuple_of pins s σ H _ ws Q' I ru ⟨p, us, rfl, .inl ⟨t2 z, fun l n => k _ _ (LQ.tup sm r2 o n)⟩⟩
  · obtain ⟨u, rfl, r1⟩ := RVs.one r
    obtain ⟨p, xs, us, rfl, t, r2, o, _, _⟩ := onI_elim sm r1 o
    exact call_list_of pins s σ H _ ws Q' I ru ⟨p, us, rfl, t, fun l n => k _ _ (LQ.newL sm r2 o n)⟩
  · exact o.elim

/-! ### methods -/
def rJM (X : Cx) (o : Val → List Val → Hep → VQ → Prop) : V → List V → Hp → VK → Prop := fun u us H Q' => ∃ v vs h Q, Sim X.K h H ∧ RV X.K H v u ∧ RVs X.K H vs us ∧ o v vs h Q ∧ ∀ u' H', LQ X.K h H Q u' H' → Q' u' H'
def Mt.id : Mt → String
  | .append => "list.append"
  | .pop => "list.pop"
  | .extend => "list.extend"
theorem RVs.dropLast {K : PySem.W.Frag} {H : Hp} {vs : List Val} {us : List V} (r : RVs K H vs us) : RVs K H vs.dropLast us.dropLast := by
  rw [List.dropLast_eq_take, List.dropLast_eq_take, r.length]
  exact r.take _
theorem opM_ok (m : Mt) : MtR X m.id (rJM X (opM m)) := by
  intro pins s σ H u us v ws Q' I ru rs ⟨x, vs, h, Q, sm, rx, r, o, k⟩
  unfold opM at o
  split at o
  · cases rx
    obtain ⟨w, rfl, r1⟩ := RVs.one r
    obtain ⟨xs, e, o1, o⟩ := onL_elim o
    obtain ⟨us, f, t⟩ := sm.lst e
    refine mt_append pins s σ H _ _ v ws Q' I ru rs ⟨_, us, w, rfl, rfl, f, by rw [t.length]; exact sm_line o1, k _ _ (LQ.set (v := .non) sm e (t.app (RVs.cons r1 RVs.nil)) rfl o)⟩
  · cases rx
    obtain ⟨w, rfl, r1⟩ := RVs.one r
    cases r1
    obtain ⟨xs, e, o⟩ := onL_elim o
    obtain ⟨ys, e2, o1, o⟩ := onL_elim o
    obtain ⟨us, f, t⟩ := sm.lst e
    obtain ⟨us2, f2, t2⟩ := sm.lst e2
    have o3 := sm_line o1
    refine mt_extend pins s σ H _ _ v ws Q' I ru rs ⟨_, _, us, us2, rfl, rfl, f, f2, by rw [t.length, t2.length]; omega, k _ _ (LQ.set (v := .non) sm e (t.app t2) rfl o)⟩
  · cases rx
    have r : us = [] := r
    subst r
    obtain ⟨xs, e, o⟩ := onL_elim o
    obtain ⟨us, f, t⟩ := sm.lst e
    split at o
    · rename_i w hw
      rw [List.getLast?_eq_getElem?] at hw
      obtain ⟨y, h1, h2⟩ := t.get hw
      rw [← t.length] at h1
      exact mt_pop pins s σ H _ _ v ws Q' I ru rs ⟨_, us, y, rfl, rfl, f, h1, k _ _ (LQ.set sm e t.dropLast h2 o)⟩
    · exact o.elim
  · cases rx
    obtain ⟨w, rfl, r1⟩ := RVs.one r
    cases r1
    obtain ⟨xs, e, o1, o⟩ := onL_elim o
    obtain ⟨us, f, t⟩ := sm.lst e
    subst o1
    cases xs with
    | nil => exact o.elim
    | cons y ys =>
      obtain ⟨u0, us', rfl, q, t'⟩ := t
      refine mt_popAt pins s σ H _ _ v ws Q' I ru rs ⟨_, u0 :: us', 0, 0, u0, rfl, rfl, f, by decide, by decide, ?_, rfl, k _ _ (LQ.set sm e t' q o)⟩
      simp [seqIndex?]
  · exact o.elim

/-! ### places -/
def rJI (X : Cx) (o : Val → Val → Hep → (Val → Prop) → Prop) : R2 := fun u v H Q' => ∃ (x y : Val) (h : Hep) (P : Val → Prop), Sim X.K h H ∧ RV X.K H x u ∧ RV X.K H y v ∧ o x y h P ∧ ∀ w z, RV X.K H w z → P w → Q' z H
theorem opIx_ok : IxR X (rJI X opIx) := by
  intro value slice pins s σ H u v ux vx Q' I ru rv ⟨x, y, h, P, sm, rx, ry, o, k⟩ hs
  unfold opIx at o
  split at o
  · cases ry
    obtain ⟨p, xs, us, rfl, t, r, o, _, _⟩ := onI_elim sm rx o
    split at o
    · rename_i w hw
      obtain ⟨j, h1, h2⟩ := atI_get2 r.length hw
      obtain ⟨z, h3, h4⟩ := r.get h1
      rcases t with t | t
      · exact ix_list value slice pins s σ H _ _ ux vx Q' I ru rv ⟨p, us, _, z, rfl, rfl, t, h2 z h3, k w z h4 o⟩ hs
      · exact ix_tup value slice pins s σ H _ _ ux vx Q' I ru rv ⟨p, us, _, z, rfl, rfl, t, h2 z h3, k w z h4 o⟩ hs
    · exact o.elim
  · exact o.elim
def rJSl (X : Cx) : V → Option Int → Option Int → Hp → VK → Prop := fun u lo hi H Q' => ∃ (x : Val) (h : Hep) (Q : VQ), Sim X.K h H ∧ RV X.K H x u ∧ opSl x lo hi h Q ∧ ∀ u' H', LQ X.K h H Q u' H' → Q' u' H'
theorem cut_rel {K : PySem.W.Frag} {H : Hp} {xs : List Val} {us : List V} (r : RVs K H xs us) (lo hi : Option Int) : RVs K H (cutL xs lo hi) (cutV us lo hi) := by
  unfold cutL cutV
  rw [r.length]
  exact (r.drop _).take _
theorem opSl_ok : SlR X (rJSl X) := by
  intro pins s σ H u v vl vu lo hi sl Q' I ru hs pl pu ⟨x, h, Q, sm, rx, o, k⟩
  unfold opSl at o
  split at o
  · obtain ⟨p, us, rfl, t, r⟩ := rx
    exact sl_tup pins s σ H _ v vl vu lo hi sl Q' I ru hs pl pu ⟨p, us, rfl, t, by rw [r.length]; exact o.1, fun q n => k _ _ (LQ.tup sm (cut_rel r lo hi) o.2 n)⟩
  · obtain ⟨p, us, rfl, t, r⟩ := rx
    exact sl_list pins s σ H _ v vl vu lo hi sl Q' I ru hs pl pu ⟨p, us, rfl, t.sq, fun q n => k _ _ (LQ.newL sm (cut_rel r lo hi) o n)⟩
  · cases rx
    obtain ⟨xs, e, o⟩ := onL_elim o
    obtain ⟨us, f, t⟩ := sm.lst e
    exact sl_list pins s σ H _ v vl vu lo hi sl Q' I ru hs pl pu ⟨_, us, rfl, SqL.of f, fun q n => k _ _ (LQ.newL sm (cut_rel t lo hi) o n)⟩
  · exact o.elim
def LH (K : PySem.W.Frag) (h : Hep) (H : Hp) (Q : Hep → Prop) (H' : Hp) : Prop := ∃ h', Go h H h' H' ∧ Sim K h' H' ∧ Q h'
def rJSet (X : Cx) : TSet := fun u v w H Q' => ∃ (o i x : Val) (h : Hep) (Q : Hep → Prop), Sim X.K h H ∧ RV X.K H o u ∧ RV X.K H i v ∧ RV X.K H x w ∧ opSet o i x h Q ∧ ∀ H', LH X.K h H Q H' → Q' H'
theorem opSet_ok : PSet X (rJSet X) := by
  intro pins s σ H u v w ou iv xu Q' I r1 r2 r3 ⟨o, i, x, h, Q, sm, q1, q2, q3, op, k⟩
  unfold opSet at op
  split at op
  · cases q1; cases q2
    obtain ⟨xs, e, op⟩ := onL_elim op
    obtain ⟨us, f, t⟩ := sm.lst e
    split at op
    · rename_i j hj
      refine set_list pins s σ H _ _ w ou iv xu Q' I r1 r2 r3 ⟨_, us, _, j, rfl, rfl, f, by rw [t.length]; exact hj, k _ ⟨_, go_set e, sm.set e (t.set q3 j), op⟩⟩
    · exact op.elim
  · exact op.elim
theorem truthOf_ok {K : PySem.W.Frag} {h : Hep} {H : Hp} (sm : Sim K h H) {v : Val} {u : V} (r : RV K H v u) {b : Bool} (e : truthOf h v = some b) : TruV K u H b := by
  have emp : ∀ {xs : List Val} {us : List V}, RVs K H xs us → (!xs.isEmpty) = !us.isEmpty := fun {xs us} r => by
    have l := r.length
    cases xs <;> cases us <;> simp at l <;> rfl
  cases v with
  | non => cases r; cases e; rfl
  | bl b => cases r; cases e; rfl
  | int i => cases r; cases e; rfl
  | str x => cases e
  | ty n => cases e
  | tup xs =>
    obtain ⟨p, us, rfl, t, r⟩ := r
    cases e
    exact .inr (.inl ⟨us, t, emp r⟩)
  | rom xs =>
    obtain ⟨p, us, rfl, t, r⟩ := r
    cases e
    exact .inl ⟨us, t.sq, emp r⟩
  | ref a =>
    cases r
    simp only [truthOf] at e
    split at e
    · rename_i xs hx
      obtain ⟨us, f, t⟩ := sm.lst hx
      cases e
      exact .inl ⟨us, SqL.of f, emp t⟩
    · cases e
theorem onT_elim {K : PySem.W.Frag} {h : Hep} {H : Hp} (sm : Sim K h H) {v : Val} {u : V} (r : RV K H v u) {P : Bool → Prop} (x : onT h v P) : ∃ b, TruV K u H b ∧ truthOf h v = some b ∧ P b := by
  unfold onT at x
  split at x
  · rename_i b e
    exact ⟨b, truthOf_ok sm r e, e, x⟩
  · exact x.elim
end
end KM
/-! KMF: that what is asked suffices: expressions. -/
namespace KM
open PySem PySem.Spec PyProof.Rows L2

/-- the reading of a def by the table's own word about it -/
def spC (K : PySem.W.Frag) (mg : Str → Option Value) (C : CalT) (f : Str) : Sp := fun us H Q' E' =>
  ∃ vs h Q E, Sim K h H ∧ RVs K H vs us ∧ C f vs h Q E ∧ (∀ u H', LQ K h H Q u H' → Q' u H') ∧ ∀ cls d H', LX K mg h H E cls d H' → E' cls d H'
def FOk' (P : Program) (w : World) (K : PySem.W.Frag) (mg : Str → Option Value) (base : Heap) (C : CalT) (k : Nat) (f : Str) : Prop :=
  ∃ a fd ps, mg f = some (.ref a) ∧ PySem.W.keepIn K (.ref a) = true ∧ FnOk P w K mg base (CX P w) k a fd ps (spC K mg C f) ∧ Binds K fd ps []
abbrev FOk (X : Cx) (C : CalT) (k : Nat) (f : Str) : Prop := FOk' X.prog X.w X.K X.mg X.base C k f

section
variable {X : Cx} {C : CalT} {pos : Pos}
theorem PE.of (e : Expr) (w : WE) (h : ∀ pins s σ H env h Q E (Q' : VK), Inv X pins σ H s → Tk X σ h H E → Sim X.K h H → RVo X.K H env σ → w env h Q E → (∀ u H', LQ X.K h H Q u H' → Q' u H') → wpAny (model X.prog X.w) X.A (eval e X.env) (EP X pins σ Q') X.xe s) : JE X e w :=
  ⟨fun pins s σ H Q' I ⟨env, h0, Q, E, tk, sm, rv, q, k⟩ => h pins s σ H env h0 Q E Q' I tk sm rv q k⟩
/-- a first part, then the rest: what the first part's reading needs -/
theorem JE.first {e : Expr} {w : WE} (j : JE X e w) {pins : List (Addr × Obj)} {s : Shared} {σ : L2.St} {H : Hp} {env : Env} {h : Hep} {Q : VQ} {E : XQ} {R : Value → Shared → Prop}
    (I : Inv X pins σ H s) (tk : Tk X σ h H E) (sm : Sim X.K h H) (rv : RVo X.K H env σ) (q : w env h Q E)
    (k : ∀ u s1 v uv h1 H1, Inv X pins σ H1 s1 → RelV uv u → Go h H h1 H1 → Sim X.K h1 H1 → RV X.K H1 v uv → Q v h1 → R u s1) :
    wpAny (model X.prog X.w) X.A (eval e X.env) R X.xe s :=
  thn (PE.run j pins s σ H (fun u H' => LQ X.K h H Q u H') I ⟨env, h, Q, E, tk, sm, rv, q, fun _ _ z => z⟩) fun u s1 ⟨uv, H1, I1, r1, v, h1, g1, s2, r2, q2⟩ => k u s1 v uv h1 H1 I1 r1 g1 s2 r2 q2

theorem je_bad {e : Expr} : JE X e (fun _ _ _ _ => False) := PE.of _ _ fun _ _ _ _ _ _ _ _ _ _ _ _ _ q _ => q.elim
theorem jt_bad {e : Expr} : JT X e (fun _ _ _ _ => False) := ⟨fun _ _ _ _ _ _ ⟨_, _, _, _, _, _, _, q, _⟩ => q.elim⟩
theorem je_var {i : Nat} {x : Str} (hN : X.N[i]? = some x) (hv : Vis X.env.scope x) (hd : (x == ("__debug__" : Str)) = false) (hcd : (x == ("__classdict__" : Str)) = false) :
    JE X (.Name x pos) (wE C (.var i)) := PE.imp (pe_var (pos := pos) hN hv hd hcd) fun σ H Q' ⟨env, h, Q, E, tk, sm, rv, q, k⟩ => by
  simp only [wE, wP, dfl] at q
  split at q
  · rename_i v e
    obtain ⟨u, e2, r⟩ := rv.2 _ _ e
    exact ⟨u, e2, k _ _ (LQ.here sm r q)⟩
  · exact q.elim
/-- a constant -/
theorem je_con {e : Expr} {v : Val} {u : V} (p : PE X e (tC u)) (r : ∀ H, RV X.K H v u) : JE X e (fun _ h Q _ => Q v h) := PE.imp p fun σ H Q' ⟨env, h, Q, E, tk, sm, rv, q, k⟩ => k _ _ (LQ.here sm (r H) q)

theorem je_bin {a b : Expr} {op : Operator} {x y : Ex} (ja : JE X a (wE C x)) (jb : JE X b (wE C y)) : JE X (.BinOp a op b pos) (wE C (.bin op x y)) :=
  PE.imp (pe_op (pos := pos) (opB_ok op) ja jb) fun σ H Q' ⟨env, h, Q, E, tk, sm, rv, q, k⟩ =>
    ⟨env, h, _, E, tk, sm, rv, q, fun u H1 ⟨v, h1, g1, s1, r1, q1⟩ => ⟨env, h1, _, E, tk.go g1, s1, rv.go sm g1, q1, fun u2 H2 ⟨v2, h2, g2, s2, r2, q2⟩ =>
      ⟨v, v2, h2, Q, s2, RV.go s1 g2 r1, r2, q2, fun u' H' l => k _ _ (LQ.trans g1 (LQ.trans g2 l))⟩⟩⟩
theorem onInt_elim {v : Val} {P : Int → Prop} (x : onInt v P) : ∃ i, v = .int i ∧ P i := by
  cases v with
  | int i => exact ⟨i, rfl, x⟩
  | _ => exact x.elim
theorem je_neg {a : Expr} {x : Ex} (ja : JE X a (wE C x)) : JE X (.UnaryOp .USub a pos) (wE C (.neg x)) :=
  PE.imp (pe_un (pos := pos) un_neg ja) fun σ H Q' ⟨env, h, Q, E, tk, sm, rv, q, k⟩ =>
    ⟨env, h, _, E, tk, sm, rv, q, fun u H1 ⟨v, h1, g1, s1, r1, q1⟩ => by
      obtain ⟨i, rfl, q1⟩ := onInt_elim q1
      cases r1
      exact ⟨_, rfl, k _ _ (LQ.trans g1 (LQ.here (v := .int _) s1 rfl q1))⟩⟩

/-! ### and, or, not, if .. else -/
theorem je_and {a b : Expr} {rest : List Expr} {x y : Ex} (ja : JE X a (wE C x)) (jb : JE X (.BoolOp .And (b :: rest) pos) (wE C y)) : JE X (.BoolOp .And (a :: b :: rest) pos) (wE C (.and x y)) :=
  PE.imp (pe_andT ja jb) fun σ H Q' ⟨env, h, Q, E, tk, sm, rv, q, k⟩ => by
    refine ⟨env, h, _, E, tk, sm, rv, q, fun u H1 ⟨v, h1, g1, s1, r1, q1⟩ => ?_⟩
    obtain ⟨b, t, _, q1⟩ := onT_elim s1 r1 q1
    refine ⟨b, t, ?_⟩
    cases b with
    | true => exact ⟨env, h1, _, E, tk.go g1, s1, rv.go sm g1, q1, fun u H' l => k _ _ (LQ.trans g1 l)⟩
    | false => exact k _ _ (LQ.trans g1 (LQ.here s1 r1 q1))
theorem je_or {a b : Expr} {rest : List Expr} {x y : Ex} (ja : JE X a (wE C x)) (jb : JE X (.BoolOp .Or (b :: rest) pos) (wE C y)) : JE X (.BoolOp .Or (a :: b :: rest) pos) (wE C (.or x y)) :=
  PE.imp (pe_orT ja jb) fun σ H Q' ⟨env, h, Q, E, tk, sm, rv, q, k⟩ => by
    refine ⟨env, h, _, E, tk, sm, rv, q, fun u H1 ⟨v, h1, g1, s1, r1, q1⟩ => ?_⟩
    obtain ⟨b, t, _, q1⟩ := onT_elim s1 r1 q1
    refine ⟨b, t, ?_⟩
    cases b with
    | true => exact k _ _ (LQ.trans g1 (LQ.here s1 r1 q1))
    | false => exact ⟨env, h1, _, E, tk.go g1, s1, rv.go sm g1, q1, fun u H' l => k _ _ (LQ.trans g1 l)⟩
theorem je_one {a : Expr} {op : BoolOp} {w : WE} (ja : JE X a w) : JE X (.BoolOp op [a] pos) w := pe_one ja
theorem je_not {a : Expr} {x : Ex} (ja : JE X a (wE C x)) : JE X (.UnaryOp .Not a pos) (wE C (.not x)) :=
  PE.imp (pe_notT ja) fun σ H Q' ⟨env, h, Q, E, tk, sm, rv, q, k⟩ => by
    refine ⟨env, h, _, E, tk, sm, rv, q, fun u H1 ⟨v, h1, g1, s1, r1, q1⟩ => ?_⟩
    obtain ⟨b, t, _, q1⟩ := onT_elim s1 r1 q1
    exact ⟨b, t, k _ _ (LQ.trans g1 (LQ.here (v := .bl _) s1 rfl q1))⟩
theorem LB.trans {K : PySem.W.Frag} {h h1 : Hep} {H H1 H' : Hp} {Q : BQ} {b : Bool} (g : Go h H h1 H1) (q : LB K h1 H1 Q b H') : LB K h H Q b H' := by
  obtain ⟨h2, g2, s2, q⟩ := q
  exact ⟨h2, g.trans g2, s2, q⟩
/-- a test by its value's truth -/
theorem jt_of {a : Expr} {w : WE} (ja : JE X a w) (he : ∀ whole, isTrue a X.env whole = (do let v ← whole; standAt a.pos; holding [v] (truthy v))) : JT X a (dfl w).2 :=
  PT.imp (pt_truth ja he) fun σ H Q' ⟨env, h, Q, E, tk, sm, rv, q, k⟩ => by
    refine ⟨env, h, _, E, tk, sm, rv, q, fun u H1 ⟨v, h1, g1, s1, r1, q1⟩ => ?_⟩
    obtain ⟨b, t, _, q1⟩ := onT_elim s1 r1 q1
    exact ⟨b, t, k _ _ ⟨h1, g1, s1, q1⟩⟩
abbrev JW (X : Cx) (e : Expr) (w : WT) : Prop := PW X e (tST X w)
theorem jw_one {a : Expr} {op : BoolOp} {w : WT} (ja : JT X a w) : JW X (.BoolOp op [a] pos) w := by
  cases op with
  | And => exact pw_and1 ja
  | Or => exact pw_or1 ja
theorem PW.imp {X : Cx} {e : Expr} {t t' : TT} (p : PW X e t) (h : ∀ σ H Q, t' σ H Q → t σ H Q) : PW X e t' := ⟨fun wh pins s σ H Q I q => p.run wh pins s σ H Q I (h _ _ _ q)⟩
theorem jw_and {a b : Expr} {rest : List Expr} {x y : Ex} (jt : JT X a (wT C x)) (jb : JW X (.BoolOp .And (b :: rest) pos) (wT C y)) : JW X (.BoolOp .And (a :: b :: rest) pos) (wT C (.and x y)) :=
  PW.imp (pw_and jt jb) fun σ H Q' ⟨env, h, Q, E, tk, sm, rv, q, k⟩ => by
    refine ⟨env, h, _, E, tk, sm, rv, q, fun b H1 ⟨h1, g1, s1, q1⟩ => ?_⟩
    cases b with
    | true => exact ⟨env, h1, Q, E, tk.go g1, s1, rv.go sm g1, q1, fun b H' l => k _ _ (LB.trans g1 l)⟩
    | false => exact k _ _ ⟨h1, g1, s1, q1⟩
theorem jw_or {a b : Expr} {rest : List Expr} {x y : Ex} (jt : JT X a (wT C x)) (jb : JW X (.BoolOp .Or (b :: rest) pos) (wT C y)) : JW X (.BoolOp .Or (a :: b :: rest) pos) (wT C (.or x y)) :=
  PW.imp (pw_or jt jb) fun σ H Q' ⟨env, h, Q, E, tk, sm, rv, q, k⟩ => by
    refine ⟨env, h, _, E, tk, sm, rv, q, fun b H1 ⟨h1, g1, s1, q1⟩ => ?_⟩
    cases b with
    | true => exact k _ _ ⟨h1, g1, s1, q1⟩
    | false => exact ⟨env, h1, Q, E, tk.go g1, s1, rv.go sm g1, q1, fun b H' l => k _ _ (LB.trans g1 l)⟩
theorem jt_not {a : Expr} {x : Ex} (jt : JT X a (wT C x)) : JT X (.UnaryOp .Not a pos) (wT C (.not x)) :=
  PT.imp (pt_not jt) fun σ H Q' ⟨env, h, Q, E, tk, sm, rv, q, k⟩ =>
    ⟨env, h, _, E, tk, sm, rv, q, fun b H1 ⟨h1, g1, s1, q1⟩ => k _ _ ⟨h1, g1, s1, q1⟩⟩
theorem je_ife {c a b : Expr} {z x y : Ex} (jc : JT X c (wT C z)) (ja : JE X a (wE C x)) (jb : JE X b (wE C y)) : JE X (.IfExp c a b pos) (wE C (.ife z x y)) :=
  PE.imp (pe_ifExp (pos := pos) jc ja jb) fun σ H Q' ⟨env, h, Q, E, tk, sm, rv, q, k⟩ => by
    refine ⟨env, h, _, E, tk, sm, rv, q, fun b H1 ⟨h1, g1, s1, q1⟩ => ?_⟩
    cases b with
    | true => exact ⟨env, h1, Q, E, tk.go g1, s1, rv.go sm g1, q1, fun b H' l => k _ _ (LQ.trans g1 l)⟩
    | false => exact ⟨env, h1, Q, E, tk.go g1, s1, rv.go sm g1, q1, fun b H' l => k _ _ (LQ.trans g1 l)⟩
theorem pt_ife {c a b : Expr} {tc ta tb : TT} (jc : PT X c tc) (ja : PT X a ta) (jb : PT X b tb) : PT X (.IfExp c a b pos) (fun σ H Q => tc σ H fun t H1 => if t = true then ta σ H1 Q else tb σ H1 Q) := by
  refine ⟨fun pins s σ H Q I h => ?_⟩
  unfold PySem.isTrue
  refine wpAny_bind (thn (jc.run pins s σ H _ I h) fun t s1 ⟨H1, I1, q1⟩ => ?_)
  cases t with
  | true => exact ja.run pins s1 σ H1 Q I1 q1
  | false => exact jb.run pins s1 σ H1 Q I1 q1
theorem jt_ife {c a b : Expr} {z x y : Ex} (jc : JT X c (wT C z)) (ja : JT X a (wT C x)) (jb : JT X b (wT C y)) : JT X (.IfExp c a b pos) (wT C (.ife z x y)) :=
  PT.imp (pt_ife jc ja jb) fun σ H Q' ⟨env, h, Q, E, tk, sm, rv, q, k⟩ => by
    refine ⟨env, h, _, E, tk, sm, rv, q, fun b H1 ⟨h1, g1, s1, q1⟩ => ?_⟩
    cases b with
    | true => exact ⟨env, h1, Q, E, tk.go g1, s1, rv.go sm g1, q1, fun b H' l => k _ _ (LB.trans g1 l)⟩
    | false => exact ⟨env, h1, Q, E, tk.go g1, s1, rv.go sm g1, q1, fun b H' l => k _ _ (LB.trans g1 l)⟩

/-! ### comparisons -/
theorem LQ.bl {K : PySem.W.Frag} {h : Hep} {H : Hp} {Q : VQ} (s : Sim K h H) {b : Bool} (q : Q (.bl b) h) : LQ K h H Q (.bl b) H := LQ.here (v := .bl b) s rfl q
theorem je_cmp {a b : Expr} {op : CmpOp} {x y : Ex} (hu : X.A.units + 65 < cLine) (hm : behindInMarks op b = false) (ja : JE X a (wE C x)) (jb : JE X b (wE C y)) : JE X (.Compare a [op] [b] pos) (wE C (.cmp op x y)) :=
  PE.imp (pe_cmpR (pos := pos) (opC_ok hu op) ja jb hm) fun σ H Q' ⟨env, h, Q, E, tk, sm, rv, q, k⟩ =>
    ⟨env, h, _, E, tk, sm, rv, q, fun u H1 ⟨v, h1, g1, s1, r1, q1⟩ => ⟨env, h1, _, E, tk.go g1, s1, rv.go sm g1, q1, fun u2 H2 ⟨v2, h2, g2, s2, r2, q2⟩ =>
      ⟨v, v2, h2, _, s2, RV.go s1 g2 r1, r2, q2, fun b l => k _ _ (LQ.trans g1 (LQ.trans g2 (LQ.bl s2 l)))⟩⟩⟩
theorem jt_cmp {a b : Expr} {op : CmpOp} {x y : Ex} (hu : X.A.units + 65 < cLine) (hm : behindInMarks op b = false) (ja : JE X a (wE C x)) (jb : JE X b (wE C y)) : JT X (.Compare a [op] [b] pos) (wT C (.cmp op x y)) :=
  PT.imp (pt_cmpR (pos := pos) (opC_ok hu op) ja jb hm) fun σ H Q' ⟨env, h, Q, E, tk, sm, rv, q, k⟩ =>
    ⟨env, h, _, E, tk, sm, rv, q, fun u H1 ⟨v, h1, g1, s1, r1, q1⟩ => ⟨env, h1, _, E, tk.go g1, s1, rv.go sm g1, q1, fun u2 H2 ⟨v2, h2, g2, s2, r2, q2⟩ =>
      ⟨v, v2, h2, _, s2, RV.go s1 g2 r1, r2, q2, fun b l => ⟨b, rfl, k _ _ (LB.trans g1 (LB.trans g2 ⟨h2, Go.refl _ _, s2, l⟩))⟩⟩⟩⟩
theorem je_chn {a b c : Expr} {op op' : CmpOp} {x y z : Ex} (hu : X.A.units + 65 < cLine) (hm : lastMarks [op, op'] [b, c] = false) (ja : JE X a (wE C x)) (jb : JE X b (wE C y)) (jc : JE X c (wE C z)) : JE X (.Compare a [op, op'] [b, c] pos) (wE C (.chn op op' x y z)) :=
  PE.imp (pe_chain (pos := pos) (opC_ok hu op) (opC_ok hu op') ja jb jc hm) fun σ H Q' ⟨env, h, Q, E, tk, sm, rv, q, k⟩ =>
    ⟨env, h, _, E, tk, sm, rv, q, fun u H1 ⟨v, h1, g1, s1, r1, q1⟩ => ⟨env, h1, _, E, tk.go g1, s1, rv.go sm g1, q1, fun u2 H2 ⟨v2, h2, g2, s2, r2, q2⟩ =>
      ⟨v, v2, h2, _, s2, RV.go s1 g2 r1, r2, q2, fun b l => ⟨b, rfl, by
        cases b with
        | false => exact k _ _ (LQ.trans g1 (LQ.trans g2 (LQ.bl s2 l)))
        | true => exact ⟨env, h2, _, E, (tk.go g1).go g2, s2, (rv.go sm g1).go s1 g2, l, fun u3 H3 ⟨v3, h3, g3, s3, r3, q3⟩ =>
            ⟨v2, v3, h3, _, s3, RV.go s2 g3 r2, r3, q3, fun b l => k _ _ (LQ.trans g1 (LQ.trans g2 (LQ.trans g3 (LQ.bl s3 l))))⟩⟩⟩⟩⟩⟩
theorem jt_chn {a b c : Expr} {op op' : CmpOp} {x y z : Ex} (hu : X.A.units + 65 < cLine) (hm : lastMarks [op, op'] [b, c] = false) (ja : JE X a (wE C x)) (jb : JE X b (wE C y)) (jc : JE X c (wE C z)) : JT X (.Compare a [op, op'] [b, c] pos) (wT C (.chn op op' x y z)) :=
  PT.imp (pt_chain (pos := pos) (opC_ok hu op) (opC_ok hu op') ja jb jc hm) fun σ H Q' ⟨env, h, Q, E, tk, sm, rv, q, k⟩ =>
    ⟨env, h, _, E, tk, sm, rv, q, fun u H1 ⟨v, h1, g1, s1, r1, q1⟩ => ⟨env, h1, _, E, tk.go g1, s1, rv.go sm g1, q1, fun u2 H2 ⟨v2, h2, g2, s2, r2, q2⟩ =>
      ⟨v, v2, h2, _, s2, RV.go s1 g2 r1, r2, q2, fun b l => ⟨b, rfl, by
        cases b with
        | false => exact ⟨false, rfl, k _ _ (LB.trans g1 (LB.trans g2 ⟨h2, Go.refl _ _, s2, l⟩))⟩
        | true => exact ⟨env, h2, _, E, (tk.go g1).go g2, s2, (rv.go sm g1).go s1 g2, l, fun u3 H3 ⟨v3, h3, g3, s3, r3, q3⟩ =>
            ⟨v2, v3, h3, _, s3, RV.go s2 g3 r2, r3, q3, fun b l => ⟨b, rfl, k _ _ (LB.trans g1 (LB.trans g2 (LB.trans g3 ⟨h3, Go.refl _ _, s3, l⟩)))⟩⟩⟩⟩⟩⟩⟩

/-! ### arguments, displays, calls -/
theorem LA.trans {K : PySem.W.Frag} {h h1 : Hep} {H H1 H' : Hp} {Q : LQs} {us : List V} (g : Go h H h1 H1) (q : LA K h1 H1 Q us H') : LA K h H Q us H' := by
  obtain ⟨vs, h2, g2, s2, r, q⟩ := q
  exact ⟨vs, h2, g.trans g2, s2, r, q⟩
/-- arguments, their number told -/
def JAn (X : Cx) (es : List Expr) (n : Nat) (w : WA) : Prop := PA X es fun σ H Q' => ∃ env h Q E, Tk X σ h H E ∧ Sim X.K h H ∧ RVo X.K H env σ ∧ w env h Q E ∧ ∀ us H', us.length = n → LA X.K h H Q us H' → Q' us H'
theorem ja_nil : JAn X [] 0 (wA C .nil) := PA.imp pa_nil fun σ H Q' ⟨env, h, Q, E, tk, sm, rv, q, k⟩ => k [] H rfl ⟨[], h, Go.refl _ _, sm, rfl, q⟩
theorem ja_cons {e : Expr} {es : List Expr} {x : Ex} {xs : Exs} {n : Nat} (ja : JE X e (wE C x)) (jr : JAn X es n (wA C xs)) (hs : starEach (e :: es) X.env = (false, eval e X.env) :: starEach es X.env) : JAn X (e :: es) (n + 1) (wA C (.cons x xs)) :=
  PA.imp (pa_cons ja jr hs) fun σ H Q' ⟨env, h, Q, E, tk, sm, rv, q, k⟩ =>
    ⟨env, h, _, E, tk, sm, rv, q, fun u H1 ⟨v, h1, g1, s1, r1, q1⟩ => ⟨env, h1, _, E, tk.go g1, s1, rv.go sm g1, q1, fun us H2 hl ⟨vs, h2, g2, s2, r2, q2⟩ =>
      k _ _ (by rw [List.length_cons, hl]) ⟨v :: vs, h2, g1.trans g2, s2, RVs.cons (RV.go s1 g2 r1) r2, q2⟩⟩⟩
theorem je_lst {es : List Expr} {xs : Exs} {n : Nat} (hn : n ≤ 1000) (ja : JAn X es n (wA C xs)) : JE X (.List es pos) (wE C (.lst xs)) :=
  PE.imp (pe_lst (pos := pos) ja) fun σ H Q' ⟨env, h, Q, E, tk, sm, rv, q, k⟩ =>
    ⟨env, h, _, E, tk, sm, rv, q, fun us H1 hl ⟨vs, h1, g1, s1, r1, q1⟩ => ⟨by rw [hl]; exact Nat.le_of_lt (small1000 hn), fun p np => k _ _ (LQ.trans g1 (LQ.newL s1 r1 q1 np))⟩⟩
theorem je_tup {es : List Expr} {xs : Exs} {n m : Nat} (hn : n ≤ 1000) (ja : JAn X es n (wA C xs)) : JE X (.Tuple es m pos) (wE C (.tup xs)) :=
  PE.imp (pe_tup (pos := pos) ja) fun σ H Q' ⟨env, h, Q, E, tk, sm, rv, q, k⟩ =>
    ⟨env, h, _, E, tk, sm, rv, q, fun us H1 hl ⟨vs, h1, g1, s1, r1, q1⟩ => ⟨by rw [hl]; exact Nat.le_of_lt (small1000 hn), fun p np => k _ _ (LQ.trans g1 (LQ.tup s1 r1 q1 np))⟩⟩
theorem je_biF {f : Bi} {x id : Str} {p : Pos} {e : Expr} {es : List Expr} {xs : Exs} {n : Nat} {B : String} (hc : X.calm = true) (hf : f.val = .builtin B) (hg : Gl X x) (hm : X.mg x = none) (hv : bootBuiltins x = some (.builtin B)) (hn : x ≠ "__name__") (hdb : (x == ("__debug__" : Str)) = false)
    (ja : JAn X (e :: es) n (wA C xs)) (he : starEach (e :: es) X.env = (false, eval e X.env) :: starEach es X.env) (hpl : (backTo pos (starEach es X.env)).any (·.1) = false) : JE X (.Call (.Name x p) (e :: es) [] pos) (wE C (.bi f xs)) :=
  PE.imp (pe_callB (r := rJF X (opF f)) (by rw [← hf]; exact opF_ok hc f) hg hm hv ja hn hdb he hpl) fun σ H Q' ⟨env, h, Q, E, tk, sm, rv, q, k⟩ =>
    ⟨env, h, _, E, tk, sm, rv, q, fun us H1 hl ⟨vs, h1, g1, s1, r1, q1⟩ => ⟨vs, h1, Q, s1, r1, q1, fun u' H' l => k _ _ (LQ.trans g1 l)⟩⟩
theorem je_biT {f : Bi} {x id : Str} {p : Pos} {e : Expr} {es : List Expr} {xs : Exs} {n : Nat} {B : String} (hc : X.calm = true) (hf : f.val = .type B) (hg : Gl X x) (hm : X.mg x = none) (hv : bootBuiltins x = some (.type B)) (hn : x ≠ "__name__") (hdb : (x == ("__debug__" : Str)) = false)
    (ja : JAn X (e :: es) n (wA C xs)) (he : starEach (e :: es) X.env = (false, eval e X.env) :: starEach es X.env) (hpl : (backTo pos (starEach es X.env)).any (·.1) = false) : JE X (.Call (.Name x p) (e :: es) [] pos) (wE C (.bi f xs)) :=
  PE.imp (pe_callTy (r := rJF X (opF f)) (by rw [← hf]; exact opF_ok hc f) hg hm hv ja hn hdb he hpl) fun σ H Q' ⟨env, h, Q, E, tk, sm, rv, q, k⟩ =>
    ⟨env, h, _, E, tk, sm, rv, q, fun us H1 hl ⟨vs, h1, g1, s1, r1, q1⟩ => ⟨vs, h1, Q, s1, r1, q1, fun u' H' l => k _ _ (LQ.trans g1 l)⟩⟩
theorem passTk {σ : L2.St} {h : Hep} {H : Hp} {E : XQ} (tk : Tk X σ h H E) : PassesAt (L2.CX X.prog X.w) X σ (LX X.K X.mg h H E) := fun pins H0 s e s' I c =>
  tk e s' (XE.of_call I (fun _ _ _ z => ⟨rfl, z⟩) c)
theorem je_call {f : Str} {k : Nat} {p : Pos} {e : Expr} {es : List Expr} {xs : Exs} {n : Nat} (F : FOk X C k f) (hr : Room k X.A) (hg : Gl X f) (hdb : (f == ("__debug__" : Str)) = false) (ja : JAn X (e :: es) n (wA C xs))
    (he : starEach (e :: es) X.env = (false, eval e X.env) :: starEach es X.env) (hpl : (backTo pos (starEach es X.env)).any (·.1) = false) : JE X (.Call (.Name f p) (e :: es) [] pos) (wE C (.call f xs)) := by
  obtain ⟨a, fd, ps, hm, hk, hF, hb⟩ := F
  refine PE.of _ _ fun pins s σ H env h Q E Q' I tk sm rv q k => ?_
  refine wpAny_Call_Name_kw (ld_glob I hg hm ?_ hdb)
  refine PySem.W.callWith_K (h₀ := X.base) I.ok.mod.kin hk (thn (ja.run pos pins s σ H (fun us H' => us.length = n ∧ LA X.K h H _ us H') I ⟨env, h, _, E, tk, sm, rv, q, fun us H' hl z => ⟨hl, z⟩⟩) fun us s1 hh => ?_) he hpl
  obtain ⟨vs, H1, I1, r, hl, ws, h1, g1, s1', r1, q1⟩ := hh
  refine ⟨I1.kIn, ?_⟩
  refine run_fnSD (dvs := []) (ds := []) (E := fun _ => LX X.K X.mg h1 H1 E) hF hr hb .nil (passTk (tk.go g1)) I1 r ?_
  rw [List.append_nil]
  exact ⟨ws, h1, Q, E, s1', r1, q1, fun u' H' l => k _ _ (LQ.trans g1 l), fun _ _ _ z => z⟩
theorem je_call0 {f : Str} {k : Nat} {p : Pos} (F : FOk X C k f) (hr : Room k X.A) (hg : Gl X f) (hdb : (f == ("__debug__" : Str)) = false) : JE X (.Call (.Name f p) [] [] pos) (wE C (.call f .nil)) := by
  obtain ⟨a, fd, ps, hm, hk, hF, hb⟩ := F
  refine PE.of _ _ fun pins s σ H env h Q E Q' I tk sm rv q k => ?_
  refine wpAny_Call_Name_kw (ld_glob I hg hm ?_ hdb)
  refine PySem.W.callWith_K0 I.kIn hk (run_fnSD (us := []) (vs := []) (dvs := []) (ds := []) (E := fun _ => LX X.K X.mg h H E) hF hr hb .nil (passTk tk) I .nil ?_)
  exact ⟨[], h, Q, E, sm, rfl, q, k, fun _ _ _ z => z⟩

/-! ### calls by keywords alone -/
structure KC where
  f : Str
  ks : List Str
  perm : List Nat
  deriving DecidableEq
def FKOk' (P : Program) (w : World) (K : PySem.W.Frag) (mg : Str → Option Value) (base : Heap) (C : CalT) (k : Nat) (q : KC) : Prop :=
  ∃ a fd ps, mg q.f = some (.ref a) ∧ PySem.W.keepIn K (.ref a) = true ∧ FnOk P w K mg base (CX P w) k a fd ps (spC K mg C q.f) ∧ KBn K fd ps 0 q.ks (fun us ws => permL q.perm (us ++ ws)) (fun vs zs => permL q.perm (vs ++ zs))
abbrev FKOk (X : Cx) (C : CalT) (k : Nat) (q : KC) : Prop := FKOk' X.prog X.w X.K X.mg X.base C k q
theorem permL_rel {K : PySem.W.Frag} {H : Hp} {vs : List Val} {us : List V} (r : RVs K H vs us) : ∀ p : List Nat, RVs K H (permL p vs) (permL p us)
  | [] => RVs.nil
  | i :: p => by
    unfold permL
    rw [List.filterMap_cons, List.filterMap_cons]
    have ih := permL_rel r p
    cases z : vs[i]? with
    | none =>
      have z2 : us[i]? = none := by
        rw [List.getElem?_eq_none_iff] at z ⊢
        rw [r.length]; exact z
      rw [z2]
      exact ih
    | some v =>
      obtain ⟨u, h1, h2⟩ := r.get z
      rw [h1]
      exact RVs.cons h2 ih
theorem permL_vals {vs : List V} {us : List Value} (r : Vals vs us) : ∀ p : List Nat, Vals (permL p vs) (permL p us)
  | [] => .nil
  | i :: p => by
    unfold permL
    rw [List.filterMap_cons, List.filterMap_cons]
    have ih := permL_vals r p
    cases z : vs[i]? with
    | none =>
      rw [r.none_of z]
      exact ih
    | some v =>
      obtain ⟨u, h1, h2⟩ := r.get z
      rw [h1]
      exact .cons h2 ih
def JKn (X : Cx) (kws : List Keyword) (n : Nat) (w : WA) : Prop := PK X kws fun σ H Q' => ∃ env h Q E, Tk X σ h H E ∧ Sim X.K h H ∧ RVo X.K H env σ ∧ w env h Q E ∧ ∀ us H', us.length = n → LA X.K h H Q us H' → Q' us H'
theorem PK.imp {X : Cx} {e : List Keyword} {t t' : TA} (p : PK X e t) (h : ∀ σ H Q, t' σ H Q → t σ H Q) : PK X e t' := ⟨fun po pins s σ H Q I q => p.run po pins s σ H Q I (h _ _ _ q)⟩
theorem jk_nil : JKn X [] 0 (wA C .nil) := PK.imp pk_nil fun σ H Q' ⟨env, h, Q, E, tk, sm, rv, q, k⟩ => k [] H rfl ⟨[], h, Go.refl _ _, sm, rfl, q⟩
theorem jk_cons {nm : Option Str} {kp : Pos} {e : Expr} {es : List Keyword} {x : Ex} {xs : Exs} {n : Nat} (ja : JE X e (wE C x)) (jr : JKn X es n (wA C xs)) : JKn X (⟨nm, e, kp⟩ :: es) (n + 1) (wA C (.cons x xs)) :=
  PK.imp (pk_cons ja jr) fun σ H Q' ⟨env, h, Q, E, tk, sm, rv, q, k⟩ =>
    ⟨env, h, _, E, tk, sm, rv, q, fun u H1 ⟨v, h1, g1, s1, r1, q1⟩ => ⟨env, h1, _, E, tk.go g1, s1, rv.go sm g1, q1, fun us H2 hl ⟨vs, h2, g2, s2, r2, q2⟩ =>
      k _ _ (by rw [List.length_cons, hl]) ⟨v :: vs, h2, g1.trans g2, s2, RVs.cons (RV.go s1 g2 r1) r2, q2⟩⟩⟩
theorem je_kall {q : KC} {k : Nat} {p : Pos} {kws : List Keyword} {xs : Exs} (F : FKOk X C k q) (hr : Room k X.A) (hg : Gl X q.f) (hdb : (q.f == ("__debug__" : Str)) = false) (ja : JKn X kws kws.length (wA C xs))
    (hl : kws.length = q.ks.length) (hks : (backToKw pos (keywordEach kws X.env)).filterMap (·.1) = q.ks) (hall : (backToKw pos (keywordEach kws X.env)).all (·.1.isSome) = true) (hpl : (backToKw pos (keywordEach kws X.env)).any (·.1.isNone) = false) : JE X (.Call (.Name q.f p) [] kws pos) (wE C (.kall q.f q.perm xs)) := by
  obtain ⟨a, fd, ps, hm, hk, hF, hb⟩ := F
  refine PE.of _ _ fun pins s σ H env h Q E Q' I tk sm rv qw k => ?_
  refine wpAny_Call_Name_kw (ld_glob I hg hm ?_ hdb)
  refine PySem.W.callWith_KW0 (h₀ := X.base) I.ok.mod.kin hk hall (thn (ja.run pos pins s σ H (fun us H' => us.length = kws.length ∧ LA X.K h H _ us H') I ⟨env, h, _, E, tk, sm, rv, qw, fun us H' hl z => ⟨hl, z⟩⟩) fun us s1 hh => ?_) (by rw [hpl]; rfl)
  obtain ⟨vs, H1, I1, r, hl1, ws, h1, g1, s1', r1, q1⟩ := hh
  refine ⟨I1.kIn, ?_⟩
  rw [hks]
  have r2 := hb.rel (vs := []) (us := []) .nil r
  refine wpAny_call (codeAny_mono (hF.run X.A X.stack s1 H1 ⟨[], q.ks.zip us⟩ (permL q.perm ([] ++ us)) (permL q.perm ([] ++ vs)) Q' (LX X.K X.mg h1 H1 E) hr I1.env0 (hb.to s1 [] us I1.kIn rfl ((r.length.symm.trans hl1).trans hl)) r2 ⟨permL q.perm ws, h1, Q, E, s1', permL_rel r1 _, q1, fun u' H' l => k _ _ (LQ.trans g1 l), fun _ _ _ z => z⟩) fun r s' hq => ?_)
  cases r with
  | error e => exact passTk (σ := σ) (tk.go g1) pins H1 s1 e s' I1 hq
  | ok fl =>
    cases fl with
    | ret u => exact I1.after hq
    | next => exact False.elim hq
    | brk => exact False.elim hq
    | cont => exact False.elim hq

/-! ### methods, places -/
theorem tyV_lst {K : PySem.W.Frag} {h : Hep} {H : Hp} (sm : Sim K h H) {a : Addr} {xs : List Val} (e : h a = some (.lst xs)) : tyV K "list" (.ref a) H := by
  obtain ⟨us, f, _⟩ := sm.lst e
  exact .inl ⟨rfl, us, SqL.of f⟩
end
end KM
/-! KMG: that what is asked suffices: methods, places, targets, walks, comprehensions. -/
namespace KM
open PySem PySem.Spec PyProof.Rows L2

def isStar : Expr → Bool
  | .Starred _ _ => true
  | _ => false
def plainBase : Expr → Bool
  | .Call .. => false
  | _ => true
def isSlice : Expr → Bool
  | .Slice .. => true
  | _ => false
theorem star_cons {e : Expr} {es : List Expr} {env : PySem.Env} (h : isStar e = false) : starEach (e :: es) env = (false, eval e env) :: starEach es env := by
  cases e <;> first | rfl | cases h
theorem star_any {pos : Pos} {env : PySem.Env} : ∀ {es : List Expr}, es.all (fun e => !isStar e) = true → (backTo pos (starEach es env)).any (·.1) = false
  | [], _ => rfl
  | e :: es, h => by
    rw [List.all_cons, Bool.and_eq_true] at h
    have h1 : isStar e = false := by simpa using h.1
    rw [star_cons h1]
    have ih := star_any (pos := pos) (env := env) h.2
    unfold backTo at ih ⊢
    rw [List.map_cons, List.any_cons]
    exact ih
theorem star_all {pos : Pos} {env : PySem.Env} : ∀ {es : List Expr}, es.all (fun e => !isStar e) = true → (backTo pos (starEach es env)).all (fun x => !x.1) = true
  | [], _ => rfl
  | e :: es, h => by
    rw [List.all_cons, Bool.and_eq_true] at h
    have h1 : isStar e = false := by simpa using h.1
    rw [star_cons h1]
    have ih := star_all (pos := pos) (env := env) h.2
    unfold backTo at ih ⊢
    rw [List.map_cons, List.all_cons]
    exact ih
theorem base_plain {o : Expr} {name : Str} {env : PySem.Env} {w : Sem Value} (h : plainBase o = true) : attributeBase o name env w = w := by
  cases o <;> first | rfl | cases h
theorem ix_plain {b : Expr} (h : isSlice b = false) : PlainIx b := by
  intro o i
  cases b <;> first | rfl | cases h
section
variable {X : Cx} {C : CalT} {pos : Pos}
/-! ### methods -/
theorem mt_facts (m : Mt) : ∃ n : Str, Slot "list" n m.id ∧ typeOf (.builtin m.id) = pure (.type "method_descriptor") ∧ n = (match m with | .append => "append" | .pop => "pop" | .extend => "extend") := by
  cases m with
  | append => exact ⟨_, PySem.F.slot_list_append, PySem.F.type_list_append, rfl⟩
  | pop => exact ⟨_, PySem.F.slot_list_pop, PySem.F.type_list_pop, rfl⟩
  | extend => exact ⟨_, PySem.F.slot_list_extend, PySem.F.type_list_extend, rfl⟩
def Mt.name : Mt → Str
  | .append => "append"
  | .pop => "pop"
  | .extend => "extend"
theorem mt_slot (m : Mt) : Slot "list" m.name m.id := by
  cases m with
  | append => exact PySem.F.slot_list_append
  | pop => exact PySem.F.slot_list_pop
  | extend => exact PySem.F.slot_list_extend
theorem mt_type (m : Mt) : typeOf (.builtin m.id) = pure (.type "method_descriptor") := by
  cases m with
  | append => exact PySem.F.type_list_append
  | pop => exact PySem.F.type_list_pop
  | extend => exact PySem.F.type_list_extend
theorem mtOk_ty {m : Mt} {x : Val} {u : V} {h : Hep} {K : PySem.W.Frag} {H : Hp} (sm : Sim K h H) (r : RV K H x u) (o : mtOk m x h) : tyV K "list" u H := by
  unfold mtOk at o
  split at o
  · cases r
    obtain ⟨xs, e, _⟩ := onL_elim o
    exact tyV_lst sm e
  · exact o.elim
theorem je_mth0 {m : Mt} {o : Expr} {x : Ex} {apos : Pos} (jo : JE X o (wE C x)) (hb : plainBase o = true) (hl : (apos.endLine == pos.line) = true) : JE X (.Call (.Attribute o m.name apos) [] [] pos) (wE C (.mth m x .nil)) :=
  PE.imp (pe_bm0 PySem.F.plainAttrs_list (mt_slot m) (mt_type m) (opM_ok m) jo (base_plain hb) hl) fun σ H Q' ⟨env, h, Q, E, tk, sm, rv, q, k⟩ =>
    ⟨env, h, _, E, tk, sm, rv, q, fun u H1 ⟨v, h1, g1, s1, r1, q0, q1⟩ => ⟨mtOk_ty s1 r1 q0, v, [], h1, Q, s1, r1, rfl, q1, fun u' H' l => k _ _ (LQ.trans g1 l)⟩⟩
theorem je_mth {m : Mt} {o e : Expr} {es : List Expr} {x : Ex} {xs : Exs} {n : Nat} {apos : Pos} (jo : JE X o (wE C x)) (ja : JAn X (e :: es) n (wA C xs)) (hb : plainBase o = true) (hl : (apos.endLine == pos.line) = true)
    (hs : (e :: es).all (fun e => !isStar e) = true) (hn : (e :: es).length < 30) : JE X (.Call (.Attribute o m.name apos) (e :: es) [] pos) (wE C (.mth m x xs)) := by
  have h2 : isStar e = false ∧ es.all (fun e => !isStar e) = true := by
    rw [List.all_cons, Bool.and_eq_true] at hs
    exact ⟨by simpa using hs.1, hs.2⟩
  refine PE.imp (pe_bm PySem.F.plainAttrs_list (mt_slot m) (mt_type m) (opM_ok m) jo ja (base_plain hb) ?_ hl (star_cons h2.1) (star_any h2.2)) fun σ H Q' ⟨env, h, Q, E, tk, sm, rv, q, k⟩ =>
    ⟨env, h, _, E, tk, sm, rv, q, fun u H1 ⟨v, h1, g1, s1, r1, q0, q1⟩ => ⟨mtOk_ty s1 r1 q0, env, h1, _, E, tk.go g1, s1, rv.go sm g1, q1, fun us H2 hl ⟨vs, h2, g2, s2, r2, q2⟩ =>
      ⟨v, vs, h2, Q, s2, RV.go s1 g2 r1, r2, q2, fun u' H' l => k _ _ (LQ.trans g1 (LQ.trans g2 l))⟩⟩⟩
  rw [star_all hs]
  simp only [keywordEach, backToKw, List.map_nil, List.all_nil, Bool.true_and, List.length_nil, List.isEmpty_nil, if_true, Nat.add_zero]
  exact decide_eq_true hn

/-! ### subscripts, slices -/
theorem je_ix {a b : Expr} {x y : Ex} (ja : JE X a (wE C x)) (jb : JE X b (wE C y)) (hb : isSlice b = false) : JE X (.Subscript a b pos) (wE C (.ix x y)) :=
  PE.imp (pe_ix (pos := pos) opIx_ok ja jb (ix_plain hb)) fun σ H Q' ⟨env, h, Q, E, tk, sm, rv, q, k⟩ =>
    ⟨env, h, _, E, tk, sm, rv, q, fun u H1 ⟨v, h1, g1, s1, r1, q1⟩ => ⟨env, h1, _, E, tk.go g1, s1, rv.go sm g1, q1, fun u2 H2 ⟨v2, h2, g2, s2, r2, q2⟩ =>
      ⟨v, v2, h2, _, s2, RV.go s1 g2 r1, r2, q2, fun w z r l => k _ _ (LQ.trans g1 (LQ.trans g2 (LQ.here s2 r l)))⟩⟩⟩
def JO (X : Cx) (e : Option Expr) (w : Env → Hep → (Option Int → Hep → Prop) → XQ → Prop) : Prop := PO X e fun σ H Q' => ∃ env h Q E, Tk X σ h H E ∧ Sim X.K h H ∧ RVo X.K H env σ ∧ w env h Q E ∧ ∀ i h' H', Go h H h' H' → Sim X.K h' H' → Q i h' → Q' i H'
theorem PO.imp {e : Option Expr} {t t' : TO} (p : PO X e t) (h : ∀ σ H Q, t' σ H Q → t σ H Q) : PO X e t' := ⟨fun pins s σ H Q I q => p.run pins s σ H Q I (h _ _ _ q)⟩
theorem jo_none : JO X none (wO C .nil) := PO.imp po_none fun σ H Q' ⟨env, h, Q, E, tk, sm, rv, q, k⟩ => k _ _ _ (Go.refl _ _) sm q
theorem jo_some {e : Expr} {x : Ex} {r : Exs} (je : JE X e (wE C x)) : JO X (some e) (wO C (.cons x r)) := PO.imp (po_some je) fun σ H Q' ⟨env, h, Q, E, tk, sm, rv, q, k⟩ =>
  ⟨env, h, _, E, tk, sm, rv, q, fun u H1 ⟨v, h1, g1, s1, r1, q1⟩ => by
    obtain ⟨i, rfl, q1⟩ := onInt_elim q1
    cases r1
    exact ⟨i, rfl, k _ _ _ g1 s1 q1⟩⟩
theorem je_sl {e : Expr} {lo hi : Option Expr} {x : Ex} {l u : Exs} {p2 : Pos} (je : JE X e (wE C x)) (jl : JO X lo (wO C l)) (ju : JO X hi (wO C u)) : JE X (.Subscript e (.Slice lo hi none p2) pos) (wE C (.sl x l u)) :=
  PE.imp (pe_slice (pos := pos) (p2 := p2) opSl_ok je jl ju) fun σ H Q' ⟨env, h, Q, E, tk, sm, rv, q, k⟩ =>
    ⟨env, h, _, E, tk, sm, rv, q, fun u H1 ⟨v, h1, g1, s1, r1, q1⟩ => ⟨env, h1, _, E, tk.go g1, s1, rv.go sm g1, q1, fun i h2 H2 g2 s2 q2 =>
      ⟨env, h2, _, E, (tk.go g1).go g2, s2, (rv.go sm g1).go s1 g2, q2, fun j h3 H3 g3 s3 q3 => ⟨v, h3, Q, s3, RV.go s2 g3 (RV.go s1 g2 r1), q3, fun u' H' l => k _ _ (LQ.trans g1 (LQ.trans g2 (LQ.trans g3 l)))⟩⟩⟩⟩
theorem je_rev {e : Expr} {x : Ex} {n : Nat} {p1 p2 p3 : Pos} (je : JE X e (wE C x)) : JE X (.Subscript e (.Slice none none (some (.UnaryOp .USub (.Constant (.int 1) n p1) p2)) p3) pos) (wE C (.rev x)) :=
  PE.imp (pe_revL (pos := pos) (p1 := p1) (p2 := p2) (p3 := p3) (k := n) je) fun σ H Q' ⟨env, h, Q, E, tk, sm, rv, q, k⟩ =>
    ⟨env, h, _, E, tk, sm, rv, q, fun u H1 ⟨v, h1, g1, s1, r1, q1⟩ => by
      cases v with
      | ref a =>
        cases r1
        obtain ⟨xs, e, q1⟩ := onL_elim q1
        obtain ⟨us, f, t⟩ := s1.lst e
        exact ⟨_, us, rfl, SqL.of f, fun p np => k _ _ (LQ.trans g1 (LQ.newL s1 t.rev q1 np))⟩
      | _ => exact q1.elim⟩

/-! ### targets -/
theorem onO_elim {α : Type} {o : Option α} {P : α → Prop} (x : onO o P) : ∃ a, o = some a ∧ P a := by
  cases o with
  | some a => exact ⟨a, rfl, x⟩
  | none => exact x.elim
def Tg.slots : Tg → List Nat
  | .nm i => [i]
  | .tn => []
  | .tc a b => a.slots ++ b.slots
/-- only these slots are stored to -/
def Sto (is : List Nat) (σ σ' : L2.St) : Prop := σ'.length = σ.length ∧ ∀ i, i ∉ is → σ'[i]? = σ[i]?
theorem Sto.refl (σ : L2.St) : Sto [] σ σ := ⟨rfl, fun _ _ => rfl⟩
theorem Sto.trans {is js : List Nat} {σ σ' σ'' : L2.St} (a : Sto is σ σ') (b : Sto js σ' σ'') : Sto (is ++ js) σ σ'' := ⟨b.1.trans a.1, fun i h => by
  rw [List.mem_append, not_or] at h
  exact (b.2 i h.2).trans (a.2 i h.1)⟩
def JG (X : Cx) (e : Expr) (t : Tg) : Prop := PG X e fun u σ H Q' => ∃ v env env' h, Sim X.K h H ∧ RV X.K H v u ∧ RVo X.K H env σ ∧ bindT t v env = some env' ∧ ∀ σ', Sto t.slots σ σ' → RVo X.K H env' σ' → Q' σ' H
def JGs (X : Cx) (es : List Expr) (t : Tg) : Prop := PGs X es fun us σ H Q' => ∃ vs env env' h, Sim X.K h H ∧ RVs X.K H vs us ∧ RVo X.K H env σ ∧ bindTs t vs env = some env' ∧ ∀ σ', Sto t.slots σ σ' → RVo X.K H env' σ' → Q' σ' H
theorem PG.imp {e : Expr} {t t' : TG} (p : PG X e t) (h : ∀ v σ H Q, t' v σ H Q → t v σ H Q) : PG X e t' := ⟨fun pins s σ H v u Q I r q => p.run pins s σ H v u Q I r (h _ _ _ _ q)⟩
theorem PGs.imp {e : List Expr} {t t' : TGs} (p : PGs X e t) (h : ∀ v σ H Q, t' v σ H Q → t v σ H Q) : PGs X e t' := ⟨fun pins s σ H v u Q I r q => p.run pins s σ H v u Q I r (h _ _ _ _ q)⟩
theorem jg_name {i : Nat} {x : Str} (hN : X.N.Nodup) (hi : X.N[i]? = some x) (hx : Loc X.env.scope x) (hf : X.fn x = true ∨ X.env.scope.names.lookup x = some .local) : JG X (.Name x pos) (.nm i) :=
  PG.imp (pg_name (pos := pos) hN hi hx hf) fun u σ H Q' ⟨v, env, env', h, sm, r, rv, b, k⟩ => by
    cases b
    refine k _ ⟨by rw [List.length_set], fun j hj => ?_⟩ (rv.set r i)
    have hj : i ≠ j := fun z => hj (by rw [z]; exact List.mem_singleton.mpr rfl)
    rw [List.getElem?_set_ne hj]
theorem endT_elim {vs : List Val} {env env' : Env} (b : endT vs env = some env') : vs = [] ∧ env = env' := by
  cases vs with
  | nil => cases b; exact ⟨rfl, rfl⟩
  | cons _ _ => cases b
theorem conT_elim {a : Val → Env → Option Env} {t : List Val → Env → Option Env} {vs : List Val} {env env' : Env} (b : conT a t vs env = some env') : ∃ x xs env1, vs = x :: xs ∧ a x env = some env1 ∧ t xs env1 = some env' := by
  cases vs with
  | nil => cases b
  | cons x xs =>
    unfold conT at b
    split at b
    · rename_i h
      cases h
      split at b
      · exact ⟨_, _, _, rfl, by assumption, b⟩
      · cases b
    · cases b
theorem tupT_elim {t : List Val → Env → Option Env} {v : Val} {env env' : Env} (b : tupT t v env = some env') : ∃ vs, v = .tup vs ∧ t vs env = some env' := by
  cases v <;> first
    | exact ⟨_, rfl, b⟩
    | cases b
theorem jgs_nil : JGs X [] .tn := PGs.imp pgs_nil fun us σ H Q' ⟨vs, env, env', h, sm, r, rv, b, k⟩ => by
  obtain ⟨rfl, rfl⟩ := endT_elim b
  have r : us = [] := r
  subst r
  exact ⟨rfl, k _ (Sto.refl _) rv⟩
theorem jgs_cons {e : Expr} {es : List Expr} {a b : Tg} (h1 : JG X e a) (h2 : JGs X es b) (hs : isStar e = false) : JGs X (e :: es) (.tc a b) :=
  PGs.imp (pgs_cons h1 h2 (by cases e <;> first | rfl | cases hs)) fun us σ H Q' ⟨vs, env, env', h, sm, r, rv, b, k⟩ => by
    obtain ⟨x, xs, env1, rfl, b1, b2⟩ := conT_elim b
    obtain ⟨u, us', rfl, q, t⟩ := r
    exact ⟨u, us', rfl, x, env, env1, h, sm, q, rv, b1, fun σ' z rv' => ⟨xs, env1, env', h, sm, t, rv', b2, fun σ'' z2 rv'' => k _ (z.trans z2) rv''⟩⟩
def Tg.len : Tg → Nat
  | .tc _ b => b.len + 1
  | _ => 0
def Tg.isTup : Tg → Bool
  | .nm _ => false
  | _ => true
theorem bindTs_length : ∀ {t : Tg} {vs : List Val} {env env' : Env}, bindTs t vs env = some env' → vs.length = t.len
  | .tn, vs, env, env', b => by
    obtain ⟨rfl, _⟩ := endT_elim b
    rfl
  | .nm _, _, _, _, b => by cases b
  | .tc a t, vs, env, env', b => by
    obtain ⟨x, xs, env1, rfl, b1, b2⟩ := conT_elim b
    rw [List.length_cons, bindTs_length (t := t) b2]; rfl
theorem bindT_tup {t : Tg} (ht : t.isTup = true) {v : Val} {env env' : Env} (b : bindT t v env = some env') : ∃ vs, v = .tup vs ∧ bindTs t vs env = some env' := by
  cases t with
  | nm i => cases ht
  | tn => exact tupT_elim b
  | tc a t => exact tupT_elim b
theorem each_len {env : PySem.Env} : ∀ (es : List Expr), (assignEach es env).length = es.length
  | [] => rfl
  | e :: es => by
    have ih := each_len (env := env) es
    cases e <;> (simp only [assignEach, List.length_cons]; rw [ih])
theorem each_star {env : PySem.Env} : ∀ {es : List Expr}, es.all (fun e => !isStar e) = true → (assignEach es env).findIdx? (·.1) = none
  | [], _ => rfl
  | e :: es, h => by
    rw [List.all_cons, Bool.and_eq_true] at h
    have ih := each_star (env := env) h.2
    cases e <;> first
      | (simp only [assignEach, List.findIdx?_cons]; rw [ih]; rfl)
      | (exact absurd h.1 (by simp [isStar]))
theorem jg_tup {es : List Expr} {t : Tg} {m : Nat} (hc : X.calm = true) (hs : es.all (fun e => !isStar e) = true) (ht : t.isTup = true) (hl : es.length = t.len) (h : JGs X es t) : JG X (.Tuple es m pos) t :=
  PG.imp (pg_tup (pos := pos) hc h (each_len es) (each_star hs)) fun u σ H Q' ⟨v, env, env', h, sm, r, rv, b, k⟩ => by
    obtain ⟨vs, rfl, b2⟩ := bindT_tup ht b
    obtain ⟨p, us, rfl, t2, q⟩ := r
    exact ⟨p, us, rfl, t2, by rw [q.length, bindTs_length b2, hl], vs, env, env', h, sm, q, rv, b2, k⟩
end
end KM
/-! KMH: that what is asked suffices: walks, comprehensions. -/
namespace KM
open PySem PySem.Spec PyProof.Rows L2

structure Wk (K : PySem.W.Frag) (h0 : Hep) (H0 : Hp) (src : Src) (J : It) : Prop where
  go : ∀ i h H, i < src.vals.length → Go h0 H0 h H → Sim K h H → pinOk h src.pins → J.go i H
  stop : ∀ h H, Go h0 H0 h H → Sim K h H → pinOk h src.pins → J.stop src.vals.length H
  yld : ∀ i h H u H' x, src.vals[i]? = some x → Go h0 H0 h H → Sim K h H → pinOk h src.pins → J.yld i H u H' → Go h H h H' ∧ Sim K h H' ∧ RV K H' x u
theorem pinOk_app {h : Hep} : ∀ {p q : List (Addr × List Val)}, pinOk h (p ++ q) → pinOk h p ∧ pinOk h q
  | [], _, x => ⟨trivial, x⟩
  | _ :: p, q, ⟨a, x⟩ => ⟨⟨a, (pinOk_app x).1⟩, (pinOk_app x).2⟩
section
variable {K : PySem.W.Frag} {h0 : Hep} {H0 : Hp}
theorem src_list (sm : Sim K h0 H0) {v : Val} {u : V} (r : RV K H0 v u) (t : isTupV v = false) {P : Src → Prop} (o : onSrc h0 v P) :
    ∃ p s, u = .ref p ∧ P s ∧ ∀ h H, Go h0 H0 h H → Sim K h H → pinOk h s.pins → ∃ us, SqL K H p us ∧ RVs K H s.vals us := by
  cases v with
  | rom xs =>
    obtain ⟨p, us, rfl, q, r⟩ := r
    exact ⟨p, _, rfl, o, fun h H g s pn => ⟨us, (RomL.go sm g q).sq, RVs.go sm g r⟩⟩
  | ref a =>
    cases r
    obtain ⟨xs, e, o⟩ := onL_elim o
    refine ⟨a, _, rfl, o, fun h H g s pn => ?_⟩
    obtain ⟨us, f, r⟩ := s.lst pn.1
    exact ⟨us, SqL.of f, r⟩
  | tup xs => cases t
  | _ => exact o.elim
theorem src_tup (sm : Sim K h0 H0) {v : Val} {u : V} (r : RV K H0 v u) (t : isTupV v = true) {P : Src → Prop} (o : onSrc h0 v P) :
    ∃ p s, u = .ref p ∧ P s ∧ ∀ h H, Go h0 H0 h H → Sim K h H → pinOk h s.pins → ∃ us, SqT K H p us ∧ RVs K H s.vals us := by
  cases v with
  | tup xs =>
    obtain ⟨p, us, rfl, q, r⟩ := r
    exact ⟨p, _, rfl, o, fun h H g s pn => ⟨us, SqT.go sm g q, RVs.go sm g r⟩⟩
  | _ => cases t
theorem wk_list {p : Addr} {s : Src} (f : ∀ h H, Go h0 H0 h H → Sim K h H → pinOk h s.pins → ∃ us, SqL K H p us ∧ RVs K H s.vals us) : Wk K h0 H0 s (Itl K p) where
  go := fun i h H hi g sm pn => by
    obtain ⟨us, a, r⟩ := f h H g sm pn
    obtain ⟨u, e, _⟩ := r.get (i := i) (List.getElem?_eq_getElem hi)
    exact ⟨us, u, a, e⟩
  stop := fun h H g sm pn => by
    obtain ⟨us, a, r⟩ := f h H g sm pn
    exact ⟨us, a, by rw [r.length]; exact Nat.le_refl _⟩
  yld := fun i h H u H' x e g sm pn y => by
    obtain ⟨rfl, y⟩ := y
    obtain ⟨us, a, r⟩ := f h _ g sm pn
    obtain ⟨w, e2, q⟩ := r.get e
    have e3 := y us a
    rw [e2] at e3
    cases e3
    exact ⟨Go.refl _ _, sm, q⟩
theorem wk_tup {p : Addr} {s : Src} (f : ∀ h H, Go h0 H0 h H → Sim K h H → pinOk h s.pins → ∃ us, SqT K H p us ∧ RVs K H s.vals us) : Wk K h0 H0 s (Itt K p) where
  go := fun i h H hi g sm pn => by
    obtain ⟨us, a, r⟩ := f h H g sm pn
    obtain ⟨u, e, _⟩ := r.get (i := i) (List.getElem?_eq_getElem hi)
    exact ⟨us, u, a, e⟩
  stop := fun h H g sm pn => by
    obtain ⟨us, a, r⟩ := f h H g sm pn
    exact ⟨us, a, by rw [r.length]; exact Nat.le_refl _⟩
  yld := fun i h H u H' x e g sm pn y => by
    obtain ⟨rfl, y⟩ := y
    obtain ⟨us, a, r⟩ := f h _ g sm pn
    obtain ⟨w, e2, q⟩ := r.get e
    have e3 := y us a
    rw [e2] at e3
    cases e3
    exact ⟨Go.refl _ _, sm, q⟩
theorem rngV_length (lo : Int) (n : Nat) : (rngV lo n).length = n := by
  induction n generalizing lo with
  | zero => rfl
  | succ n ih => simp only [rngV, List.length_cons, ih]
theorem rngV_get (lo : Int) (n i : Nat) (x : Val) (e : (rngV lo n)[i]? = some x) : x = .int (lo + i) := by
  induction n generalizing lo i with
  | zero => simp [rngV] at e
  | succ n ih =>
    cases i with
    | zero => simp [rngV] at e; rw [← e]; simp
    | succ i =>
      simp only [rngV, List.getElem?_cons_succ] at e
      rw [ih _ _ e]
      congr 1
      omega
theorem wk_rng {lo : Int} {n : Nat} : Wk K h0 H0 ⟨rngV lo n, []⟩ (Itr lo n) where
  go := fun i h H hi g sm pn => by
    have hi : i < (rngV lo n).length := hi
    rw [rngV_length] at hi
    exact hi
  stop := fun h H g sm pn => by
    show n ≤ (rngV lo n).length
    rw [rngV_length]
    exact Nat.le_refl _
  yld := fun i h H u H' x e g sm pn y => by
    obtain ⟨rfl, rfl⟩ := y
    rw [rngV_get lo n i x e]
    exact ⟨Go.refl _ _, sm, rfl⟩
theorem enumV_length : ∀ (n : Nat) (xs : List Val), (enumV n xs).length = xs.length
  | _, [] => rfl
  | n, x :: xs => by simp only [enumV, List.length_cons, enumV_length]
theorem enumV_get : ∀ (n : Nat) (xs : List Val) (i : Nat) (x : Val), (enumV n xs)[i]? = some x → ∃ y, xs[i]? = some y ∧ x = .tup [.int ((n + i : Nat) : Int), y]
  | _, [], _, _, e => by simp [enumV] at e
  | n, y :: ys, 0, x, e => by
    simp [enumV] at e
    exact ⟨y, rfl, by rw [← e]; simp⟩
  | n, y :: ys, i + 1, x, e => by
    simp only [enumV, List.getElem?_cons_succ] at e
    obtain ⟨z, h1, h2⟩ := enumV_get (n + 1) ys i x e
    exact ⟨z, by simpa using h1, by rw [h2, show n + 1 + i = n + (i + 1) by omega]⟩
theorem new_tup {h : Hep} {H : Hp} (sm : Sim K h H) {T : Addr} {xs : List Val} {us : List V} (n : H T = none) (r : RVs K H xs us) : Go h H h (upd H T (.tup us)) ∧ Sim K h (upd H T (.tup us)) ∧ RV K (upd H T (.tup us)) (.tup xs) (.ref T) :=
  ⟨go_hid n, sm.hid n, RV.tupN sm n r⟩
theorem wk_enum {p : Addr} {s : Src} (f : ∀ h H, Go h0 H0 h H → Sim K h H → pinOk h s.pins → ∃ us, SqL K H p us ∧ RVs K H s.vals us) : Wk K h0 H0 ⟨enumV 0 s.vals, s.pins⟩ (Ite K p) where
  go := fun i h H hi g sm pn => by
    obtain ⟨us, a, r⟩ := f h H g sm pn
    have hi : i < (enumV 0 s.vals).length := hi
    rw [enumV_length] at hi
    obtain ⟨u, e, _⟩ := r.get (i := i) (List.getElem?_eq_getElem hi)
    exact ⟨us, u, a, e⟩
  stop := fun h H g sm pn => by
    obtain ⟨us, a, r⟩ := f h H g sm pn
    exact ⟨us, a, by show us.length ≤ (enumV 0 s.vals).length; rw [r.length, enumV_length]; exact Nat.le_refl _⟩
  yld := fun i h H u H' x e g sm pn y => by
    obtain ⟨T, w, rfl, nT, rfl, y⟩ := y
    obtain ⟨us, a, r⟩ := f h _ g sm pn
    obtain ⟨z, e1, rfl⟩ := enumV_get _ _ _ _ e
    obtain ⟨w', e2, q⟩ := r.get e1
    have e3 := y us a
    rw [e2] at e3
    cases e3
    refine new_tup sm nT (RVs.cons ?_ (RVs.cons q RVs.nil))
    rw [Nat.zero_add]
    exact rfl
theorem zipV_length : ∀ (xs ys : List Val), (zipV xs ys).length = min xs.length ys.length
  | [], ys => by simp [zipV]
  | _ :: _, [] => by simp [zipV]
  | x :: xs, y :: ys => by simp only [zipV, List.length_cons, zipV_length]; omega
theorem zipV_get : ∀ (xs ys : List Val) (i : Nat) (x : Val), (zipV xs ys)[i]? = some x → ∃ a b, xs[i]? = some a ∧ ys[i]? = some b ∧ x = .tup [a, b]
  | [], ys, _, _, e => by simp [zipV] at e
  | _ :: _, [], _, _, e => by simp [zipV] at e
  | a :: xs, b :: ys, 0, x, e => by
    simp [zipV] at e
    exact ⟨a, b, rfl, rfl, e.symm⟩
  | a :: xs, b :: ys, i + 1, x, e => by
    simp only [zipV, List.getElem?_cons_succ] at e
    obtain ⟨c, d, h1, h2, h3⟩ := zipV_get xs ys i x e
    exact ⟨c, d, by simpa using h1, by simpa using h2, h3⟩
theorem wk_zipL {p q : Addr} {s t : Src} (f : ∀ h H, Go h0 H0 h H → Sim K h H → pinOk h s.pins → ∃ us, SqL K H p us ∧ RVs K H s.vals us) (f2 : ∀ h H, Go h0 H0 h H → Sim K h H → pinOk h t.pins → ∃ us, SqL K H q us ∧ RVs K H t.vals us) :
    Wk K h0 H0 ⟨zipV s.vals t.vals, s.pins ++ t.pins⟩ (Itz K p q) where
  go := fun i h H hi g sm pn => by
    obtain ⟨pn1, pn2⟩ := pinOk_app pn
    obtain ⟨us, a, r⟩ := f h H g sm pn1
    obtain ⟨us2, a2, r2⟩ := f2 h H g sm pn2
    have hi : i < (zipV s.vals t.vals).length := hi
    rw [zipV_length] at hi
    obtain ⟨u, e, _⟩ := r.get (i := i) (List.getElem?_eq_getElem (by omega))
    obtain ⟨u2, e2, _⟩ := r2.get (i := i) (List.getElem?_eq_getElem (by omega))
    exact ⟨us, us2, u, u2, a, a2, e, e2⟩
  stop := fun h H g sm pn => by
    obtain ⟨pn1, pn2⟩ := pinOk_app pn
    obtain ⟨us, a, r⟩ := f h H g sm pn1
    obtain ⟨us2, a2, r2⟩ := f2 h H g sm pn2
    refine ⟨us, us2, a, a2, ?_⟩
    show us.length ≤ (zipV s.vals t.vals).length ∨ us2.length ≤ (zipV s.vals t.vals).length
    rw [r.length, r2.length, zipV_length]
    omega
  yld := fun i h H u H' x e g sm pn y => by
    obtain ⟨pn1, pn2⟩ := pinOk_app pn
    obtain ⟨T, w, w2, rfl, nT, rfl, y, y2⟩ := y
    obtain ⟨us, a, r⟩ := f h _ g sm pn1
    obtain ⟨us2, a2, r2⟩ := f2 h _ g sm pn2
    obtain ⟨z, z2, e1, e2, rfl⟩ := zipV_get _ _ _ _ e
    obtain ⟨v, e3, q3⟩ := r.get e1
    obtain ⟨v2, e4, q4⟩ := r2.get e2
    have e5 := y us a
    have e6 := y2 us2 a2
    rw [e3] at e5
    rw [e4] at e6
    cases e5
    cases e6
    exact new_tup sm nT (RVs.cons q3 (RVs.cons q4 RVs.nil))
theorem wk_zipT {p q : Addr} {s t : Src} (f : ∀ h H, Go h0 H0 h H → Sim K h H → pinOk h s.pins → ∃ us, SqT K H p us ∧ RVs K H s.vals us) (f2 : ∀ h H, Go h0 H0 h H → Sim K h H → pinOk h t.pins → ∃ us, SqT K H q us ∧ RVs K H t.vals us) :
    Wk K h0 H0 ⟨zipV s.vals t.vals, s.pins ++ t.pins⟩ (RZ.ItzT K p q) where
  go := fun i h H hi g sm pn => by
    obtain ⟨pn1, pn2⟩ := pinOk_app pn
    obtain ⟨us, a, r⟩ := f h H g sm pn1
    obtain ⟨us2, a2, r2⟩ := f2 h H g sm pn2
    have hi : i < (zipV s.vals t.vals).length := hi
    rw [zipV_length] at hi
    obtain ⟨u, e, _⟩ := r.get (i := i) (List.getElem?_eq_getElem (by omega))
    obtain ⟨u2, e2, _⟩ := r2.get (i := i) (List.getElem?_eq_getElem (by omega))
    exact ⟨us, us2, u, u2, a, a2, e, e2⟩
  stop := fun h H g sm pn => by
    obtain ⟨pn1, pn2⟩ := pinOk_app pn
    obtain ⟨us, a, r⟩ := f h H g sm pn1
    obtain ⟨us2, a2, r2⟩ := f2 h H g sm pn2
    refine ⟨us, us2, a, a2, ?_⟩
    show us.length ≤ (zipV s.vals t.vals).length ∨ us2.length ≤ (zipV s.vals t.vals).length
    rw [r.length, r2.length, zipV_length]
    omega
  yld := fun i h H u H' x e g sm pn y => by
    obtain ⟨pn1, pn2⟩ := pinOk_app pn
    obtain ⟨T, w, w2, rfl, nT, rfl, y, y2⟩ := y
    obtain ⟨us, a, r⟩ := f h _ g sm pn1
    obtain ⟨us2, a2, r2⟩ := f2 h _ g sm pn2
    obtain ⟨z, z2, e1, e2, rfl⟩ := zipV_get _ _ _ _ e
    obtain ⟨v, e3, q3⟩ := r.get e1
    obtain ⟨v2, e4, q4⟩ := r2.get e2
    have e5 := y us a
    have e6 := y2 us2 a2
    rw [e3] at e5
    rw [e4] at e6
    cases e5
    cases e6
    exact new_tup sm nT (RVs.cons q3 (RVs.cons q4 RVs.nil))
end
section
variable {X : Cx} {C : CalT} {tg : Expr} {pos : Pos}
abbrev WIr := Env → Hep → (Src → Hep → Prop) → XQ → Prop
def JI (X : Cx) (tg it : Expr) (w : WIr) : Prop := PI X tg it fun σ H R => ∃ env h Q E, Tk X σ h H E ∧ Sim X.K h H ∧ RVo X.K H env σ ∧ w env h Q E ∧
  ∀ src J h1 H1, Go h H h1 H1 → Sim X.K h1 H1 → Wk X.K h1 H1 src J → Q src h1 → R J H1
theorem PI.imp {e : Expr} {t t' : TI} (p : PI X tg e t) (h : ∀ σ H R, t' σ H R → t σ H R) : PI X tg e t' := ⟨fun pins s σ H R I q => p.run pins s σ H R I (h _ _ _ q)⟩
theorem PI.or {e : Expr} {t t' : TI} (p : PI X tg e t) (p' : PI X tg e t') : PI X tg e fun σ H R => t σ H R ∨ t' σ H R := ⟨fun pins s σ H R I q => q.elim (p.run pins s σ H R I) (p'.run pins s σ H R I)⟩
/-- a list or a tuple, walked: which it is shows when it is there -/
def iSeq (K : PySem.W.Frag) (tl : TE) : TI := fun σ H R => tl σ H fun x H1 => ∃ a, x = .ref a ∧ (((∃ xs, SqL K H1 a xs) ∧ R (Itl K a) H1) ∨ ((∃ xs, SqT K H1 a xs) ∧ R (Itt K a) H1))
theorem pi_seq {l : Expr} {tl : TE} (hl : PE X l tl) : PI X tg l (iSeq X.K tl) := by
  refine ⟨fun pins s σ H R I h => ?_⟩
  refine thn (hl.run pins s σ H _ I h) fun v s1 ⟨x, H1, I1, r1, a, e, q1⟩ => ?_
  subst e
  cases r1
  rcases q1 with ⟨⟨xs, hq⟩, q⟩ | ⟨⟨xs, hq⟩, q⟩
  · obtain ⟨its, rv, p, hz⟩ := I1.list hq
    refine wpAny_pyIter_list p.isList ?_
    refine ⟨s1.heap.objs.size, [s1.heap.objs.size], _, _, H1, rfl, I1.kept (t' := s1.toks) fun b o e => Heap.get?_push_of_some _ e, turn_list a _, ⟨_, Heap.get?_push_size _ rfl, rfl, rfl⟩, fun b hb => ?_, q⟩
    have e : b = s1.heap.objs.size := by simpa using hb
    subst e
    exact I1.fpOk (Nat.le_refl _) (I1.hok.fresh (Nat.le_refl _))
  · obtain ⟨its, rv, p, hz⟩ := I1.tuple hq
    refine wpAny_pyIter_tuple (show s1.heap.IsTuple a its.toArray from p) ?_
    refine ⟨s1.heap.objs.size, [s1.heap.objs.size], _, _, H1, rfl, I1.kept (t' := s1.toks) fun b o e => Heap.get?_push_of_some _ e, turn_tuple a _, ⟨_, Heap.get?_push_size _ rfl, rfl, rfl⟩, fun b hb => ?_, q⟩
    have e : b = s1.heap.objs.size := by simpa using hb
    subst e
    exact I1.fpOk (Nat.le_refl _) (I1.hok.fresh (Nat.le_refl _))
theorem pinsOf {h : Hep} {v : Val} {P : Src → Prop} (o : onSrc h v P) : ∃ s, P s ∧ pinOk h s.pins := by
  cases v with
  | tup xs => exact ⟨_, o, trivial⟩
  | rom xs => exact ⟨_, o, trivial⟩
  | ref a =>
    obtain ⟨xs, e, o⟩ := onL_elim o
    exact ⟨_, o, e, trivial⟩
  | _ => exact o.elim
theorem onSrc_pins {h : Hep} {v : Val} {P : Src → Prop} (o : onSrc h v P) : onSrc h v fun s => P s ∧ pinOk h s.pins := by
  cases v with
  | tup xs => exact ⟨o, trivial⟩
  | rom xs => exact ⟨o, trivial⟩
  | ref a =>
    obtain ⟨xs, e, o⟩ := onL_elim o
    show onL h a _
    rw [onL_of e]
    exact ⟨o, e, trivial⟩
  | _ => exact o.elim
theorem ji_seq {l : Expr} {x : Ex} (jl : JE X l (wE C x)) : JI X tg l (wI C (.seq x)) :=
  PI.imp (pi_seq jl) fun σ H R ⟨env, h, Q, E, tk, sm, rv, q, k⟩ =>
    ⟨env, h, _, E, tk, sm, rv, q, fun u H1 ⟨v, h1, g1, s1, r1, q1⟩ => by
      have q1 := onSrc_pins q1
      cases t : isTupV v with
      | false =>
        obtain ⟨p, s, rfl, ⟨q2, pn⟩, f⟩ := src_list s1 r1 t q1
        obtain ⟨us, a, r⟩ := f h1 H1 (Go.refl _ _) s1 pn
        exact ⟨p, rfl, .inl ⟨⟨us, a⟩, k _ _ _ _ g1 s1 (wk_list f) q2⟩⟩
      | true =>
        obtain ⟨p, s, rfl, ⟨q2, pn⟩, f⟩ := src_tup s1 r1 t q1
        obtain ⟨us, a, r⟩ := f h1 H1 (Go.refl _ _) s1 pn
        exact ⟨p, rfl, .inr ⟨⟨us, a⟩, k _ _ _ _ g1 s1 (wk_tup f) q2⟩⟩⟩
theorem ja1 {e : Expr} {x : Ex} (j : JE X e (wE C x)) (hs : isStar e = false) : JAn X [e] 1 (wA C (.cons x .nil)) := ja_cons j ja_nil (star_cons hs)
theorem ja2 {e e2 : Expr} {x y : Ex} (j : JE X e (wE C x)) (j2 : JE X e2 (wE C y)) (hs : isStar e = false) (hs2 : isStar e2 = false) : JAn X [e, e2] 2 (wA C (.cons x (.cons y .nil))) := ja_cons j (ja1 j2 hs2) (star_cons hs)
theorem ji_rng1 {e : Expr} {x : Ex} {p : Pos} (hg : Gl X "range") (hm : X.mg "range" = none) (j : JE X e (wE C x)) (hs : isStar e = false) : JI X tg (.Call (.Name "range" p) [e] [] pos) (wI C (.rng1 x)) :=
  PI.imp (pi_range1 (pos := pos) (p := p) hg hm (ja1 j hs) (star_cons hs)) fun σ H R ⟨env, h, Q, E, tk, sm, rv, q, k⟩ =>
    ⟨env, h, fun vs h1 => onInt (vs.headD .non) fun i => smI i ∧ Q ⟨rngV 0 i.toNat, []⟩ h1, E, tk, sm, rv, q, fun us H1 hl ⟨vs, h1, g1, s1, r1, q1⟩ => by
      have l := r1.length
      rw [hl] at l
      match vs, l with
      | [v], _ =>
        obtain ⟨u, rfl, r⟩ := RVs.one r1
        obtain ⟨i, rfl, ⟨a, b⟩, q2⟩ := onInt_elim q1
        cases r
        exact ⟨i, rfl, a, b, k _ _ _ _ g1 s1 wk_rng q2⟩⟩
theorem ji_rng2 {e e2 : Expr} {x y : Ex} {p : Pos} (hg : Gl X "range") (hm : X.mg "range" = none) (j : JE X e (wE C x)) (j2 : JE X e2 (wE C y)) (hs : isStar e = false) (hs2 : isStar e2 = false) : JI X tg (.Call (.Name "range" p) [e, e2] [] pos) (wI C (.rng2 x y)) :=
  PI.imp (pi_range2 (pos := pos) (p := p) hg hm (ja2 j j2 hs hs2) (by rw [star_cons hs, star_cons hs2]; rfl) (by rw [star_cons hs2]; rfl)) fun σ H R ⟨env, h, Q, E, tk, sm, rv, q, k⟩ =>
    ⟨env, h, fun vs h1 => onInt (vs.headD .non) fun i => onInt (vs.getD 1 .non) fun j => smI i ∧ smI j ∧ Q ⟨rngV i (j - i).toNat, []⟩ h1, E, tk, sm, rv, q, fun us H1 hl ⟨vs, h1, g1, s1, r1, q1⟩ => by
      have l := r1.length
      rw [hl] at l
      match vs, l with
      | [v, w], _ =>
        obtain ⟨u, z, rfl, r, r2⟩ := RVs.two r1
        obtain ⟨i, rfl, q1⟩ := onInt_elim q1
        obtain ⟨j, e3, ⟨a, b⟩, ⟨c, d⟩, q2⟩ := onInt_elim q1
        have e3 : w = .int j := e3
        subst e3
        cases r
        cases r2
        exact ⟨i, j, rfl, ⟨a, b, c, d⟩, k _ _ _ _ g1 s1 wk_rng q2⟩⟩
theorem ji_enum {e : Expr} {x : Ex} {p tpos : Pos} {elts : List Expr} {kk : Nat} (hg : Gl X "enumerate") (hm : X.mg "enumerate" = none) (j : JE X e (wE C x)) (hs : isStar e = false) : JI X (.Tuple elts kk tpos) (.Call (.Name "enumerate" p) [e] [] pos) (wI C (.enum x)) :=
  PI.imp (pi_enum (pos := pos) (p := p) hg hm (ja1 j hs) (star_cons hs)) fun σ H R ⟨env, h, Q, E, tk, sm, rv, q, k⟩ =>
    ⟨env, h, fun vs h1 => onSrc h1 (vs.headD .non) fun s => isTupV (vs.headD .non) = false ∧ Q ⟨enumV 0 s.vals, s.pins⟩ h1, E, tk, sm, rv, q, fun us H1 hl ⟨vs, h1, g1, s1, r1, q1⟩ => by
      have l := r1.length
      rw [hl] at l
      match vs, l with
      | [v], _ =>
        obtain ⟨u, rfl, r⟩ := RVs.one r1
        have q1 := onSrc_pins q1
        have t : isTupV v = false := by
          obtain ⟨s, z, _⟩ := pinsOf q1
          exact z.1.1
        obtain ⟨p, s, rfl, ⟨⟨_, q2⟩, pn⟩, f⟩ := src_list s1 r t q1
        obtain ⟨us, a, r⟩ := f h1 H1 (Go.refl _ _) s1 pn
        exact ⟨p, us, rfl, a, k _ _ _ _ g1 s1 (wk_enum f) q2⟩⟩
theorem ji_zip {e e2 : Expr} {x y : Ex} {p tpos : Pos} {elts : List Expr} {kk : Nat} (hg : Gl X "zip") (hm : X.mg "zip" = none) (j : JE X e (wE C x)) (j2 : JE X e2 (wE C y)) (hs : isStar e = false) (hs2 : isStar e2 = false) : JI X (.Tuple elts kk tpos) (.Call (.Name "zip" p) [e, e2] [] pos) (wI C (.zip x y)) :=
  PI.imp (RZ.pi_zipA (pos := pos) (p := p) hg hm (ja2 j j2 hs hs2) (star_cons hs) (by rw [star_cons hs2]; rfl)) fun σ H R ⟨env, h, Q, E, tk, sm, rv, q, k⟩ =>
    ⟨env, h, fun vs h2 => onSrc h2 (vs.headD .non) fun s => onSrc h2 (vs.getD 1 .non) fun t => sameKind (vs.headD .non) (vs.getD 1 .non) = true ∧ Q ⟨zipV s.vals t.vals, s.pins ++ t.pins⟩ h2, E, tk, sm, rv, q, fun us H1 hl ⟨vs, h1, g1, s1, r1, q1⟩ => by
      have l := r1.length
      rw [hl] at l
      match vs, l with
      | [v, w], _ =>
        obtain ⟨u, z, rfl, r, r2⟩ := RVs.two r1
        have q1 := onSrc_pins q1
        obtain ⟨_, ⟨o, _⟩, _⟩ := pinsOf q1
        obtain ⟨_, ⟨kind, _⟩, _⟩ := pinsOf o
        have kind : isTupV v = isTupV w := by
          have z : (isTupV v == isTupV w) = true := kind
          simpa using z
        cases t : isTupV v with
        | false =>
          obtain ⟨p, s, rfl, ⟨o, pn⟩, f⟩ := src_list s1 r t q1
          have o := onSrc_pins o
          obtain ⟨p2, s2, rfl, ⟨⟨_, q2⟩, pn2⟩, f2⟩ := src_list s1 r2 (by rw [← kind]; exact t) o
          obtain ⟨us, a, _⟩ := f h1 H1 (Go.refl _ _) s1 pn
          obtain ⟨us2, a2, _⟩ := f2 h1 H1 (Go.refl _ _) s1 pn2
          exact ⟨p, p2, us, us2, rfl, .inl ⟨a, a2, k _ _ _ _ g1 s1 (wk_zipL f f2) q2⟩⟩
        | true =>
          obtain ⟨p, s, rfl, ⟨o, pn⟩, f⟩ := src_tup s1 r t q1
          have o := onSrc_pins o
          obtain ⟨p2, s2, rfl, ⟨⟨_, q2⟩, pn2⟩, f2⟩ := src_tup s1 r2 (by rw [← kind]; exact t) o
          obtain ⟨us, a, _⟩ := f h1 H1 (Go.refl _ _) s1 pn
          obtain ⟨us2, a2, _⟩ := f2 h1 H1 (Go.refl _ _) s1 pn2
          exact ⟨p, p2, us, us2, rfl, .inr ⟨a, a2, k _ _ _ _ g1 s1 (wk_zipT f f2) q2⟩⟩⟩
end
end KM
/-! KMI: that what is asked suffices: list comprehensions. -/
namespace KM
open PySem PySem.Spec PyProof.Rows L2

theorem takes_no {X : Cx} : Takes X (fun _ _ _ _ => False) := fun _ _ x => by
  obtain ⟨a, B, sI, pins, σ, H, cls, d, e, I, nb, up, sky, na, os, ag, w⟩ := x
  exact w.elim
theorem tk_no {X : Cx} {σ : L2.St} {h : Hep} {H : Hp} : Tk X σ h H (fun _ _ => False) := Takes.imp takes_no fun _ _ _ _ ⟨_, _, _, _, _, _, f⟩ => f
theorem wipe_at (σ : L2.St) : ∀ (vs : List Nat) (i : Nat), (wipe σ vs)[i]? = if i ∈ vs ∧ i < σ.length then some none else σ[i]?
  | [], i => by simp [wipe]
  | v :: vs, i => by
    unfold wipe
    rw [List.getElem?_set, wipe_length, wipe_at σ vs i]
    by_cases hv : v = i
    · subst hv
      by_cases hl : v < σ.length
      · simp [hl]
      · simp [hl]
    · have e : ¬ i = v := fun z => hv z.symm
      simp [hv, e]
theorem wipe_sto {is vs : List Nat} {σ σ2 : L2.St} (s : Sto is (wipe σ vs) σ2) (h : ∀ i ∈ is, i ∈ vs) : wipe σ2 vs = wipe σ vs := by
  refine List.ext_getElem? fun i => ?_
  have l : σ2.length = σ.length := by rw [s.1, wipe_length]
  rw [wipe_at, wipe_at, l]
  by_cases hi : i ∈ vs ∧ i < σ.length
  · simp [hi]
  · rw [if_neg hi, if_neg hi]
    by_cases hv : i ∈ vs
    · have : ¬ i < σ.length := fun z => hi ⟨hv, z⟩
      rw [List.getElem?_eq_none (by omega), List.getElem?_eq_none (by omega)]
    · rw [s.2 i (fun z => hv (h i z)), wipe_at, if_neg hi]
theorem rvo_wipe {K : PySem.W.Frag} {H : Hp} {env : Env} {σ : L2.St} (r : RVo K H env σ) : ∀ vs : List Nat, RVo K H (wipeE env vs) (wipe σ vs)
  | [] => r
  | v :: vs => (rvo_wipe r vs).wipe v
def JTs (X : Cx) (ifs : List Expr) (w : WT) : Prop := PTs X ifs (tST X w)
section
variable {X : Cx} {C : CalT} {pos : Pos}
theorem jts_nil : JTs X [] (wCs C .nil) := ⟨fun pins s σ H Q' I ⟨env, h, Q, E, tk, sm, rv, q, k⟩ => (pts_nil).run pins s σ H Q' I (k _ _ ⟨h, Go.refl _ _, sm, q⟩)⟩
theorem jts_one {e : Expr} {x : Ex} {r : Exs} (j : JT X e (wT C x)) : JTs X [e] (wCs C (.cons x r)) := ⟨fun pins s σ H Q' I q => (pts_one j).run pins s σ H Q' I q⟩

theorem je_lc {elt tg iter : Expr} {ifs : List Expr} {scope : Scope} {own : List (Str × Nat)} {x : Ex} {t : Tg} {it : Ir} {cnd : Exs} (hc : X.calm = true) (hN : X.N.Nodup) (ok : BlkOk X.N X.env.scope scope own) (hsl : ∀ i ∈ t.slots, i ∈ own.map (·.2))
    (ji : JI X tg iter (wI C it))
    (jg : ∀ (s : Shared) (H : Hp) (Cc : Addr) (cl : List (Str × Addr)) (fp : List Addr), JG (X.blk s H scope (compEnvC scope cl Cc X.env) fp) tg t)
    (jt : ∀ (s : Shared) (H : Hp) (Cc : Addr) (cl : List (Str × Addr)) (fp : List Addr), JTs (X.blk s H scope (compEnvC scope cl Cc X.env) fp) ifs (wCs C cnd))
    (je : ∀ (s : Shared) (H : Hp) (Cc : Addr) (cl : List (Str × Addr)) (fp : List Addr), JE (X.blk s H scope (compEnvC scope cl Cc X.env) fp) elt (wE C x))
    (hs : ∀ x, foldedSetIterable iter X.env x = pure x) (vs : List Nat) (hvs : own.map (·.2) = vs) :
    ∃ (g : TG) (tt : TT) (te : TE) (wi : TI), PI X tg iter wi ∧
      (∀ (s : Shared) (H : Hp) (Cc : Addr) (cl : List (Str × Addr)) (fp : List Addr), PG (X.blk s H scope (compEnvC scope cl Cc X.env) fp) tg g) ∧
      (∀ (s : Shared) (H : Hp) (Cc : Addr) (cl : List (Str × Addr)) (fp : List Addr), PTs (X.blk s H scope (compEnvC scope cl Cc X.env) fp) ifs tt) ∧
      (∀ (s : Shared) (H : Hp) (Cc : Addr) (cl : List (Str × Addr)) (fp : List Addr), PE (X.blk s H scope (compEnvC scope cl Cc X.env) fp) elt te) ∧
      ∀ σ H Q', tS X (wE C (.lc x t it cnd vs)) σ H Q' → tLc wi g tt te vs σ H Q' := by
  -- the readings over the block's context: they speak of X's K, mg alone
  refine ⟨fun u σ H Q' => ∃ v env env' h, Sim X.K h H ∧ RV X.K H v u ∧ RVo X.K H env σ ∧ bindT t v env = some env' ∧ ∀ σ', Sto t.slots σ σ' → RVo X.K H env' σ' → Q' σ' H,
    fun σ H Q' => ∃ env h Q, Sim X.K h H ∧ RVo X.K H env σ ∧ wCs C cnd env h Q (fun _ _ => False) ∧ ∀ b H', LB X.K h H Q b H' → Q' b H',
    fun σ H Q' => ∃ env h Q, Sim X.K h H ∧ RVo X.K H env σ ∧ wE C x env h Q (fun _ _ => False) ∧ ∀ b H', LQ X.K h H Q b H' → Q' b H',
    _, ji, fun s H Cc cl fp => jg s H Cc cl fp, fun s H Cc cl fp => ⟨fun pins s σ H Q' I ⟨env, h, Q, sm, rv, q, k⟩ => (jt _ _ Cc cl fp).run pins s σ H Q' I ⟨env, h, Q, _, tk_no, sm, rv, q, k⟩⟩,
    fun s H Cc cl fp => PE.imp (je s H Cc cl fp) fun σ H Q' ⟨env, h, Q, sm, rv, q, k⟩ => ⟨env, h, Q, _, tk_no, sm, rv, q, k⟩, ?_⟩
  intro σ H Q' ⟨env, h, Q, E, tk, sm, rv, q, k⟩
  refine ⟨env, h, _, E, tk, sm, rv, q, fun src J h1 H1 g1 s1 wk ⟨smv, q1⟩ D nD => ?_⟩
  have rv1 := rvo_wipe (rv.go sm g1) vs
  have n0 : h1 D = none := s1.free nD
  refine ⟨fun i m H2 => ∃ h2 acc uacc, m = src.vals.length - i ∧ i ≤ src.vals.length ∧ Go h1 H1 h2 H2 ∧ Sim X.K h2 H2 ∧ h2 D = none ∧ H2 D = some (.lst uacc) ∧ RVs X.K H2 acc uacc ∧ uacc.length ≤ i ∧
      lcW (wCs C cnd) (wE C x) (bindT t) src.pins (wipeE env vs) Q (src.vals.drop i) acc h2, ⟨src.vals.length, h1, [], [], rfl, Nat.zero_le _, go_hid nD, s1.hid nD, n0, upd_same, RVs.nil, Nat.zero_le _, q1⟩, ?_⟩
  rintro i m H2 ⟨h2, acc, uacc, rfl, hi, g2, s2, n2, e2, ra, la, w⟩
  by_cases hlt : i < src.vals.length
  · obtain ⟨y, hy⟩ : ∃ y, src.vals[i]? = some y := ⟨_, List.getElem?_eq_getElem hlt⟩
    have hd : src.vals.drop i = y :: src.vals.drop (i + 1) := by
      rw [List.drop_eq_getElem_cons hlt]
      congr 1
      rw [List.getElem?_eq_getElem hlt] at hy
      exact Option.some.inj hy
    rw [hd] at w
    obtain ⟨pn, w⟩ := w
    obtain ⟨env', hb, w⟩ := onO_elim w
    refine .inr ⟨wk.go i h2 H2 hlt g2 s2 pn, fun H' => ∃ h2 acc uacc, i + 1 ≤ src.vals.length ∧ Go h1 H1 h2 H' ∧ Sim X.K h2 H' ∧ h2 D = none ∧ H' D = some (.lst uacc) ∧ RVs X.K H' acc uacc ∧ uacc.length ≤ i + 1 ∧
      lcW (wCs C cnd) (wE C x) (bindT t) src.pins (wipeE env vs) Q (src.vals.drop (i + 1)) acc h2, ?_, ?_⟩
    · rintro H' ⟨h3, acc3, uacc3, a1, a2, a3, a4, a5, a6, a7, a8⟩
      exact ⟨src.vals.length - (i + 1), by omega, h3, acc3, uacc3, rfl, a1, a2, a3, a4, a5, a6, a7, a8⟩
    · intro u H3 yl
      obtain ⟨g3, s3, r3⟩ := wk.yld i h2 H2 u H3 y hy g2 s2 pn yl
      refine ⟨y, _, env', h2, s3, r3, (rv1.go s1 g2).go s2 g3, hb, fun σ' st rv' => ⟨wipe_sto st (by rw [← hvs]; exact hsl), env', h2, _, s3, rv', w, ?_⟩⟩
      rintro b H4 ⟨h4, g4, s4, w4⟩
      have g34 := g3.trans g4
      have e4 : H4 D = some (.lst uacc) := g34.fr D _ e2 n2
      have n4 : h4 D = none := g34.nw D n2 (by rw [e2]; simp)
      have ra4 := (ra.go s2 g3).go s3 g4
      cases b with
      | false => exact ⟨h4, acc, uacc, hlt, g2.trans g34, s4, n4, e4, ra4, by omega, w4⟩
      | true =>
        refine ⟨env', h4, _, s4, rv'.go s3 g4, w4, ?_⟩
        rintro zu H5 ⟨v, h5, g5, s5, r5, w5⟩
        have e5 : H5 D = some (.lst uacc) := g5.fr D _ e4 n4
        have n5 : h5 D = none := g5.nw D n4 (by rw [e4]; simp)
        have ra5 := ra4.go s4 g5
        have sB : Sim X.K (hset h5 D (.lst acc)) H5 := fun a o e => by
          by_cases z : a = D
          · subst z
            rw [hset_same] at e
            cases e
            exact ⟨uacc, e5, ra5⟩
          · rw [hset_ne z] at e
            exact s5 a o e
        have gB : Go (hset h5 D (.lst acc)) H5 (hset (hset h5 D (.lst acc)) D (.lst (acc ++ [v]))) (upd H5 D (.lst (uacc ++ [zu]))) := go_set hset_same
        refine ⟨uacc, e5, ?_, h5, acc ++ [v], uacc ++ [zu], hlt, ?_, ?_, n5, upd_same, RVs.go sB gB (ra5.app (RVs.cons r5 RVs.nil)), by rw [List.length_append]; show uacc.length + 1 ≤ _; omega, w5⟩
        · exact Nat.lt_trans (Nat.lt_of_le_of_lt la hlt) (sm_line smv)
        · have g6 := (g2.trans g34).trans g5
          refine ⟨fun a o e n => ?_, fun a e => ?_, g6.nw⟩
          · rw [upd_ne (ne_of_none e nD)]
            exact g6.fr a o e n
          · by_cases z : a = D
            · subst z; rw [upd_same]; simp
            · rw [upd_ne z]; exact g6.dm a e
        · intro a o e
          have z : a ≠ D := fun y => by subst y; rw [n5] at e; cases e
          exact (sB.set (ob0 := .lst acc) hset_same (xs := acc ++ [v]) (us := uacc ++ [zu]) (ra5.app (RVs.cons r5 RVs.nil))) a o (by rw [hset_ne z, hset_ne z]; exact e)
  · have e : i = src.vals.length := by omega
    subst e
    rw [List.drop_length] at w
    obtain ⟨pn, w⟩ := w
    refine .inl ⟨wk.stop h2 H2 g2 s2 pn, k _ _ ⟨.ref D, hset h2 D (.lst acc), g1.trans ⟨g2.fr, g2.dm, fun a n e => ?_⟩, fun a o e => ?_, rfl, newL_at w D n2⟩⟩
    · have z : a ≠ D := fun y => by subst y; exact e nD
      rw [hset_ne z]
      exact g2.nw a n e
    · by_cases z : a = D
      · subst z
        rw [hset_same] at e
        cases e
        exact ⟨uacc, e2, ra⟩
      · rw [hset_ne z] at e
        exact s2 a o e
end
end KM
/-! KMJ: that what is asked suffices: statements. -/
namespace KM
open PySem PySem.Spec PyProof.Rows L2

def LN (K : PySem.W.Frag) (h : Hep) (H : Hp) (P : Env → Hep → Prop) (σ' : L2.St) (H' : Hp) : Prop := ∃ env' h', Go h H h' H' ∧ Sim K h' H' ∧ RVo K H' env' σ' ∧ P env' h'
theorem LN.trans {K : PySem.W.Frag} {h h1 : Hep} {H H1 H' : Hp} {P : Env → Hep → Prop} {σ' : L2.St} (g : Go h H h1 H1) (q : LN K h1 H1 P σ' H') : LN K h H P σ' H' := by
  obtain ⟨e, h2, g2, s2, r, q⟩ := q
  exact ⟨e, h2, g.trans g2, s2, r, q⟩
def TkS (X : Cx) (h : Hep) (H : Hp) (E : XE') : Prop := Takes X fun cls d σ' H' => ∃ env' ex h', Go h H h' H' ∧ Sim X.K h' H' ∧ RVo X.K H' env' σ' ∧ RX X.K X.mg H' ex cls d ∧ E ex env' h'
theorem TkS.go {X : Cx} {h h1 : Hep} {H H1 : Hp} {E : XE'} (t : TkS X h H E) (g : Go h H h1 H1) : TkS X h1 H1 E := Takes.imp t fun _ _ _ _ ⟨e, x, h', g1, q⟩ => ⟨e, x, h', g.trans g1, q⟩
theorem TkS.ex {X : Cx} {h : Hep} {H : Hp} {E : XE'} {env : Env} {σ : L2.St} (t : TkS X h H E) (sm : Sim X.K h H) (rv : RVo X.K H env σ) : Tk X σ h H (fun x h1 => E x env h1) :=
  Takes.imp t fun _ _ _ _ ⟨e, x, h', g, s, r, q⟩ => by
    subst e
    exact ⟨env, x, h', g, s, rv.go sm g, r, q⟩
structure EOk (K : PySem.W.Frag) (h : Hep) (H : Hp) (D : KD) (D' : Ends) : Prop where
  nx : ∀ σ' H', LN K h H D.nx σ' H' → D'.nx σ' H'
  rt : ∀ u H', LQ K h H D.rt u H' → D'.rt u H'
  bk : ∀ σ' H', LN K h H D.bk σ' H' → D'.bk σ' H'
  ct : ∀ σ' H', LN K h H D.ct σ' H' → D'.ct σ' H'
theorem EOk.go {K : PySem.W.Frag} {h h1 : Hep} {H H1 : Hp} {D : KD} {D' : Ends} (e : EOk K h H D D') (g : Go h H h1 H1) : EOk K h1 H1 D D' :=
  ⟨fun _ _ l => e.nx _ _ (LN.trans g l), fun _ _ l => e.rt _ _ (LQ.trans g l), fun _ _ l => e.bk _ _ (LN.trans g l), fun _ _ l => e.ct _ _ (LN.trans g l)⟩
def tSS (X : Cx) (w : WS) : TS := fun D' σ H => ∃ env h D E, TkS X h H E ∧ Sim X.K h H ∧ RVo X.K H env σ ∧ w env h D E ∧ EOk X.K h H D D'
def JS (X : Cx) (st : Stmt) (w : WS) : Prop := PS X st (tSS X w)
def JSs (X : Cx) (st : List Stmt) (w : WS) : Prop := PSs X st (tSS X w)
section
variable {X : Cx} {C : CalT} {pos : Pos}
theorem LN.here {K : PySem.W.Frag} {h : Hep} {H : Hp} {P : Env → Hep → Prop} {σ : L2.St} {env : Env} (s : Sim K h H) (r : RVo K H env σ) (q : P env h) : LN K h H P σ H := ⟨env, h, Go.refl _ _, s, r, q⟩
theorem js_bad {st : Stmt} : JS X st (wS C .bad) := ⟨fun _ _ _ _ _ _ ⟨_, _, _, _, _, _, _, q, _⟩ => q.elim⟩
theorem js_pass : JS X (.Pass pos) (wS C .pass) := PS.imp ps_pass fun D' σ H ⟨env, h, D, E, tk, sm, rv, q, k⟩ => k.nx _ _ (LN.here sm rv q)
theorem js_brk : JS X (.Break pos) (wS C .brk) := PS.imp ps_break fun D' σ H ⟨env, h, D, E, tk, sm, rv, q, k⟩ => k.bk _ _ (LN.here sm rv q)
theorem js_cont : JS X (.Continue pos) (wS C .cont) := PS.imp ps_continue fun D' σ H ⟨env, h, D, E, tk, sm, rv, q, k⟩ => k.ct _ _ (LN.here sm rv q)
def isComp : Expr → Bool
  | .ListComp .. => true
  | .SetComp .. => true
  | .DictComp .. => true
  | _ => false
theorem swap_no {e : Expr} (h : isComp e = false) {t : Option Expr} {l : Nat} {env : PySem.Env} : swapsWith e t l env = pure false := by
  cases e <;> first | rfl | cases h
theorem js_expr {e : Expr} {x : Ex} (j : JE X e (wE C x)) (hs : isComp e = false) : JS X (.Expr e pos) (wS C (.expr x)) :=
  PS.imp (ps_expr (pos := pos) j (swap_no hs)) fun D' σ H ⟨env, h, D, E, tk, sm, rv, q, k⟩ =>
    ⟨env, h, _, _, tk.ex sm rv, sm, rv, q, fun u H' ⟨v, h1, g1, s1, r1, q1⟩ => k.nx _ _ ⟨env, h1, g1, s1, rv.go sm g1, q1⟩⟩
theorem js_ret {e : Expr} {x : Ex} (j : JE X e (wE C x)) : JS X (.Return (some e) pos) (wS C (.ret x)) :=
  PS.imp (ps_ret (pos := pos) j) fun D' σ H ⟨env, h, D, E, tk, sm, rv, q, k⟩ => ⟨env, h, _, _, tk.ex sm rv, sm, rv, q, fun u H' l => k.rt _ _ l⟩
theorem js_retN : JS X (.Return none pos) (wS C .retN) := PS.imp ps_retN fun D' σ H ⟨env, h, D, E, tk, sm, rv, q, k⟩ => k.rt _ _ (LQ.here (v := .non) sm rfl q)
/-- target = value -/
theorem asg_core {te : TE} {tg e : Expr} {x : Ex} {t : Tg} {D' : Ends} {σ : L2.St} {H : Hp} (z : tSS X (wS C (.asg t x)) D' σ H) :
    tAsg (tS X (wE C x)) (fun u σ H Q' => ∃ v env env' h, Sim X.K h H ∧ RV X.K H v u ∧ RVo X.K H env σ ∧ bindT t v env = some env' ∧ ∀ σ', Sto t.slots σ σ' → RVo X.K H env' σ' → Q' σ' H) D' σ H := by
  obtain ⟨env, h, D, E, tk, sm, rv, q, k⟩ := z
  refine ⟨env, h, _, _, tk.ex sm rv, sm, rv, q, ?_⟩
  rintro u H' ⟨v, h1, g1, s1, r1, q1⟩
  obtain ⟨env', b, q1⟩ := onO_elim q1
  exact ⟨v, env, env', h1, s1, r1, rv.go sm g1, b, fun σ' _ rv' => k.nx _ _ ⟨env', h1, g1, s1, rv', q1⟩⟩
theorem js_asg {tg e : Expr} {x : Ex} {t : Tg} (j : JE X e (wE C x)) (g : JG X tg t) (hs : isComp e = false) (hw : swappedStores [tg] e X.env = pure none) (ht : isStar tg = false) : JS X (.Assign [tg] e pos) (wS C (.asg t x)) :=
  PS.imp (ps_asg (pos := pos) j g (swap_no hs) hw (by cases tg <;> first | rfl | cases ht)) fun D' σ H z => asg_core (te := tS X (wE C x)) (tg := tg) (e := e) z
theorem js_set {i : Nat} {y : Str} {e : Expr} {x : Ex} {p : Pos} (hN : X.N.Nodup) (hi : X.N[i]? = some y) (hx : Loc X.env.scope y) (hf : X.fn y = true ∨ X.env.scope.names.lookup y = some .local) (j : JE X e (wE C x)) (hs : swapsWith e (some (.Name y p)) pos.line X.env = pure false) : JS X (.Assign [.Name y p] e pos) (wS C (.asg (.nm i) x)) :=
  PS.imp (ps_set (pos := pos) (pos' := p) hN hi hx j hs hf) fun D' σ H ⟨env, h, D, E, tk, sm, rv, q, k⟩ =>
    ⟨env, h, _, _, tk.ex sm rv, sm, rv, q, fun u H' ⟨v, h1, g1, s1, r1, q1⟩ => k.nx _ _ ⟨_, h1, g1, s1, (rv.go sm g1).set r1 i, q1⟩⟩
theorem js_par {i j : Nat} {y z : Str} {a b : Expr} {xs : Exs} {py pz pt p2 : Pos} {kt k2 : Nat} (hc : X.calm = true) (hN : X.N.Nodup) (hi : X.N[i]? = some y) (hj : X.N[j]? = some z) (hij : i ≠ j) (hy : X.env.scope.names.lookup y = some .local) (hz : X.env.scope.names.lookup z = some .local)
    (ja : JAn X [a, b] 2 (wA C xs)) (hw : swappedStores [.Tuple [.Name y py, .Name z pz] kt pt] (.Tuple [a, b] k2 p2) X.env = pure (some [y, z])) : JS X (.Assign [.Tuple [.Name y py, .Name z pz] kt pt] (.Tuple [a, b] k2 p2) pos) (wS C (.par [i, j] xs)) :=
  PS.imp (ps_par (pos := pos) hc hN hi hj hij hy hz ja hw rfl) fun D' σ H ⟨env, h, D, E, tk, sm, rv, q, k⟩ =>
    ⟨env, h, _, _, tk.ex sm rv, sm, rv, q, fun us H' hl ⟨vs, h1, g1, s1, r1, q1⟩ => by
      have l := r1.length
      rw [hl] at l
      match vs, l with
      | [v, w], _ =>
        obtain ⟨u, u2, rfl, r, r2⟩ := RVs.two r1
        exact ⟨u, u2, rfl, k.nx _ _ ⟨_, h1, g1, s1, ((rv.go sm g1).set r i).set r2 j, q1⟩⟩⟩
theorem js_par3 {i j l : Nat} {y z w : Str} {a b c : Expr} {xs : Exs} {py pz pw pt p2 : Pos} {kt k2 : Nat} (hc : X.calm = true) (hN : X.N.Nodup) (hi : X.N[i]? = some y) (hj : X.N[j]? = some z) (hl : X.N[l]? = some w) (hij : i ≠ j) (hil : i ≠ l) (hjl : j ≠ l)
    (hy : X.env.scope.names.lookup y = some .local) (hz : X.env.scope.names.lookup z = some .local) (hwl : X.env.scope.names.lookup w = some .local)
    (ja : JAn X [a, b, c] 3 (wA C xs)) (hw : swappedStores [.Tuple [.Name y py, .Name z pz, .Name w pw] kt pt] (.Tuple [a, b, c] k2 p2) X.env = pure (some [y, z, w])) : JS X (.Assign [.Tuple [.Name y py, .Name z pz, .Name w pw] kt pt] (.Tuple [a, b, c] k2 p2) pos) (wS C (.par [i, j, l] xs)) :=
  PS.imp (ps_par3 (pos := pos) hc hN hi hj hl hij hil hjl hy hz hwl ja hw rfl) fun D' σ H ⟨env, h, D, E, tk, sm, rv, q, k⟩ =>
    ⟨env, h, _, _, tk.ex sm rv, sm, rv, q, fun us H' hl ⟨vs, h1, g1, s1, r1, q1⟩ => by
      have l := r1.length
      rw [hl] at l
      match vs, l with
      | [v, w, v3], _ =>
        obtain ⟨u, us', rfl, r, r1⟩ := r1
        obtain ⟨u2, u3, rfl, r2, r3⟩ := RVs.two r1
        exact ⟨u, u2, u3, rfl, k.nx _ _ ⟨_, h1, g1, s1, (((rv.go sm g1).set r i).set r2 j).set r3 _, q1⟩⟩⟩
theorem js_setix {o i e : Expr} {x y z : Ex} {p : Pos} (jo : JE X o (wE C x)) (ji : JE X i (wE C y)) (je : JE X e (wE C z)) (hi : isSlice i = false) (hs : isComp e = false) (hw : swappedStores [.Subscript o i p] e X.env = pure none) : JS X (.Assign [.Subscript o i p] e pos) (wS C (.setix x y z)) :=
  PS.imp (ps_asg (pos := pos) je (pg_sub (pos := p) jo ji opSet_ok (by intro v; cases i <;> first | rfl | cases hi)) (show swapsWith e (some (.Subscript o i p)) pos.line X.env = pure false from swap_no hs) hw rfl) fun D' σ H ⟨env, h, D, E, tk, sm, rv, q, k⟩ =>
    ⟨env, h, _, _, tk.ex sm rv, sm, rv, q, fun u H1 ⟨v, h1, g1, s1, r1, q1⟩ => ⟨env, h1, _, _, (tk.go g1).ex s1 (rv.go sm g1), s1, rv.go sm g1, q1, fun u2 H2 ⟨v2, h2, g2, s2, r2, q2⟩ =>
      ⟨env, h2, _, _, ((tk.go g1).go g2).ex s2 ((rv.go sm g1).go s1 g2), s2, (rv.go sm g1).go s1 g2, q2, fun u3 H3 ⟨v3, h3, g3, s3, r3, q3⟩ =>
        ⟨v2, v3, v, h3, _, s3, RV.go s2 g3 r2, r3, RV.go s2 g3 (RV.go s1 g2 r1), q3, fun H' ⟨h', g', s', q'⟩ => k.nx _ _ ⟨env, h', ((g1.trans g2).trans g3).trans g', s', (((rv.go sm g1).go s1 g2).go s2 g3).go s3 g', q'⟩⟩⟩⟩⟩
theorem js_ife {c : Expr} {a b : List Stmt} {x : Ex} {y z : Sxs} (jc : JT X c (wT C x)) (ja : JSs X a (wSs C y)) (jb : JSs X b (wSs C z)) : JS X (.If c a b pos) (wS C (.ife x y z)) :=
  PS.imp (ps_if (pos := pos) jc ja jb) fun D' σ H ⟨env, h, D, E, tk, sm, rv, q, k⟩ =>
    ⟨env, h, _, _, tk.ex sm rv, sm, rv, q, fun t H1 ⟨h1, g1, s1, q1⟩ => by
      cases t with
      | true => exact ⟨env, h1, D, E, tk.go g1, s1, rv.go sm g1, q1, k.go g1⟩
      | false => exact ⟨env, h1, D, E, tk.go g1, s1, rv.go sm g1, q1, k.go g1⟩⟩
theorem js_whil {c : Expr} {b : List Stmt} {x : Ex} {y : Sxs} (hp : PassesOwn (model X.prog X.w) X.A X.env X.xe) (jc : JT X c (wT C x)) (jb : JSs X b (wSs C y)) : JS X (.While c b [] pos) (wS C (.whil x y)) :=
  PS.imp (ps_while (pos := pos) hp jc jb) fun D' σ H ⟨env, h, D, E, tk, sm, rv, ⟨I, ⟨m, i0⟩, turn⟩, k⟩ => by
    refine ⟨fun m σ' H' => LN X.K h H (fun e2 h2 => I m e2 h2) σ' H', ⟨m, LN.here sm rv i0⟩, ?_⟩
    rintro m σ1 H1 ⟨env1, h1, g1, s1, rv1, i1⟩
    refine ⟨env1, h1, _, _, (tk.go g1).ex s1 rv1, s1, rv1, turn m env1 h1 i1, ?_⟩
    rintro t H2 ⟨h2, g2, s2, q2⟩
    have g12 := g1.trans g2
    cases t with
    | true =>
      refine ⟨fun σ' H' => LN X.K h2 H2 (fun e2 h2 => ∃ m', m' < m ∧ I m' e2 h2) σ' H', ?_, env1, h2, _, E, tk.go g12, s2, rv1.go s1 g2, q2, ⟨fun _ _ l => l, fun _ _ l => k.rt _ _ (LQ.trans g12 l), fun _ _ l => k.nx _ _ (LN.trans g12 l), fun _ _ l => l⟩⟩
      rintro σ' H' ⟨e', h', g', s', r', m', hm, i'⟩
      exact ⟨m', hm, e', h', g12.trans g', s', r', i'⟩
    | false => exact k.nx _ _ ⟨env1, h2, g12, s2, rv1.go s1 g2, q2⟩
theorem js_forr {tg iter : Expr} {b : List Stmt} {t : Tg} {it : Ir} {y : Sxs} (hp : PassesOwn (model X.prog X.w) X.A X.env X.xe) (hc : X.calm = true) (ji : JI X tg iter (wI C it)) (jg : JG X tg t) (jb : JSs X b (wSs C y)) (hs : ∀ x, foldedSetIterable iter X.env x = pure x) :
    JS X (.For tg iter b [] pos) (wS C (.forr t it y)) :=
  PS.imp (ps_for (pos := pos) hp hc ji jg jb hs) fun D' σ H ⟨env, h, D, E, tk, sm, rv, q, k⟩ => by
    refine ⟨env, h, _, _, tk.ex sm rv, sm, rv, q, fun src J h1 H1 g1 s1 wk q1 => ?_⟩
    refine ⟨fun i m σ2 H2 => m = src.vals.length - i ∧ i ≤ src.vals.length ∧ LN X.K h1 H1 (fun e2 h2 => forW (wSs C y) (bindT t) src.pins D E (src.vals.drop i) e2 h2) σ2 H2, ⟨src.vals.length, rfl, Nat.zero_le _, LN.here s1 (rv.go sm g1) q1⟩, ?_⟩
    rintro i m σ2 H2 ⟨rfl, hi, env2, h2, g2, s2, rv2, w⟩
    by_cases hlt : i < src.vals.length
    · obtain ⟨v, hy⟩ : ∃ y, src.vals[i]? = some y := ⟨_, List.getElem?_eq_getElem hlt⟩
      have hd : src.vals.drop i = v :: src.vals.drop (i + 1) := by
        rw [List.drop_eq_getElem_cons hlt]
        congr 1
        rw [List.getElem?_eq_getElem hlt] at hy
        exact Option.some.inj hy
      rw [hd] at w
      obtain ⟨pn, w⟩ := w
      obtain ⟨env', hb, w⟩ := onO_elim w
      refine .inr ⟨wk.go i h2 H2 hlt g2 s2 pn, fun σ' H' => LN X.K h2 H2 (fun e3 h3 => forW (wSs C y) (bindT t) src.pins D E (src.vals.drop (i + 1)) e3 h3) σ' H', ?_, ?_⟩
      · rintro σ' H' l
        exact ⟨src.vals.length - (i + 1), by omega, rfl, hlt, LN.trans g2 l⟩
      · intro u H3 yl
        obtain ⟨g3, s3, r3⟩ := wk.yld i h2 H2 u H3 v hy g2 s2 pn yl
        have g13 := (g1.trans g2).trans g3
        refine ⟨v, env2, env', h2, s3, r3, rv2.go s2 g3, hb, fun σ' _ rv' => ⟨env', h2, _, E, tk.go g13, s3, rv', w, ⟨fun _ _ l => LN.trans g3 l, fun _ _ l => k.rt _ _ (LQ.trans g13 l), fun _ _ l => k.nx _ _ (LN.trans g13 l), fun _ _ l => LN.trans g3 l⟩⟩⟩
    · have e : i = src.vals.length := by omega
      subst e
      rw [List.drop_length] at w
      obtain ⟨pn, w⟩ := w
      exact .inl ⟨wk.stop h2 H2 g2 s2 pn, k.nx _ _ ⟨env2, h2, g1.trans g2, s2, rv2, w⟩⟩
theorem jss_nil : JSs X [] (wSs C .nil) := PSs.imp pss_nil fun D' σ H ⟨env, h, D, E, tk, sm, rv, q, k⟩ => k.nx _ _ (LN.here sm rv q)
theorem jss_cons {st : Stmt} {r : List Stmt} {x : Sx} {xs : Sxs} (j : JS X st (wS C x)) (jr : JSs X r (wSs C xs)) : JSs X (st :: r) (wSs C (.cons x xs)) :=
  PSs.imp (pss_cons j jr) fun D' σ H ⟨env, h, D, E, tk, sm, rv, q, k⟩ =>
    ⟨env, h, _, E, tk, sm, rv, q, ⟨fun σ' H' ⟨e1, h1, g1, s1, r1, q1⟩ => ⟨e1, h1, D, E, tk.go g1, s1, r1, q1, k.go g1⟩, k.rt, k.bk, k.ct⟩⟩
end
end KM
/-! KMK: a def's text made over into the small language, with the proof that this suffices. -/
namespace KM
open PySem PySem.Spec PyProof.Rows L2

structure Co where
  N : List Str
  sc : Scope
  blk : Option Scope
  fns : List Str
  kcs : List KC
def bNames : List Str := ["len", "abs", "int", "all", "any", "sum", "isinstance", "tuple", "list", "range", "zip", "enumerate", "bool", "str", "dict", "sorted", "min", "max", "set"]
def isBN (x : Str) : Bool := bNames.contains x
def Co.fnOk (c : Co) (x : Str) : Prop := match c.blk with
  | none => True
  | some s => s.names.lookup x = some .cell
structure CoOk (C : CalT) (k : Nat) (c : Co) (X : Cx) : Prop where
  fns : ∀ f ∈ c.fns, FOk X C k f
  kcs : ∀ q ∈ c.kcs, FKOk X C k q
  room : Room k X.A
  calm : X.calm = true
  N : X.N = c.N
  nd : c.N.Nodup
  sc : X.env.scope = c.sc
  kind : c.sc.kind = .function
  fn : ∀ x, c.fnOk x → X.fn x = true
  po : PassesOwn (model X.prog X.w) X.A X.env X.xe
  bl : ∀ x, isBN x = true → X.mg x = none
theorem CoOk.hu {C : CalT} {k : Nat} {c : Co} {X : Cx} (o : CoOk C k c X) : X.A.units + 65 < cLine := by
  have := o.room.un; omega
theorem CoOk.gl {C : CalT} {k : Nat} {c : Co} {X : Cx} (o : CoOk C k c X) {x : Str} (h : c.sc.names.lookup x = some .globalImplicit) : Gl X x := by
  show X.env.scope.names.lookup x = _
  rw [o.sc]; exact h
abbrev SndE (c : Co) (e : Expr) (x : Ex) : Prop := ∀ C k X, CoOk C k c X → JE X e (wE C x) ∧ JT X e (wT C x)
abbrev PEx (c : Co) (e : Expr) := {x : Ex // SndE c e x}
def badE (c : Co) (e : Expr) : PEx c e := ⟨.bad, fun _ _ _ _ => ⟨je_bad, jt_bad⟩⟩
abbrev CE (c : Co) := (e : Expr) → PEx c e

/-! ### names -/
def visB (sc : Scope) (x : Str) : Bool := match sc.names.lookup x with
  | some .local => true
  | some .cell => true
  | some .free => true
  | _ => false
theorem visB_ok {sc : Scope} {x : Str} (h : visB sc x = true) : Vis sc x := by
  unfold visB at h
  split at h
  · exact .inl (by assumption)
  · exact .inr (.inl (by assumption))
  · exact .inr (.inr (by assumption))
  · cases h
def glB (sc : Scope) (x : Str) : Bool := match sc.names.lookup x with
  | some .globalImplicit => true
  | _ => false
theorem glB_ok {sc : Scope} {x : Str} (h : glB sc x = true) : sc.names.lookup x = some .globalImplicit := by
  unfold glB at h
  split at h
  · assumption
  · cases h
def nfB (x : Str) : Bool := !(x == ("__debug__" : Str)) && !(x == ("__classdict__" : Str))
theorem nfB_ok {x : Str} (h : nfB x = true) : (x == ("__debug__" : Str)) = false ∧ (x == ("__classdict__" : Str)) = false := by
  unfold nfB at h
  simpa using h
def tyName (x : Str) : Option String := if x = "list" then some "list" else if x = "tuple" then some "tuple" else if x = "int" then some "int" else if x = "bool" then some "bool" else if x = "str" then some "str" else if x = "dict" then some "dict" else none
theorem tyName_ok {x : Str} {T : String} (h : tyName x = some T) : bootBuiltins x = some (.type T) ∧ isBN x = true ∧ x ≠ "__name__" ∧ (x == ("__debug__" : Str)) = false := by
  unfold tyName at h
  split at h
  · rename_i e; subst e; cases h; exact ⟨by decide +kernel, by decide +kernel, by decide, by decide⟩
  split at h
  · rename_i e; subst e; cases h; exact ⟨by decide +kernel, by decide +kernel, by decide, by decide⟩
  split at h
  · rename_i e; subst e; cases h; exact ⟨by decide +kernel, by decide +kernel, by decide, by decide⟩
  split at h
  · rename_i e; subst e; cases h; exact ⟨by decide +kernel, by decide +kernel, by decide, by decide⟩
  split at h
  · rename_i e; subst e; cases h; exact ⟨by decide +kernel, by decide +kernel, by decide, by decide⟩
  split at h
  · rename_i e; subst e; cases h; exact ⟨by decide +kernel, by decide +kernel, by decide, by decide⟩
  · cases h
def cName (c : Co) (x : Str) (pos : Pos) : PEx c (.Name x pos) :=
  if h : (decide (c.N[c.N.idxOf x]? = some x) && visB c.sc x && nfB x) = true then
    ⟨.var (c.N.idxOf x), fun C k X o => by
      simp only [Bool.and_eq_true, decide_eq_true_eq] at h
      have j : JE X (.Name x pos) (wE C (.var (c.N.idxOf x))) := je_var (by rw [o.N]; exact h.1.1) (by rw [o.sc]; exact visB_ok h.1.2) (nfB_ok h.2).1 (nfB_ok h.2).2
      exact ⟨j, jt_of j fun _ => rfl⟩⟩
  else match e : tyName x with
    | some T => if g : glB c.sc x = true then ⟨.ty T, fun C k X o => by
        obtain ⟨h1, h2, h3, h4⟩ := tyName_ok e
        have j : JE X (.Name x pos) (wE C (.ty T)) := je_con (pe_bltn (v := .ty T) (pos := pos) (o.gl (glB_ok g)) (o.bl x h2) h1 rfl h3 h4) fun _ => rfl
        exact ⟨j, jt_of j fun _ => rfl⟩⟩ else badE c _
    | none => badE c _
def cConst (c : Co) (k : Const) (j : Nat) (pos : Pos) : PEx c (.Constant k j pos) := match k with
  | .none => ⟨.non, fun C k X o => have z : JE X _ (wE C .non) := je_con pe_non fun _ => rfl; ⟨z, jt_of z fun _ => rfl⟩⟩
  | .bool b => ⟨.bl b, fun C k X o => have z : JE X _ (wE C (.bl b)) := je_con pe_bl fun _ => rfl; ⟨z, jt_of z fun _ => rfl⟩⟩
  | .int i => ⟨.int i, fun C k X o => have z : JE X _ (wE C (.int i)) := je_con pe_int fun _ => rfl; ⟨z, jt_of z fun _ => rfl⟩⟩
  | .str s => ⟨.str s, fun C k X o => have z : JE X _ (wE C (.str s)) := je_con pe_str fun _ => rfl; ⟨z, jt_of z fun _ => rfl⟩⟩
  | _ => badE c _

/-! ### lists of expressions -/
def noStars (es : List Expr) : Bool := es.all fun e => !isStar e
theorem noStars_cons {e : Expr} {es : List Expr} (h : noStars (e :: es) = true) : isStar e = false ∧ noStars es = true := by
  unfold noStars at h
  rw [List.all_cons, Bool.and_eq_true] at h
  exact ⟨by simpa using h.1, h.2⟩
abbrev PAs (c : Co) (es : List Expr) := {xs : Exs // noStars es = true → ∀ C k X, CoOk C k c X → JAn X es es.length (wA C xs)}
def cA {c : Co} (f : CE c) : (es : List Expr) → PAs c es
  | [] => ⟨.nil, fun _ _ _ _ _ => ja_nil⟩
  | e :: es => match f e, cA f es with
    | ⟨x, hx⟩, ⟨xs, hxs⟩ => ⟨.cons x xs, fun h C k X o => ja_cons (hx C k X o).1 (hxs (noStars_cons h).2 C k X o) (star_cons (noStars_cons h).1)⟩
def cBs {c : Co} (f : CE c) (op : BoolOp) (pos : Pos) : (es : List Expr) → {x : Ex // es ≠ [] → ∀ C k X, CoOk C k c X → JE X (.BoolOp op es pos) (wE C x) ∧ JW X (.BoolOp op es pos) (wT C x)}
  | [] => ⟨.bad, fun h => (h rfl).elim⟩
  | [e] => match f e with
    | ⟨x, hx⟩ => ⟨x, fun _ C k X o => ⟨je_one (hx C k X o).1, jw_one (hx C k X o).2⟩⟩
  | e :: e2 :: es => match f e, cBs f op pos (e2 :: es) with
    | ⟨x, hx⟩, ⟨y, hy⟩ => match op with
      | .And => ⟨.and x y, fun _ C k X o => ⟨je_and (hx C k X o).1 (hy (by simp) C k X o).1, jw_and (hx C k X o).2 (hy (by simp) C k X o).2⟩⟩
      | .Or => ⟨.or x y, fun _ C k X o => ⟨je_or (hx C k X o).1 (hy (by simp) C k X o).1, jw_or (hx C k X o).2 (hy (by simp) C k X o).2⟩⟩

/-! ### calls -/
def biOf (x : Str) : Option Bi := if x = "len" then some .len else if x = "abs" then some .abs else if x = "int" then some .int else if x = "all" then some .all else if x = "any" then some .any else if x = "sum" then some .sum
  else if x = "isinstance" then some .isi else if x = "tuple" then some .tuple else if x = "list" then some .list else none
theorem biOf_ok {x : Str} {f : Bi} (h : biOf x = some f) : bootBuiltins x = some f.val ∧ isBN x = true ∧ x ≠ "__name__" ∧ (x == ("__debug__" : Str)) = false := by
  unfold biOf at h
  iterate 9
    split at h
    · rename_i e; subst e; cases h; exact ⟨by decide +kernel, by decide +kernel, by decide, by decide⟩
  · cases h
theorem bi_val (f : Bi) : (∃ B, f.val = .builtin B) ∨ ∃ T, f.val = .type T := by
  cases f <;> first | exact .inl ⟨_, rfl⟩ | exact .inr ⟨_, rfl⟩
def cCallN {c : Co} (f : CE c) (x : Str) (p : Pos) (es : List Expr) (pos : Pos) : PEx c (.Call (.Name x p) es [] pos) :=
  if g : glB c.sc x = true then
    if hf : (c.fns.contains x && nfB x) = true then
      match es with
      | [] => ⟨.call x .nil, fun C k X o => by
          rw [Bool.and_eq_true] at hf
          have j : JE X (.Call (.Name x p) [] [] pos) (wE C (.call x .nil)) := je_call0 (o.fns x (by simpa using hf.1)) o.room (o.gl (glB_ok g)) (nfB_ok hf.2).1
          exact ⟨j, jt_of j fun _ => rfl⟩⟩
      | e :: es => if hs : noStars (e :: es) = true then match cA f (e :: es) with
          | ⟨xs, hxs⟩ => ⟨.call x xs, fun C k X o => by
              rw [Bool.and_eq_true] at hf
              have j : JE X (.Call (.Name x p) (e :: es) [] pos) (wE C (.call x xs)) := je_call (o.fns x (by simpa using hf.1)) o.room (o.gl (glB_ok g)) (nfB_ok hf.2).1 (hxs hs C k X o) (star_cons (noStars_cons hs).1) (star_any (noStars_cons hs).2)
              exact ⟨j, jt_of j fun _ => rfl⟩⟩
        else badE c _
    else match hb : biOf x with
      | some b => (match es with
        | e :: es => if hs : noStars (e :: es) = true then match cA f (e :: es) with
            | ⟨xs, hxs⟩ => ⟨.bi b xs, fun C k X o => by
                obtain ⟨h1, h2, h3, h4⟩ := biOf_ok hb
                have j : JE X (.Call (.Name x p) (e :: es) [] pos) (wE C (.bi b xs)) := by
                  rcases bi_val b with ⟨B, z⟩ | ⟨B, z⟩
                  · exact je_biF (id := x) o.calm z (o.gl (glB_ok g)) (o.bl x h2) (by rw [← z]; exact h1) h3 h4 (hxs hs C k X o) (star_cons (noStars_cons hs).1) (star_any (noStars_cons hs).2)
                  · exact je_biT (id := x) o.calm z (o.gl (glB_ok g)) (o.bl x h2) (by rw [← z]; exact h1) h3 h4 (hxs hs C k X o) (star_cons (noStars_cons hs).1) (star_any (noStars_cons hs).2)
                exact ⟨j, jt_of j fun _ => rfl⟩⟩
          else badE c _
        | [] => badE c _)
      | none => badE c _
  else badE c _
def kwNames : List Keyword → Option (List Str)
  | [] => some []
  | ⟨some x, _, _⟩ :: r => (kwNames r).map (x :: ·)
  | ⟨none, _, _⟩ :: _ => none
theorem kwNames_ok {env : PySem.Env} {pos : Pos} : ∀ {kws : List Keyword} {ks : List Str}, kwNames kws = some ks → (backToKw pos (keywordEach kws env)).filterMap (·.1) = ks ∧ (backToKw pos (keywordEach kws env)).all (·.1.isSome) = true ∧ (backToKw pos (keywordEach kws env)).any (·.1.isNone) = false ∧ kws.length = ks.length
  | [], ks, h => by
    simp only [kwNames] at h
    cases h
    exact ⟨rfl, rfl, rfl, rfl⟩
  | ⟨some x, e, p⟩ :: r, ks, h => by
    simp only [kwNames] at h
    cases z : kwNames r with
    | none => rw [z] at h; cases h
    | some ks' =>
      rw [z] at h
      cases h
      obtain ⟨h1, h2, h3, h4⟩ := kwNames_ok (env := env) (pos := pos) z
      unfold backToKw at h1 h2 h3 ⊢
      simp only [keywordEach, List.map_cons, List.filterMap_cons, List.all_cons, List.any_cons, List.length_cons]
      exact ⟨by rw [h1], by rw [h2]; rfl, by rw [h3]; rfl, by rw [h4]⟩
  | ⟨none, _, _⟩ :: _, _, h => by cases h
def cKs {c : Co} (f : CE c) : (kws : List Keyword) → {xs : Exs // ∀ C k X, CoOk C k c X → JKn X kws kws.length (wA C xs)}
  | [] => ⟨.nil, fun _ _ _ _ => jk_nil⟩
  | ⟨nm, e, kp⟩ :: r => match f e, cKs f r with
    | ⟨x, hx⟩, ⟨xs, hxs⟩ => ⟨.cons x xs, fun C k X o => jk_cons (hx C k X o).1 (hxs C k X o)⟩
/-- a call by keywords that is booked -/
def findK (x : Str) (ks : List Str) : List KC → Option KC
  | [] => none
  | q :: r => if q.f = x ∧ q.ks = ks then some q else findK x ks r
theorem findK_ok {x : Str} {ks : List Str} {q : KC} : ∀ {l : List KC}, findK x ks l = some q → q ∈ l ∧ q.f = x ∧ q.ks = ks
  | [], h => by cases h
  | p :: r, h => by
    unfold findK at h
    split at h
    · cases h
      exact ⟨List.mem_cons_self, by assumption⟩
    · obtain ⟨h1, h2⟩ := findK_ok h
      exact ⟨List.mem_cons_of_mem _ h1, h2⟩
def cCallK {c : Co} (f : CE c) (x : Str) (p : Pos) (kws : List Keyword) (pos : Pos) : PEx c (.Call (.Name x p) [] kws pos) :=
  match hn : kwNames kws with
  | some ks => (match hk : findK x ks c.kcs with
    | some q => if h : (glB c.sc x && nfB x) = true then match cKs f kws with
        | ⟨xs, hxs⟩ => ⟨.kall q.f q.perm xs, fun C k X o => by
            rw [Bool.and_eq_true] at h
            obtain ⟨q1, q2, q3⟩ := findK_ok hk
            subst q2
            obtain ⟨h1, h2, h3, h4⟩ := kwNames_ok (env := X.env) (pos := pos) hn
            have j : JE X (.Call (.Name q.f p) [] kws pos) (wE C (.kall q.f q.perm xs)) := je_kall (o.kcs q q1) o.room (o.gl (glB_ok h.1)) (nfB_ok h.2).1 (hxs C k X o) (by rw [h4, q3]) (by rw [h1, q3]) h2 h3
            exact ⟨j, jt_of j fun _ => rfl⟩⟩
      else badE c _
    | none => badE c _)
  | none => badE c _
def mtOf (x : Str) : Option Mt := if x = "append" then some .append else if x = "pop" then some .pop else if x = "extend" then some .extend else none
theorem mtOf_ok {x : Str} {m : Mt} (h : mtOf x = some m) : x = m.name := by
  unfold mtOf at h
  iterate 3
    split at h
    · rename_i e; subst e; cases h; rfl
  · cases h
def cCallM {c : Co} (f : CE c) (o : Expr) (m : Str) (apos : Pos) (es : List Expr) (pos : Pos) : PEx c (.Call (.Attribute o m apos) es [] pos) :=
  match hm : mtOf m with
  | some mt => if h : (plainBase o && (apos.endLine == pos.line) && noStars es && decide (es.length < 30)) = true then
      match f o, es with
      | ⟨x, hx⟩, [] => ⟨.mth mt x .nil, fun C k X ok => by
          simp only [Bool.and_eq_true, decide_eq_true_eq] at h
          have e := mtOf_ok hm
          subst e
          have j : JE X (.Call (.Attribute o mt.name apos) [] [] pos) (wE C (.mth mt x .nil)) := je_mth0 (hx C k X ok).1 h.1.1.1 h.1.1.2
          exact ⟨j, jt_of j fun _ => rfl⟩⟩
      | ⟨x, hx⟩, e :: es => match cA f (e :: es) with
          | ⟨xs, hxs⟩ => ⟨.mth mt x xs, fun C k X ok => by
              simp only [Bool.and_eq_true, decide_eq_true_eq] at h
              have z := mtOf_ok hm
              subst z
              have j : JE X (.Call (.Attribute o mt.name apos) (e :: es) [] pos) (wE C (.mth mt x xs)) := je_mth (hx C k X ok).1 (hxs h.1.2 C k X ok) h.1.1.1 h.1.1.2 h.1.2 h.2
              exact ⟨j, jt_of j fun _ => rfl⟩⟩
    else badE c _
  | none => badE c _

/-! ### places -/
def cO {c : Co} (f : CE c) : (e : Option Expr) → {xs : Exs // ∀ C k X, CoOk C k c X → JO X e (wO C xs)}
  | none => ⟨.nil, fun _ _ _ _ => jo_none⟩
  | some e => match f e with
    | ⟨x, hx⟩ => ⟨.cons x .nil, fun C k X o => jo_some (hx C k X o).1⟩
def cSub {c : Co} (f : CE c) (a b : Expr) (pos : Pos) : PEx c (.Subscript a b pos) :=
  match b with
  | .Slice lo hi none p2 => match f a, cO f lo, cO f hi with
    | ⟨x, hx⟩, ⟨l, hl⟩, ⟨u, hu⟩ => ⟨.sl x l u, fun C k X o => have j : JE X _ (wE C (.sl x l u)) := je_sl (hx C k X o).1 (hl C k X o) (hu C k X o); ⟨j, jt_of j fun _ => rfl⟩⟩
  | .Slice none none (some (.UnaryOp .USub (.Constant (.int 1) n p1) p2)) p3 => match f a with
    | ⟨x, hx⟩ => ⟨.rev x, fun C k X o => have j : JE X _ (wE C (.rev x)) := je_rev (hx C k X o).1; ⟨j, jt_of j fun _ => rfl⟩⟩
  | b => if h : isSlice b = false then match f a, f b with
      | ⟨x, hx⟩, ⟨y, hy⟩ => ⟨.ix x y, fun C k X o => have j : JE X _ (wE C (.ix x y)) := je_ix (hx C k X o).1 (hy C k X o).1 h; ⟨j, jt_of j fun _ => rfl⟩⟩
    else badE c _

/-! ### targets, walks -/
def locB (c : Co) (x : Str) : Bool := match c.sc.names.lookup x with
  | some .local => true
  | some .cell => (match c.blk with
    | none => true
    | some s => decide (s.names.lookup x = some .cell))
  | _ => false
theorem locB_ok {C : CalT} {k : Nat} {c : Co} {X : Cx} (o : CoOk C k c X) {x : Str} (h : locB c x = true) : Loc X.env.scope x ∧ (X.fn x = true ∨ X.env.scope.names.lookup x = some .local) := by
  rw [o.sc]
  unfold locB at h
  split at h
  · rename_i e; exact ⟨.inl e, .inr e⟩
  · rename_i e
    refine ⟨.inr e, .inl (o.fn x ?_)⟩
    unfold Co.fnOk
    split at h
    · trivial
    · simpa using h
  · cases h
mutual
def cG (c : Co) : (e : Expr) → Option {t : Tg // ∀ C k X, CoOk C k c X → JG X e t}
  | .Name x pos => if h : (decide (c.N[c.N.idxOf x]? = some x) && locB c x) = true then some ⟨.nm (c.N.idxOf x), fun C k X o => by
      simp only [Bool.and_eq_true, decide_eq_true_eq] at h
      obtain ⟨l, g⟩ := locB_ok o h.2
      exact jg_name (by rw [o.N]; exact o.nd) (by rw [o.N]; exact h.1) l g⟩ else none
  | .Tuple es k pos => match cGs c es with
    | some ⟨t, ht⟩ => if h : (noStars es && t.isTup && decide (es.length = t.len)) = true then some ⟨t, fun C k X o => by
        simp only [Bool.and_eq_true, decide_eq_true_eq] at h
        exact jg_tup o.calm h.1.1 h.1.2 h.2 (ht h.1.1 C _ X o)⟩ else none
    | none => none
  | _ => none
def cGs (c : Co) : (es : List Expr) → Option {t : Tg // noStars es = true → ∀ C k X, CoOk C k c X → JGs X es t}
  | [] => some ⟨.tn, fun _ _ _ _ _ => jgs_nil⟩
  | e :: es => match cG c e, cGs c es with
    | some ⟨a, ha⟩, some ⟨b, hb⟩ => some ⟨.tc a b, fun h C k X o => jgs_cons (ha C k X o) (hb (noStars_cons h).2 C k X o) (noStars_cons h).1⟩
    | _, _ => none
end
abbrev PIr (c : Co) (tg e : Expr) := {it : Ir // ∀ C k X, CoOk C k c X → JI X tg e (wI C it)}
def seqI {c : Co} (f : CE c) (tg e : Expr) : PIr c tg e := match f e with
  | ⟨x, hx⟩ => ⟨.seq x, fun C k X o => ji_seq (hx C k X o).1⟩
def cI {c : Co} (f : CE c) (tg : Expr) : (e : Expr) → PIr c tg e
  | .Call (.Name x p) [a] [] pos =>
    if h : (x = "range" ∧ glB c.sc x = true ∧ isStar a = false) then match f a with
      | ⟨y, hy⟩ => ⟨.rng1 y, fun C k X o => by
          obtain ⟨rfl, h2, h3⟩ := h
          exact ji_rng1 (o.gl (glB_ok h2)) (o.bl _ (by decide +kernel)) (hy C k X o).1 h3⟩
    else match tg with
      | .Tuple elts kk tpos => if h : (x = "enumerate" ∧ glB c.sc x = true ∧ isStar a = false) then match f a with
          | ⟨y, hy⟩ => ⟨.enum y, fun C k X o => by
              obtain ⟨rfl, h2, h3⟩ := h
              exact ji_enum (o.gl (glB_ok h2)) (o.bl _ (by decide +kernel)) (hy C k X o).1 h3⟩
        else seqI f _ _
      | tg => seqI f _ _
  | .Call (.Name x p) [a, b] [] pos =>
    if h : (x = "range" ∧ glB c.sc x = true ∧ isStar a = false ∧ isStar b = false) then match f a, f b with
      | ⟨y, hy⟩, ⟨z, hz⟩ => ⟨.rng2 y z, fun C k X o => by
          obtain ⟨rfl, h2, h3, h4⟩ := h
          exact ji_rng2 (o.gl (glB_ok h2)) (o.bl _ (by decide +kernel)) (hy C k X o).1 (hz C k X o).1 h3 h4⟩
    else match tg with
      | .Tuple elts kk tpos => if h : (x = "zip" ∧ glB c.sc x = true ∧ isStar a = false ∧ isStar b = false) then match f a, f b with
          | ⟨y, hy⟩, ⟨z, hz⟩ => ⟨.zip y z, fun C k X o => by
              obtain ⟨rfl, h2, h3, h4⟩ := h
              exact ji_zip (o.gl (glB_ok h2)) (o.bl _ (by decide +kernel)) (hy C k X o).1 (hz C k X o).1 h3 h4⟩
        else seqI f _ _
      | tg => seqI f _ _
  | e => seqI f _ _
end KM
/-! KML: expressions, statements, defs made over. -/
namespace KM
open PySem PySem.Spec PyProof.Rows L2

/-! ### comprehensions -/
def ownOf (c : Co) (s : Scope) : List (Str × Nat) := s.names.filterMap fun (x, k) => if (k == .local || k == .cell) && decide (c.N[c.N.idxOf x]? = some x) then some (x, c.N.idxOf x) else none
def Co.inner (c : Co) (s : Scope) : Co := { N := c.N, sc := relS s c.sc, blk := some s, fns := c.fns, kcs := c.kcs }
theorem CoOk.inner {C : CalT} {k : Nat} {c : Co} {X : Cx} (o : CoOk C k c X) {scope : Scope} (hk : scope.kind = .function) (s : Shared) (H : Hp) (Cc : Addr) (cl : List (Str × Addr)) (fp : List Addr) :
    CoOk C k (c.inner scope) (X.blk s H scope (compEnvC scope cl Cc X.env) fp) where
  fns := o.fns
  kcs := o.kcs
  room := o.room
  calm := o.calm
  N := o.N
  nd := o.nd
  sc := by show relS scope X.env.scope = relS scope c.sc; rw [o.sc]
  kind := hk
  fn := fun x h => by
    have h : scope.names.lookup x = some .cell := h
    show (scope.names.lookup x == some NameKind.cell) = true
    rw [h]; rfl
  po := PassesOwn.never
  bl := o.bl
def isSet : Expr → Bool
  | .Set .. => true
  | _ => false
theorem fold_no {e : Expr} (h : isSet e = false) {env : PySem.Env} (x : Value) : foldedSetIterable e env x = pure x := by
  cases e <;> first | rfl | cases h
/-- the parts of a comprehension that is taken -/
def lcOk (c : Co) (scope : Scope) (t : Tg) (it : Expr) : Bool :=
  blkC c.N c.sc scope (ownOf c scope) && t.slots.all (fun i => ((ownOf c scope).map (·.2)).contains i) && !isSet it && decide (scope.kind = .function)
structure LcP (X : Cx) (C : CalT) (elt tg iter : Expr) (ifs : List Expr) (scope : Scope) (own : List (Str × Nat)) (x : Ex) (t : Tg) (it : Ir) (cnd : Exs) : Prop where
  ok : BlkOk X.N X.env.scope scope own
  sl : ∀ i ∈ t.slots, i ∈ own.map (·.2)
  ji : JI X tg iter (wI C it)
  jg : ∀ (s : Shared) (H : Hp) (Cc : Addr) (cl : List (Str × Addr)) (fp : List Addr), JG (X.blk s H scope (compEnvC scope cl Cc X.env) fp) tg t
  jt : ∀ (s : Shared) (H : Hp) (Cc : Addr) (cl : List (Str × Addr)) (fp : List Addr), JTs (X.blk s H scope (compEnvC scope cl Cc X.env) fp) ifs (wCs C cnd)
  je : ∀ (s : Shared) (H : Hp) (Cc : Addr) (cl : List (Str × Addr)) (fp : List Addr), JE (X.blk s H scope (compEnvC scope cl Cc X.env) fp) elt (wE C x)
  hs : ∀ x, foldedSetIterable iter X.env x = pure x
theorem LcP.val {X : Cx} {C : CalT} {elt tg iter : Expr} {ifs : List Expr} {scope : Scope} {own : List (Str × Nat)} {x : Ex} {t : Tg} {it : Ir} {cnd : Exs} {pos : Pos} (L : LcP X C elt tg iter ifs scope own x t it cnd) (hc : X.calm = true) (hN : X.N.Nodup) :
    JE X (.ListComp elt [⟨tg, iter, ifs, 0⟩] scope pos) (wE C (.lc x t it cnd (own.map (·.2)))) := by
  obtain ⟨g, tt, te, wi, h1, h2, h3, h4, h5⟩ := je_lc hc hN L.ok L.sl L.ji L.jg L.jt L.je L.hs _ rfl
  exact PE.imp (pe_lc (pos := pos) hc hN h1 L.ok h2 h3 h4 L.hs) h5
theorem LcP.set {X : Cx} {C : CalT} {elt tg iter : Expr} {ifs : List Expr} {scope : Scope} {own : List (Str × Nat)} {x : Ex} {t : Tg} {it : Ir} {cnd : Exs} {pos spos py : Pos} {y : Str} {i : Nat} (L : LcP X C elt tg iter ifs scope own x t it cnd) (hc : X.calm = true) (hN : X.N.Nodup)
    (hy : X.N[i]? = some y) (hyl : X.env.scope.names.lookup y = some .local) (hsw : swapsWith (.ListComp elt [⟨tg, iter, ifs, 0⟩] scope pos) (some (.Name y py)) spos.line X.env = pure true) :
    JS X (.Assign [.Name y py] (.ListComp elt [⟨tg, iter, ifs, 0⟩] scope pos) spos) (wS C (.asg (.nm i) (.lc x t it cnd (own.map (·.2))))) := by
  obtain ⟨g, tt, te, wi, h1, h2, h3, h4, h5⟩ := je_lc hc hN L.ok L.sl L.ji L.jg L.jt L.je L.hs _ rfl
  refine PS.imp (ps_setLc (spos := spos) (py := py) hc hN hy hyl hsw h1 L.ok h2 h3 h4 L.hs) fun D' σ H ⟨env, h, D, E, tk, sm, rv, q, k⟩ => ?_
  refine h5 _ _ _ ⟨env, h, _, _, tk.ex sm rv, sm, rv, q, ?_⟩
  rintro u H' ⟨v, h1, g1, s1, r1, q1⟩
  exact k.nx _ _ ⟨_, h1, g1, s1, (rv.go sm g1).set r1 i, q1⟩
/-- what a comprehension is made of -/
structure LcR (c : Co) (elt tg iter : Expr) (ifs : List Expr) (scope : Scope) where
  x : Ex
  t : Tg
  it : Ir
  cnd : Exs
  ok : ∀ C k X, CoOk C k c X → LcP X C elt tg iter ifs scope (ownOf c scope) x t it cnd
def cIfs {c : Co} (f : CE c) : (es : List Expr) → Option {xs : Exs // ∀ C k X, CoOk C k c X → JTs X es (wCs C xs)}
  | [] => some ⟨.nil, fun _ _ _ _ => jts_nil⟩
  | [e] => match f e with
    | ⟨x, hx⟩ => some ⟨.cons x .nil, fun C k X o => jts_one (hx C k X o).2⟩
  | _ => none
def cLc (n : (c : Co) → CE c) (c : Co) (elt tg iter : Expr) (ifs : List Expr) (scope : Scope) : Option (LcR c elt tg iter ifs scope) :=
  match cG (c.inner scope) tg, cIfs (n (c.inner scope)) ifs, n (c.inner scope) elt, cI (n c) tg iter with
  | some ⟨t, ht⟩, some ⟨cnd, hcnd⟩, ⟨x, hx⟩, ⟨it, hit⟩ =>
    if h : lcOk c scope t iter = true then some ⟨x, t, it, cnd, fun C k X o => by
      unfold lcOk at h
      simp only [Bool.and_eq_true, decide_eq_true_eq, List.all_eq_true, List.contains_iff_mem, Bool.not_eq_true'] at h
      obtain ⟨⟨⟨h1, h2⟩, h3⟩, h4⟩ := h
      exact ⟨by rw [o.N, o.sc]; exact blkOk_by h1, h2, hit C k X o, fun s H Cc cl fp => ht C k _ (o.inner h4 s H Cc cl fp), fun s H Cc cl fp => hcnd C k _ (o.inner h4 s H Cc cl fp), fun s H Cc cl fp => (hx C k _ (o.inner h4 s H Cc cl fp)).1, fold_no h3⟩⟩ else none
  | _, _, _, _ => none

/-! ### expressions -/
def cE : Nat → (c : Co) → CE c
  | 0, c, e => badE c e
  | n + 1, c, e => match e with
    | .Name x pos => cName c x pos
    | .Constant k j pos => cConst c k j pos
    | .BinOp a op b pos => match cE n c a, cE n c b with
      | ⟨x, hx⟩, ⟨y, hy⟩ => ⟨.bin op x y, fun C k X o => have j : JE X _ (wE C (.bin op x y)) := je_bin (hx C k X o).1 (hy C k X o).1; ⟨j, jt_of j fun _ => rfl⟩⟩
    | .UnaryOp .USub a pos => match cE n c a with
      | ⟨x, hx⟩ => ⟨.neg x, fun C k X o => have j : JE X _ (wE C (.neg x)) := je_neg (hx C k X o).1; ⟨j, jt_of j fun _ => rfl⟩⟩
    | .UnaryOp .Not a pos => match cE n c a with
      | ⟨x, hx⟩ => ⟨.not x, fun C k X o => ⟨je_not (hx C k X o).1, jt_not (hx C k X o).2⟩⟩
    | .BoolOp op es pos => if h : es ≠ [] then match cBs (cE n c) op pos es with
        | ⟨x, hx⟩ => ⟨x, fun C k X o => ⟨(hx h C k X o).1, PW.pt (hx h C k X o).2⟩⟩
      else badE c _
    | .IfExp t a b pos => match cE n c t, cE n c a, cE n c b with
      | ⟨z, hz⟩, ⟨x, hx⟩, ⟨y, hy⟩ => ⟨.ife z x y, fun C k X o => ⟨je_ife (hz C k X o).2 (hx C k X o).1 (hy C k X o).1, jt_ife (hz C k X o).2 (hx C k X o).2 (hy C k X o).2⟩⟩
    | .Compare a [op] [b] pos => if h : behindInMarks op b = false then match cE n c a, cE n c b with
        | ⟨x, hx⟩, ⟨y, hy⟩ => ⟨.cmp op x y, fun C k X o => ⟨je_cmp o.hu h (hx C k X o).1 (hy C k X o).1, jt_cmp o.hu h (hx C k X o).1 (hy C k X o).1⟩⟩
      else badE c _
    | .Compare a [op, op'] [b, b2] pos => if h : lastMarks [op, op'] [b, b2] = false then match cE n c a, cE n c b, cE n c b2 with
        | ⟨x, hx⟩, ⟨y, hy⟩, ⟨z, hz⟩ => ⟨.chn op op' x y z, fun C k X o => ⟨je_chn o.hu h (hx C k X o).1 (hy C k X o).1 (hz C k X o).1, jt_chn o.hu h (hx C k X o).1 (hy C k X o).1 (hz C k X o).1⟩⟩
      else badE c _
    | .Call (.Name x p) es [] pos => cCallN (cE n c) x p es pos
    | .Call (.Attribute o m apos) es [] pos => cCallM (cE n c) o m apos es pos
    | .Call (.Name x p) [] (kw :: kws) pos => cCallK (cE n c) x p (kw :: kws) pos
    | .Subscript a b pos => cSub (cE n c) a b pos
    | .List es pos => if h : (noStars es && decide (es.length ≤ 1000)) = true then match cA (cE n c) es with
        | ⟨xs, hxs⟩ => ⟨.lst xs, fun C k X o => by
            rw [Bool.and_eq_true, decide_eq_true_eq] at h
            have j : JE X (.List es pos) (wE C (.lst xs)) := je_lst h.2 (hxs h.1 C k X o)
            exact ⟨j, jt_of j fun _ => rfl⟩⟩
      else badE c _
    | .Tuple es m pos => if h : (noStars es && decide (es.length ≤ 1000)) = true then match cA (cE n c) es with
        | ⟨xs, hxs⟩ => ⟨.tup xs, fun C k X o => by
            rw [Bool.and_eq_true, decide_eq_true_eq] at h
            have j : JE X (.Tuple es m pos) (wE C (.tup xs)) := je_tup h.2 (hxs h.1 C k X o)
            exact ⟨j, jt_of j fun _ => rfl⟩⟩
      else badE c _
    | .ListComp elt [⟨tg, iter, ifs, 0⟩] scope pos => match cLc (cE n) c elt tg iter ifs scope with
      | some L => ⟨.lc L.x L.t L.it L.cnd ((ownOf c scope).map (·.2)), fun C k X o => by
          have j : JE X (.ListComp elt [⟨tg, iter, ifs, 0⟩] scope pos) (wE C (.lc L.x L.t L.it L.cnd ((ownOf c scope).map (·.2)))) := (L.ok C k X o).val o.calm (by rw [o.N]; exact o.nd)
          exact ⟨j, jt_of j fun _ => rfl⟩⟩
      | none => badE c _
    | e => badE c e

/-! ### statements -/
abbrev SndS (c : Co) (st : Stmt) (x : Sx) : Prop := ∀ C k X, CoOk C k c X → JS X st (wS C x)
abbrev PSx (c : Co) (st : Stmt) := {x : Sx // SndS c st x}
abbrev PSxs (c : Co) (st : List Stmt) := {x : Sxs // ∀ C k X, CoOk C k c X → JSs X st (wSs C x)}
def badS (c : Co) (st : Stmt) : PSx c st := ⟨.bad, fun _ _ _ _ => js_bad⟩
def namesIn (sc : Scope) (line : Nat) (ts : List Expr) : List Str := ts.filterMap fun
  | .Name id pos => if sc.names.lookup id == some .local && pos.line == line then some id else none
  | _ => none
def anyStar (vs : List Expr) : Bool := vs.any fun | .Starred .. => true | _ => false
/-- whether the stores of «ts = vs» are swapped: some names, none, or not said -/
def swapB (sc : Scope) (ts vs : List Expr) : Option (Option (List Str)) :=
  if (!(ts.length == 2 || ts.length == 3) || vs.length != ts.length) = true then some none
  else if anyStar vs = true then some none
  else
    let names := namesIn sc ((ts.head?.map (·.pos.line)).getD 0) ts
    if (names.length != ts.length || names.eraseDups.length != names.length) = true then some none
    else if vs.all (foldedForSure 8) = true then some none
    else if vs.all (constantsAlone 8) = true then none
    else some (some names)
theorem swapB_ok {env : PySem.Env} {ts vs : List Expr} {kt kv : Nat} {pt pv : Pos} {r : Option (List Str)} (hk : env.scope.kind = .function) (h : swapB env.scope ts vs = some r) : swappedStores [.Tuple ts kt pt] (.Tuple vs kv pv) env = pure r := by
  have hb : env.blockKind = .function := by unfold Env.blockKind; rw [hk]; rfl
  unfold swapB at h
  unfold swappedStores
  simp only [hb, bne_self_eq_false, Bool.or_false]
  have en : ∀ line, (ts.filterMap fun
    | .Name id pos => if env.kindOf id == some .local && pos.line == line then some id else none
    | _ => none) = namesIn env.scope line ts := fun line => rfl
  have es : (vs.any fun | .Starred .. => true | _ => false) = anyStar vs := rfl
  split at h
  · rename_i c; cases h; exact if_pos c
  · rename_i c
    refine (if_neg c).trans ?_
    split at h
    · rename_i c2; cases h; exact if_pos c2
    · rename_i c2
      refine (if_neg c2).trans ?_
      simp only at h
      split at h
      · rename_i c3; cases h; exact if_pos c3
      · rename_i c3
        refine (if_neg c3).trans ?_
        split at h
        · rename_i c4; cases h; exact if_pos c4
        · rename_i c4
          refine (if_neg c4).trans ?_
          split at h
          · cases h
          · rename_i c5
            cases h
            exact if_neg c5
end KM
/-! KMM: statements, defs made over; the table. -/
namespace KM
open PySem PySem.Spec PyProof.Rows L2

def isTupE : Expr → Bool
  | .Tuple .. => true
  | _ => false
theorem sw_none {e : Expr} (h : isTupE e = false) {ts : List Expr} {k : Nat} {p : Pos} {env : PySem.Env} : swappedStores [.Tuple ts k p] e env = pure none := by
  cases e <;> first | rfl | cases h
theorem sw_sub {o i e : Expr} {p : Pos} {env : PySem.Env} : swappedStores [.Subscript o i p] e env = pure none := by
  cases e <;> rfl
/-- whether a comprehension's store is swapped with what it lets go -/
def swLc (sc scope : Scope) (y : Str) (py pos : Pos) : Bool :=
  sc.names.lookup y == some .local && py.line == pos.line && !(scope.names.any fun (n, k) => n == y && (k == .local || k == .cell))
theorem swLc_ok {elt : Expr} {gs : List Comprehension} {scope : Scope} {pos py : Pos} {y : Str} {l : Nat} {env : PySem.Env} (hk : env.scope.kind = .function) :
    swapsWith (.ListComp elt gs scope pos) (some (.Name y py)) l env = pure (swLc env.scope scope y py pos) := by
  have hb : env.blockKind = .function := by unfold Env.blockKind; rw [hk]; rfl
  unfold swapsWith swLc
  simp only [hb]
  rfl
def cAsg (n : (c : Co) → CE c) (c : Co) (tg e : Expr) (pos : Pos) : PSx c (.Assign [tg] e pos) :=
  match tg with
  | .Name y p =>
    if h : (decide (c.N[c.N.idxOf y]? = some y) && locB c y) = true then
      match e with
      | .ListComp elt [⟨tg2, iter, ifs, 0⟩] scope pos2 => (match cLc n c elt tg2 iter ifs scope with
        | some L => if hs : swLc c.sc scope y p pos2 = true then ⟨.asg (.nm (c.N.idxOf y)) (.lc L.x L.t L.it L.cnd ((ownOf c scope).map (·.2))), fun C k X o => by
              simp only [Bool.and_eq_true, decide_eq_true_eq] at h
              have hl : X.env.scope.names.lookup y = some .local := by
                unfold swLc at hs
                simp only [Bool.and_eq_true, beq_iff_eq] at hs
                rw [o.sc]; exact hs.1.1
              exact (L.ok C k X o).set o.calm (by rw [o.N]; exact o.nd) (by rw [o.N]; exact h.1) hl (by rw [swLc_ok (by rw [o.sc]; exact o.kind), o.sc, hs])⟩
            else ⟨.asg (.nm (c.N.idxOf y)) (.lc L.x L.t L.it L.cnd ((ownOf c scope).map (·.2))), fun C k X o => by
              simp only [Bool.and_eq_true, decide_eq_true_eq] at h
              obtain ⟨l, g⟩ := locB_ok o h.2
              have j : JE X (.ListComp elt [⟨tg2, iter, ifs, 0⟩] scope pos2) (wE C (.lc L.x L.t L.it L.cnd ((ownOf c scope).map (·.2)))) := (L.ok C k X o).val o.calm (by rw [o.N]; exact o.nd)
              exact js_set (by rw [o.N]; exact o.nd) (by rw [o.N]; exact h.1) l g j (by rw [swLc_ok (by rw [o.sc]; exact o.kind), o.sc]; simp only [Bool.not_eq_true] at hs; rw [hs])⟩
        | none => badS c _)
      | e => if hc : isComp e = false then match n c e with
          | ⟨x, hx⟩ => ⟨.asg (.nm (c.N.idxOf y)) x, fun C k X o => by
              simp only [Bool.and_eq_true, decide_eq_true_eq] at h
              obtain ⟨l, g⟩ := locB_ok o h.2
              exact js_set (by rw [o.N]; exact o.nd) (by rw [o.N]; exact h.1) l g (hx C k X o).1 (swap_no hc)⟩
        else badS c _
    else badS c _
  | .Tuple ts kt pt => (match e with
    | .Tuple vs kv pv => (match hw : swapB c.sc ts vs with
      | some none => (match cG c (.Tuple ts kt pt), n c (.Tuple vs kv pv) with
        | some ⟨t, ht⟩, ⟨x, hx⟩ => ⟨.asg t x, fun C k X o => js_asg (hx C k X o).1 (ht C k X o) rfl (swapB_ok (by rw [o.sc]; exact o.kind) (by rw [o.sc]; exact hw)) rfl⟩
        | none, _ => badS c _)
      | some (some [y, z]) => (match ts, vs with
        | [.Name y' py, .Name z' pz], [a, b] => if h : (decide (y' = y) && decide (z' = z) && decide (c.N[c.N.idxOf y]? = some y) && decide (c.N[c.N.idxOf z]? = some z) && decide (c.N.idxOf y ≠ c.N.idxOf z) && decide (c.sc.names.lookup y = some .local) && decide (c.sc.names.lookup z = some .local) && noStars [a, b]) = true then
            match cA (n c) [a, b] with
            | ⟨xs, hxs⟩ => ⟨.par [c.N.idxOf y, c.N.idxOf z] xs, fun C k X o => by
                simp only [Bool.and_eq_true, decide_eq_true_eq] at h
                obtain ⟨⟨⟨⟨⟨⟨⟨rfl, rfl⟩, h1⟩, h2⟩, h3⟩, h4⟩, h5⟩, h6⟩ := h
                exact js_par o.calm (by rw [o.N]; exact o.nd) (by rw [o.N]; exact h1) (by rw [o.N]; exact h2) h3 (by rw [o.sc]; exact h4) (by rw [o.sc]; exact h5) (hxs h6 C k X o) (swapB_ok (by rw [o.sc]; exact o.kind) (by rw [o.sc]; exact hw))⟩
          else badS c _
        | _, _ => badS c _)
      | some (some [y, z, w]) => (match ts, vs with
        | [.Name y' py, .Name z' pz, .Name w' pw], [a, b, d] => if h : (decide (y' = y) && decide (z' = z) && decide (w' = w) && decide (c.N[c.N.idxOf y]? = some y) && decide (c.N[c.N.idxOf z]? = some z) && decide (c.N[c.N.idxOf w]? = some w) && decide (c.N.idxOf y ≠ c.N.idxOf z) && decide (c.N.idxOf y ≠ c.N.idxOf w) && decide (c.N.idxOf z ≠ c.N.idxOf w) && decide (c.sc.names.lookup y = some .local) && decide (c.sc.names.lookup z = some .local) && decide (c.sc.names.lookup w = some .local) && noStars [a, b, d]) = true then
            match cA (n c) [a, b, d] with
            | ⟨xs, hxs⟩ => ⟨.par [c.N.idxOf y, c.N.idxOf z, c.N.idxOf w] xs, fun C k X o => by
                simp only [Bool.and_eq_true, decide_eq_true_eq] at h
                obtain ⟨⟨⟨⟨⟨⟨⟨⟨⟨⟨⟨⟨rfl, rfl⟩, rfl⟩, h1⟩, h2⟩, h3⟩, h4⟩, h5⟩, h6⟩, h7⟩, h8⟩, h9⟩, h10⟩ := h
                exact js_par3 o.calm (by rw [o.N]; exact o.nd) (by rw [o.N]; exact h1) (by rw [o.N]; exact h2) (by rw [o.N]; exact h3) h4 h5 h6 (by rw [o.sc]; exact h7) (by rw [o.sc]; exact h8) (by rw [o.sc]; exact h9) (hxs h10 C k X o) (swapB_ok (by rw [o.sc]; exact o.kind) (by rw [o.sc]; exact hw))⟩
          else badS c _
        | _, _ => badS c _)
      | _ => badS c _)
    | e => if h : (isTupE e = false ∧ isComp e = false) then match cG c (.Tuple ts kt pt), n c e with
        | some ⟨t, ht⟩, ⟨x, hx⟩ => ⟨.asg t x, fun C k X o => js_asg (hx C k X o).1 (ht C k X o) h.2 (sw_none h.1) rfl⟩
        | none, _ => badS c _
      else badS c _)
  | .Subscript o i p => if h : (isSlice i = false ∧ isComp e = false) then match n c o, n c i, n c e with
      | ⟨x, hx⟩, ⟨y, hy⟩, ⟨z, hz⟩ => ⟨.setix x y z, fun C k X ok => js_setix (hx C k X ok).1 (hy C k X ok).1 (hz C k X ok).1 h.1 h.2 sw_sub⟩
    else badS c _
  | tg => badS c _
def cSs {c : Co} (f : (st : Stmt) → PSx c st) : (sts : List Stmt) → PSxs c sts
  | [] => ⟨.nil, fun _ _ _ _ => jss_nil⟩
  | st :: r => match f st, cSs f r with
    | ⟨x, hx⟩, ⟨xs, hxs⟩ => ⟨.cons x xs, fun C k X o => jss_cons (hx C k X o) (hxs C k X o)⟩
def cS (d : Nat) : Nat → (c : Co) → (st : Stmt) → PSx c st
  | 0, c, st => badS c st
  | n + 1, c, st => match st with
    | .Expr e pos => if h : isComp e = false then match cE d c e with
        | ⟨x, hx⟩ => ⟨.expr x, fun C k X o => js_expr (hx C k X o).1 h⟩
      else badS c _
    | .Return none pos => ⟨.retN, fun C k X o => js_retN⟩
    | .Return (some e) pos => match cE d c e with
      | ⟨x, hx⟩ => ⟨.ret x, fun C k X o => js_ret (hx C k X o).1⟩
    | .Assign [tg] e pos => cAsg (cE d) c tg e pos
    | .If t a b pos => match cE d c t, cSs (cS d n c) a, cSs (cS d n c) b with
      | ⟨x, hx⟩, ⟨y, hy⟩, ⟨z, hz⟩ => ⟨.ife x y z, fun C k X o => js_ife (hx C k X o).2 (hy C k X o) (hz C k X o)⟩
    | .While t b [] pos => match cE d c t, cSs (cS d n c) b with
      | ⟨x, hx⟩, ⟨y, hy⟩ => ⟨.whil x y, fun C k X o => js_whil o.po (hx C k X o).2 (hy C k X o)⟩
    | .For tg it b [] pos => if h : isSet it = false then match cG c tg, cI (cE d c) tg it, cSs (cS d n c) b with
        | some ⟨t, ht⟩, ⟨i, hi⟩, ⟨y, hy⟩ => ⟨.forr t i y, fun C k X o => js_forr o.po o.calm (hi C k X o) (ht C k X o) (hy C k X o) (fold_no h)⟩
        | none, _, _ => badS c _
      else badS c _
    | .Pass pos => ⟨.pass, fun C k X o => js_pass⟩
    | .Break pos => ⟨.brk, fun C k X o => js_brk⟩
    | .Continue pos => ⟨.cont, fun C k X o => js_cont⟩
    | st => badS c st

/-! ### defs -/
theorem Go.sub {h h1 h2 : Hep} {H H1 : Hp} (g : Go h H h1 H1) (s : Sub h2 h1) : Go h H h2 H1 := ⟨g.fr, g.dm, fun a n e => by
  cases z : h2 a with
  | none => rfl
  | some o =>
    have y := s a o z
    rw [g.nw a n e] at y
    cases y⟩
theorem Sim.sub {K : PySem.W.Frag} {h1 h2 : Hep} {H1 : Hp} (g : Sim K h1 H1) (s : Sub h2 h1) : Sim K h2 H1 := fun a o e => g a o (s a o e)
def scopeB (N ps : List Str) (sc : Scope) : Bool :=
  decide (sc.kind = .function) && !sc.isCoroutine && !sc.isGenerator && decide N.Nodup && decide (N.take ps.length = ps) && (ps.all fun x => decide (sc.names.lookup x = some .local) || decide (sc.names.lookup x = some .cell)) && (sc.names.all fun y => decide (y.2 ≠ .free))
theorem scopeB_ok {N ps : List Str} {sc : Scope} (h : scopeB N ps sc = true) : FnScope N ps sc := by
  unfold scopeB at h
  simp only [Bool.and_eq_true, decide_eq_true_eq, List.all_eq_true, Bool.or_eq_true, Bool.not_eq_true'] at h
  obtain ⟨⟨⟨⟨⟨⟨h1, h2⟩, h3⟩, h4⟩, h5⟩, h6⟩, h7⟩ := h
  exact ⟨h1, h2, h3, h4, h5, h6, h7⟩
def mkCo (fns : List Str) (kcs : List KC) (N : List Str) (sc : Scope) : Co := { N := N, sc := sc, blk := none, fns := fns, kcs := kcs }
/-- a def's body made over -/
def cF (fns : List Str) (kcs : List KC) (N : List Str) (st : Stmt) : Sxs := (cSs (cS 40 20 (mkCo fns kcs N (defScope st))) (defBody st)).1
section
variable {P : Program} {w : World} {K : PySem.W.Frag} {mg : Str → Option Value} {base : Heap}
theorem fok_succ' {T : Str → Option Fc} {k : Nat} {f : Str} {st : Stmt} {N ps fns : List Str} {kcs : List KC} {a : Addr} {fd : FuncData} {code : Fc} (hm : mg f = some (.ref a)) (F : FunD K f f (defArgs st) (defBody st) (defScope st) [] [] a fd)
    (hT : T f = some code) (hc : cF fns kcs N st = code.body) (hp : code.params = ps.length) (hs : code.slots = N.length) (S : scopeB N ps (defScope st) = true)
    (hbl : ∀ x, isBN x = true → mg x = none) (ih : ∀ g ∈ fns, FOk' P w K mg base (Calls T k) k g) (ihk : ∀ q ∈ kcs, FKOk' P w K mg base (Calls T k) k q) : FnOk P w K mg base (CX P w) (k + 1) a fd ps (spC K mg (Calls T (k + 1)) f) := by
  have len : ∀ vs H Q E, spC K mg (Calls T (k + 1)) f vs H Q E → vs.length = ps.length := fun us H Q' E' ⟨vs, h, Q, E, sm, r, c, _, _⟩ => by
    rw [Calls_succ hT] at c
    rw [r.length, c.1, hp]
  refine F.ok (scopeB_ok S) len fun cdv A outer s H us Q' E' hr sp => ?_
  obtain ⟨vs, h, Q, E, sm, r, c, k1, k2⟩ := sp
  rw [Calls_succ hT] at c
  obtain ⟨c1, c⟩ := c
  have S' := scopeB_ok S
  let X : Cx := cxOf (L2.CX P w) P w K mg base N f (defScope st) a cdv A outer s H E'
  have o : CoOk (Calls T k) k (mkCo fns kcs N (defScope st)) X := ⟨ih, ihk, hr, rfl, rfl, S'.nd, rfl, S'.kind, fun _ _ => rfl, passes_of (X := X) (K := fun e s'' => L2.CX P w outer H s E' e s'') (E₁ := fun e' s'' => L2.CX P w outer H s E' e' s'') rfl, hbl⟩
  have j := (cSs (cS 40 20 (mkCo fns kcs N (defScope st))) (defBody st)).2 (Calls T k) k X o
  refine ⟨_, j, ?_⟩
  have tk : Takes X (fun cls d _ H' => E' cls d H') := takes_of (X := X) (E := E') rfl rfl rfl (E₁ := fun e' s'' => L2.CX P w outer H s E' e' s'') rfl
  refine ⟨startE code.slots vs, h, { nx := fun _ h1 => Dr h1 (Q .non), rt := fun v h1 => Dr h1 (Q v), bk := fun _ _ => False, ct := fun _ _ => False }, fun x _ h1 => Dr h1 (E x), Takes.imp tk fun cls d σ' H' ⟨env', ex, h', g, s', rv', rx, h2, sb, q⟩ => k2 _ _ _ ⟨ex, h2, g.sub sb, s'.sub sb, rx, q⟩, sm, ?_, ?_, ⟨fun σ' H' ⟨e1, h1, g1, s1, r1, h2, sb, q1⟩ => k1 _ _ ⟨.non, h2, g1.sub sb, s1.sub sb, rfl, q1⟩, fun u H' ⟨v, h1, g1, s1, r1, h2, sb, q1⟩ => k1 _ _ ⟨v, h2, g1.sub sb, s1.sub sb, r1, q1⟩, fun _ _ ⟨_, _, _, _, _, z⟩ => z.elim, fun _ _ ⟨_, _, _, _, _, z⟩ => z.elim⟩⟩
  · -- the slots at the entry
    have lr := r.length
    refine ⟨?_, fun i v e => ?_⟩
    · unfold startE L2.start
      rw [List.length_append, List.length_append, List.length_map, List.length_map, List.length_replicate, List.length_replicate, hs, lr]
    · unfold startE at e
      unfold L2.start
      by_cases hi : i < vs.length
      · rw [List.getElem?_append_left (by simpa using hi), List.getElem?_map] at e
        cases z : vs[i]? with
        | none => rw [z] at e; cases e
        | some y =>
          rw [z] at e
          cases e
          obtain ⟨u, h1, h2⟩ := r.get z
          refine ⟨u, ?_, h2⟩
          rw [List.getElem?_append_left (by rw [List.length_map, lr]; exact hi), List.getElem?_map, h1]
          rfl
      · rw [List.getElem?_append_right (by simpa using hi), List.getElem?_replicate] at e
        split at e <;> cases e
  · show wSs (Calls T k) (cF fns kcs N st) (startE code.slots vs) h _ _
    rw [hc]
    exact c
end
end KM
/-! KMN: a table of defs; from the law's want to the row. -/
namespace KM
open PySem PySem.Spec PyProof.Rows L2

structure Ent where
  f : Str
  st : Stmt
  N : List Str
  ps : List Str
  code : Sxs
def AllP {α : Type} (P : α → Prop) : List α → Prop
  | [] => True
  | x :: r => P x ∧ AllP P r
theorem AllP.mem {α : Type} {P : α → Prop} : ∀ {l : List α}, AllP P l → ∀ x ∈ l, P x
  | _ :: _, ⟨a, b⟩, x, h => by
    rcases List.mem_cons.mp h with rfl | h
    · exact a
    · exact AllP.mem b x h
def tblOf (tb : List Ent) (f : Str) : Option Fc := (tb.find? fun e => decide (e.f = f)).map fun e => ⟨e.ps.length, e.N.length, e.code⟩
/-- what is checked of a def's entry -/
structure EntOk (fns : List Str) (kcs : List KC) (T : Str → Option Fc) (e : Ent) : Prop where
  code : cF fns kcs e.N e.st = e.code
  scope : scopeB e.N e.ps (defScope e.st) = true
  tbl : T e.f = some ⟨e.ps.length, e.N.length, e.code⟩
  bind : ∀ (kV doc pm : Value) (an : Option Addr) (cdv ct : Value) (us : List Value), us.length = e.ps.length → bindArgs (PySem.W.fnOf e.f e.f (defArgs e.st) (defBody e.st) (defScope e.st) .none kV doc pm an cdv ct) ⟨us, []⟩ = pure (e.ps.zip us)
/-- .. of a call by keywords -/
def KcOk (tb : List Ent) (q : KC) : Prop := ∃ e ∈ tb, e.f = q.f ∧ ∀ (kV doc pm : Value) (an : Option Addr) (cdv ct : Value) (ws : List Value), ws.length = q.ks.length →
  bindArgs (PySem.W.fnOf e.f e.f (defArgs e.st) (defBody e.st) (defScope e.st) .none kV doc pm an cdv ct) ⟨[], q.ks.zip ws⟩ = pure (e.ps.zip (permL q.perm ws))
section
variable {P : Program} {w : World} {K : PySem.W.Frag} {mg : Str → Option Value} {base : Heap} {tb : List Ent} {kcs : List KC}
abbrev FnE (K : PySem.W.Frag) (mg : Str → Option Value) (e : Ent) (a : Addr) (fd : FuncData) : Prop := mg e.f = some (.ref a) ∧ FunD K e.f e.f (defArgs e.st) (defBody e.st) (defScope e.st) [] [] a fd
theorem FunD.bindK {x qual : Str} {params : Arguments} {body : List Stmt} {scope : Scope} {f : Addr} {fd : FuncData} {ps ks : List Str} {perm : List Nat} (F : FunD K x qual params body scope [] [] f fd)
    (h : ∀ (kV doc pm : Value) (an : Option Addr) (cdv ct : Value) (ws : List Value), ws.length = ks.length → bindArgs (PySem.W.fnOf x qual params body scope .none kV doc pm an cdv ct) ⟨[], ks.zip ws⟩ = pure (ps.zip (permL perm ws))) :
    KBn K fd ps 0 ks (fun us ws => permL perm (us ++ ws)) (fun vs zs => permL perm (vs ++ zs)) := by
  obtain ⟨oc, od, dV, kV, doc, pm, an, cdv, ct, osl, rfl, lk, hcd, hD, hK⟩ := F.ex
  rcases hD with ⟨_, rfl⟩ | ⟨e, _⟩
  · refine ⟨fun s us ws _ h1 h2 => ?_, fun {vs us zs ws} r1 r2 => permL_vals (r1.append r2) perm⟩
    rw [List.eq_nil_of_length_eq_zero h1, List.nil_append]
    exact .of_eq (h kV doc pm an cdv ct ws h2)
  · exact absurd rfl e
theorem tb_fns (hbl : ∀ x, isBN x = true → mg x = none) (hF : ∀ e ∈ tb, ∃ a fd, FnE K mg e a fd) (hE : ∀ e ∈ tb, EntOk (tb.map (·.f)) kcs (tblOf tb) e) (hK : ∀ q ∈ kcs, KcOk tb q) :
    ∀ k, (∀ e ∈ tb, ∀ a fd, FnE K mg e a fd → FnOk P w K mg base (CX P w) k a fd e.ps (spC K mg (Calls (tblOf tb) k) e.f)) := by
  have bs : ∀ e ∈ tb, ∀ a fd, FnE K mg e a fd → Binds K fd e.ps [] := fun e he a fd F => F.2.bindsN (hE e he).bind
  intro k
  induction k with
  | zero =>
    intro e he a fd F
    exact ⟨fun _ _ _ _ ⟨_, _, _, _, _, _, z, _⟩ => (Calls_zero z).elim, fun _ _ _ _ _ _ _ _ _ _ _ _ _ ⟨_, _, _, _, _, _, z, _⟩ => (Calls_zero z).elim⟩
  | succ k ih =>
    intro e he a fd F
    have i1 : ∀ g ∈ tb.map (·.f), FOk' P w K mg base (Calls (tblOf tb) k) k g := by
      intro g hg
      obtain ⟨e', he', rfl⟩ := List.mem_map.mp hg
      obtain ⟨a', fd', F'⟩ := hF e' he'
      exact ⟨a', fd', e'.ps, F'.1, F'.2.kp, ih e' he' a' fd' F', bs e' he' a' fd' F'⟩
    have i2 : ∀ q ∈ kcs, FKOk' P w K mg base (Calls (tblOf tb) k) k q := by
      intro q hq
      obtain ⟨e', he', e1, hb⟩ := hK q hq
      obtain ⟨a', fd', F'⟩ := hF e' he'
      exact ⟨a', fd', e'.ps, by rw [← e1]; exact F'.1, F'.2.kp, by rw [← e1]; exact ih e' he' a' fd' F', FunD.bindK F'.2 hb⟩
    exact (fok_succ' (P := P) (w := w) (base := base) (T := tblOf tb) (k := k) F.1 F.2 (hE e he).tbl (hE e he).code rfl rfl (hE e he).scope hbl i1 i2)
/-! ### the law -/
theorem cx_no {s : Shared} {H : Hp} {e : Value} {s' : Shared} (h : L2.CX P w [] H s (fun _ _ _ => False) e s') : False := by
  obtain ⟨_, _, _, _, _, _, _, _, _, _, _, _, z⟩ := h
  exact z.elim
end
theorem walk_km {l : PySem.W.OpenLaw} {n k : Nat} {q : Program} {loose : List Str} {XP : (Str → Option Value) → Heap → Prop} {YP : World → Heap → Prop} {d : DefRec} {x : Str}
    (hn : l.most = some n) (hn2 : n ≤ sizeLine) (hdf : d.params.defaults = []) (hr : Room k callerA)
    (F : ∀ (w : World) (mg : Str → Option Value) (fa : Addr) (h : Heap), YP w h → h.Ns mainGlobals mg → mg d.name = some (.ref fa) →
      ∃ (K : PySem.W.Frag) (fd : FuncData) (sp : Sp), K.In h ∧ (∀ (s : Shared) (u : Value), BindsTo s fd ⟨[u], []⟩ [(x, u)]) ∧
        (∀ (H : Hp) (a : Addr) (ns : List Int), ns.length ≤ n → Only H → SqL K H a (ns.map V.int) → sp [.ref a] H (fun v _ => v = .bl true) fun _ _ _ => False) ∧
        ∀ base : Heap, K.In base → base.Ns mainGlobals mg → FnOk l.prog w K mg base (L2.CX l.prog w) k fa fd [x] sp) :
    PySem.W.WalkO q loose XP YP l.row.toRowW d [] (fun f vs => PySem.call f vs) := by
  refine Att.attach_call hn hdf fun w s₀ s₁ mg mb fa o pm cd doc a vs ns G Y ho hd hcd hmg hobj hints hlen hg => ?_
  obtain ⟨K, fd, sp, KX, hb, hsp, hF⟩ := F w mg fa _ Y G.T.g hmg
  exact law_call KX G.T.g G.T.b G.T.builtins G.T.nolimit hg hobj hints (Nat.le_trans hlen hn2) hr hF hb (fun H hO hS => hsp H a ns hlen hO hS) fun H e s' => cx_no
def faOf (tb : List Ent) : List He.Fa := tb.map (fun e => He.Fa.glo e.f) ++ bNames.map He.Fa.free
def fnOf (tb : List Ent) : List He.DefD := tb.map fun e => ⟨(e.f, none), e.f, e.f, defArgs e.st, defBody e.st, defScope e.st, [], []⟩
theorem walk_tb {l : PySem.W.OpenLaw} {k m : Nat} {q : Program} {loose : List Str} {XP : (Str → Option Value) → Heap → Prop} {d : DefRec} {x : Str} {tb : List Ent} {kcs : List KC} {e0 : Ent}
    (hn : l.most = some 63) (hdf : d.params.defaults = []) (hr : Room k callerA) (he0 : e0 ∈ tb) (hname : d.name = e0.f) (hps : e0.ps = [x])
    (hE : ∀ e ∈ tb, EntOk (tb.map (·.f)) kcs (tblOf tb) e) (hK : ∀ q ∈ kcs, KcOk tb q)
    (law : ∀ ns : List Int, ns.length ≤ 63 → Calls (tblOf tb) k e0.f [.rom (ns.map Val.int)] (fun _ => none) (fun v _ => v = .bl true) (fun _ _ => False)) :
    PySem.W.WalkO q loose XP (He.hookD m (faOf tb) (fnOf tb)).says l.row.toRowW d [] (fun f vs => PySem.call f vs) := by
  refine walk_km (n := 63) (k := k) (x := x) hn (by rw [sizeLine_eq]; decide) hdf hr fun w mg fa h Y G hmg => ?_
  obtain ⟨K, KX, c⟩ := Y
  have hF : ∀ e ∈ tb, ∃ a fd, FnE K mg e a fd := by
    intro e he
    obtain ⟨i, hi⟩ := List.getElem?_of_mem he
    have h1 : (faOf tb)[i]? = some (.glo e.f) := by
      unfold faOf
      rw [List.getElem?_append_left (by rw [List.length_map]; exact (List.getElem?_eq_some_iff.mp hi).1), List.getElem?_map, hi]
      rfl
    have h2 : (fnOf tb)[i]? = some ⟨(e.f, none), e.f, e.f, defArgs e.st, defBody e.st, defScope e.st, [], []⟩ := by
      unfold fnOf
      rw [List.getElem?_map, hi]
      rfl
    obtain ⟨fd, F⟩ := c.def_ i h2
    exact ⟨_, fd, He.glo_ok KX G (c.fact i h1), F⟩
  have hbl : ∀ x, isBN x = true → mg x = none := by
    intro y hy
    have hm : y ∈ bNames := by
      unfold isBN at hy
      exact List.contains_iff_mem.mp hy
    obtain ⟨i, hi⟩ := List.getElem?_of_mem hm
    have h1 : (faOf tb)[tb.length + i]? = some (.free y) := by
      unfold faOf
      rw [List.getElem?_append_right (by rw [List.length_map]; omega), List.length_map, Nat.add_sub_cancel_left, List.getElem?_map, hi]
      rfl
    exact He.free_ok KX G (c.fact _ h1)
  obtain ⟨a0, fd0, F0⟩ := hF e0 he0
  have e : fa = a0 := by
    rw [hname, F0.1] at hmg
    cases hmg
    rfl
  subst e
  refine ⟨K, fd0, spC K mg (Calls (tblOf tb) k) e0.f, KX, fun s u => ?_, fun H a ns hl hO hS => ?_, fun base _ _ => ?_⟩
  · have z := F0.2.bindsA (hE e0 he0).bind s [u] (by rw [hps]; rfl)
    rw [hps] at z
    exact z
  · refine ⟨[.rom (ns.map Val.int)], fun _ => none, _, _, (fun _ _ e => by cases e), ⟨_, [], rfl, ⟨a, ns.map V.int, rfl, ?_, RVs.of_ints ns⟩, rfl⟩, law ns hl, ?_, ?_⟩
    · rcases hS with (h | ⟨o, h⟩) | h
      · rcases hO a with z | ⟨o, xs, z⟩
        · rw [z] at h; cases h
        · rw [z] at h; cases h
      · exact .inl ⟨o, h⟩
      · exact .inr h
    · rintro u H' ⟨v, h', _, _, r, rfl⟩
      exact r
    · rintro cls dd H' ⟨_, _, _, _, _, z⟩
      exact z.elim
  · rw [← hps]
    exact tb_fns hbl hF hE hK k e0 he0 _ fd0 F0
end KM
/-! KMS: what the laws' own helpers do: draws, copies, sameness. -/
namespace KM
open PySem PySem.Spec PyProof.Rows L2

def c__law_draw : Sxs := .cons (.setix (.var 0) (.int 2) (.bin .Add (.ix (.var 0) (.int 2)) (.int 1))) (.cons (.whil (.and (.cmp .Eq (.ix (.var 0) (.int 1)) (.int 0)) (.cmp .NotEq (.ix (.var 0) (.int 0)) (.lst .nil))) (.cons (.asg (.nm 2) (.bi .abs (.cons (.mth .pop (.ix (.var 0) (.int 0)) (.cons (.int 0) .nil)) .nil))) (.cons (.setix (.var 0) (.int 3) (.bin .Mod (.bi .int (.cons (.bin .Add (.bin .Add (.bin .Mult (.ix (.var 0) (.int 3)) (.int 8191)) (.var 2)) (.int 3)) .nil)) (.int 2147483647))) (.cons (.setix (.var 0) (.int 1) (.ife (.cmp .GtE (.var 2) (.bin .Pow (.int 10) (.int 18))) (.var 2) (.int 0))) .nil)))) (.cons (.ife (.cmp .Gt (.ix (.var 0) (.int 1)) (.int 0)) (.cons (.asg (.nm 3) (.bin .Mod (.bi .int (.cons (.ix (.var 0) (.int 1)) .nil)) (.var 1))) (.cons (.setix (.var 0) (.int 1) (.bin .FloorDiv (.ix (.var 0) (.int 1)) (.var 1))) (.cons (.ret (.var 3)) .nil))) .nil) (.cons (.asg (.nm 4) (.bin .Mod (.bi .int (.cons (.bin .Pow (.bin .Add (.bin .Add (.ix (.var 0) (.int 3)) (.bin .Mult (.int 7919) (.ix (.var 0) (.int 2)))) (.int 104729)) (.int 5)) .nil)) (.int 2147483629))) (.cons (.ret (.bin .Mod (.bin .Mod (.bi .int (.cons (.bin .Pow (.bin .Add (.bin .Add (.bin .Mult (.var 4) (.int 48271)) (.bin .Mult (.int 30011) (.ix (.var 0) (.int 2)))) (.int 29)) (.int 3)) .nil)) (.int 1000000007)) (.var 1))) .nil))))

/-! ### views -/
theorem Sub.at {h h' : Hep} (s : Sub h h') {a : Addr} {o : Ob} (e : h a = some o) : h' a = some o := s a o e
theorem Sub.new {h h' : Hep} (s : Sub h h') {p : Addr} {o : Ob} (n : h' p = none) : Sub h (hset h' p o) := fun a ob e => by
  have z : a ≠ p := fun y => by subst y; rw [s _ _ e] at n; cases n
  rw [hset_ne z]; exact s a ob e
theorem Sub.set {h h' : Hep} (s : Sub h h') (p : Addr) (o : Ob) : Sub (hset h p o) (hset h' p o) := fun a ob e => by
  by_cases z : a = p
  · subst z; rw [hset_same] at e ⊢; exact e
  · rw [hset_ne z] at e ⊢; exact s a ob e

/-! ### the stream of draws -/
structure Strm where
  a : Addr
  b : Addr
  cells : List Int
  d : Int
  n : Int
  m : Int
def Strm.on (S : Strm) (h : Hep) : Hep := hset (hset h S.b (.lst (S.cells.map Val.int))) S.a (.lst [.ref S.b, .int S.d, .int S.n, .int S.m])
structure Strm.Ok (S : Strm) (h : Hep) (left : Nat) : Prop where
  ab : S.a ≠ S.b
  ha : h S.a = none
  hb : h S.b = none
  d0 : 0 ≤ S.d
  n0 : 0 ≤ S.n
  nb : S.n + left ≤ 1000000000
  m0 : 0 ≤ S.m
  m1 : S.m < 2147483647
  len : S.cells.length ≤ 63
/-- the same list, drawn from -/
def Strm.Same (S S' : Strm) : Prop := S'.a = S.a ∧ S'.b = S.b
theorem Strm.at_a {S : Strm} {h : Hep} : S.on h S.a = some (.lst [.ref S.b, .int S.d, .int S.n, .int S.m]) := hset_same
theorem Strm.at_b {S : Strm} {h : Hep} (ab : S.a ≠ S.b) : S.on h S.b = some (.lst (S.cells.map Val.int)) := by
  unfold Strm.on
  rw [hset_ne (Ne.symm ab), hset_same]
theorem Sub.a {S : Strm} {h g : Hep} (s : Sub (S.on h) g) : g S.a = some (.lst [.ref S.b, .int S.d, .int S.n, .int S.m]) := s _ _ Strm.at_a
theorem Sub.b {S : Strm} {h g : Hep} (s : Sub (S.on h) g) (ab : S.a ≠ S.b) : g S.b = some (.lst (S.cells.map Val.int)) := s _ _ (Strm.at_b ab)
theorem Sub.seta {S : Strm} {h g : Hep} (s : Sub (S.on h) g) {d n m : Int} : Sub ({ S with d := d, n := n, m := m }.on h) (hset g S.a (.lst [.ref S.b, .int d, .int n, .int m])) := fun x o e => by
  unfold Strm.on at e s
  by_cases z : x = S.a
  · subst z
    rw [hset_same] at e ⊢
    exact e
  · rw [hset_ne z] at e ⊢
    exact s x o (by rw [hset_ne z]; exact e)
theorem Sub.setb {S : Strm} {h g : Hep} (s : Sub (S.on h) g) (ab : S.a ≠ S.b) {cs : List Int} : Sub ({ S with cells := cs }.on h) (hset g S.b (.lst (cs.map Val.int))) := fun x o e => by
  unfold Strm.on at e s
  by_cases z : x = S.a
  · subst z
    rw [hset_same] at e
    rw [hset_ne ab]
    cases e
    exact s _ _ (by rw [hset_same])
  · rw [hset_ne z] at e
    by_cases y : x = S.b
    · subst y
      rw [hset_same] at e ⊢
      exact e
    · rw [hset_ne y] at e ⊢
      exact s x o (by rw [hset_ne z, hset_ne y]; exact e)
theorem datN_ints (n : Nat) (h : Hep) : ∀ cs : List Int, (cs.map Val.int).mapM (datN n h) = some (cs.map PyData.int)
  | [] => rfl
  | c :: cs => by
    rw [List.map_cons, List.mapM_cons, datN_ints n h cs]
    cases n <;> rfl
theorem datN_lst {n : Nat} {h : Hep} {a : Addr} {xs : List Val} {ds : List PyData} (e : h a = some (.lst xs)) (m : xs.mapM (datN n h) = some ds) : datN (n + 1) h (.ref a) = some (.list ds) := by
  simp only [datN, e, m]
  rfl
theorem shaped_ints : ∀ cs : List Int, SeqAt.shaped (.list (cs.map PyData.int)) = true := by
  have h1 : ∀ cs : List Int, PyData.canLayAll0 (cs.map PyData.int) = true := by
    intro cs
    induction cs with
    | nil => rfl
    | cons c cs ih => rw [List.map_cons]; simp only [PyData.canLayAll0, PyData.canLay0, ih]; rfl
  have h2 : ∀ cs : List Int, PyData.depthAll (cs.map PyData.int) = 0 := by
    intro cs
    induction cs with
    | nil => rfl
    | cons c cs ih => rw [List.map_cons]; simp only [PyData.depthAll, PyData.depth, ih]; rfl
  intro cs
  unfold SeqAt.shaped
  simp only [PyData.canLay0, h1, PyData.depth, h2]
  rfl
theorem cp_small {i j : Int} (h0 : 0 ≤ i) (h1 : i < 18446744073709551616) (h2 : 0 ≤ j) (h3 : j ≤ 1000) : CPow i j := ⟨h2, by omega, by omega⟩
theorem mulw_small {i j : Int} (h : i.natAbs < 2 ^ 64) (h' : j.natAbs < 2 ^ 64) : CMulW i j := wide_mul h h' (by decide) (by decide) (by decide)

theorem ifT {c : Bool} {A B : Prop} (h : c = true) (a : A) : if c = true then A else B := by rw [if_pos h]; exact a
theorem ifF {c : Bool} {A B : Prop} (h : c = false) (a : B) : if c = true then A else B := by rw [h]; exact a
theorem nT {c : Bool} {A B : Prop} (h : c = true ∧ A) : if c = true then A else B := ifT h.1 h.2
theorem nF {c : Bool} {A B : Prop} (h : c = false ∧ B) : if c = true then A else B := ifF h.1 h.2
theorem fmod_pos {x m : Int} (h : 0 < m) : 0 ≤ x.fmod m ∧ x.fmod m < m := by
  rw [Int.fmod_eq_emod_of_nonneg x (Int.le_of_lt h)]
  exact ⟨Int.emod_nonneg x (by omega), Int.emod_lt_of_pos x h⟩
theorem onD_list {h : Hep} {a : Addr} {P : PyData → Prop} {xs : List Val} {ds : List PyData} (e : h a = some (.lst xs)) (m : xs.mapM (datN 19 h) = some ds) (s : SeqAt.shaped (.list ds) = true) (p : P (.list ds)) : onD h (.ref a) P := onD_in (datN_lst e m) s p
def c_draw_end : Sxs := .cons (.ife (.cmp .Gt (.ix (.var 0) (.int 1)) (.int 0)) (.cons (.asg (.nm 3) (.bin .Mod (.bi .int (.cons (.ix (.var 0) (.int 1)) .nil)) (.var 1))) (.cons (.setix (.var 0) (.int 1) (.bin .FloorDiv (.ix (.var 0) (.int 1)) (.var 1))) (.cons (.ret (.var 3)) .nil))) .nil) (.cons (.asg (.nm 4) (.bin .Mod (.bi .int (.cons (.bin .Pow (.bin .Add (.bin .Add (.ix (.var 0) (.int 3)) (.bin .Mult (.int 7919) (.ix (.var 0) (.int 2)))) (.int 104729)) (.int 5)) .nil)) (.int 2147483629))) (.cons (.ret (.bin .Mod (.bin .Mod (.bi .int (.cons (.bin .Pow (.bin .Add (.bin .Add (.bin .Mult (.var 4) (.int 48271)) (.bin .Mult (.int 30011) (.ix (.var 0) (.int 2)))) (.int 29)) (.int 3)) .nil)) (.int 1000000007)) (.var 1))) .nil))
theorem draw_end {C : CalT} {S S1 : Strm} {many : Int} {h g : Hep} {b : Nat} {Q : VQ} {E : XE'} {x : Option Val} (ok1 : S1.Ok h b) (sm : S.Same S1) (sb : Sub (S1.on h) g) (m0 : 0 < many) (m1 : many.natAbs.log2 < 9000)
    (q : ∀ (d : Int) (S' : Strm), S.Same S' → S'.Ok h b → 0 ≤ d → d < many → Q (.int d) (S'.on h)) :
    wSs C c_draw_end [some (.ref S.a), some (.int many), x, none, none] g { nx := fun _ h1 => Dr h1 (Q .non), rt := fun v h1 => Dr h1 (Q v), bk := fun _ _ => False, ct := fun _ _ => False } E := by
  obtain ⟨ea, eb⟩ := sm
  obtain ⟨Sa, Sb, Sc, Sd, Sn, Sm'⟩ := S
  obtain ⟨S1a, S1b, S1c, S1d, S1n, S1m⟩ := S1
  dsimp only at ea eb
  subst ea
  subst eb
  have sa := sb.a
  dsimp only at sa
  have k0 := ok1.d0
  have k1 := ok1.n0
  have k2 := ok1.nb
  have k3 := ok1.m0
  have k4 := ok1.m1
  dsimp only at k0 k1 k2 k3 k4
  refine onL_in sa ?_
  by_cases d0 : 0 < S1d
  · refine ifT (decide_eq_true d0) ?_
    refine onL_in sa ?_
    refine ⟨by omega, ?_⟩
    refine onL_in sa ?_
    refine ⟨⟨by omega, m1⟩, ?_⟩
    refine onL_in sa ?_
    have z := fmod_pos (x := S1d) m0
    have hd : 0 ≤ S1d.fdiv many := by
      rw [Int.fdiv_eq_ediv_of_nonneg _ (by omega)]
      exact Int.ediv_nonneg k0 (by omega)
    have s2 := sb.seta (d := S1d.fdiv many) (n := S1n) (m := S1m)
    exact ⟨_, s2, q _ ⟨S1a, S1b, S1c, S1d.fdiv many, S1n, S1m⟩ ⟨rfl, rfl⟩ ⟨ok1.ab, ok1.ha, ok1.hb, hd, k1, k2, k3, k4, ok1.len⟩ z.1 z.2⟩
  · refine ifF (decide_eq_false d0) ?_
    refine onL_in sa ?_
    refine onL_in sa ?_
    refine ⟨mulw_small (by decide) (by show S1n.natAbs < 2 ^ 64; omega), ?_⟩
    refine ⟨cp_small (by omega) (by omega) (by decide) (by decide), by decide, ?_⟩
    generalize hv : Int.fmod _ _ = v
    have z : 0 ≤ v ∧ v < 2147483629 := by rw [← hv]; exact fmod_pos (by decide)
    refine ⟨mulw_small (by show v.natAbs < 2 ^ 64; omega) (by decide), ?_⟩
    refine onL_in sa ?_
    refine ⟨mulw_small (by decide) (by show S1n.natAbs < 2 ^ 64; omega), ?_⟩
    refine ⟨cp_small (by omega) (by omega) (by decide) (by decide), by decide, by omega, ?_⟩
    have z2 : ∀ y : Int, 0 ≤ y.fmod many ∧ y.fmod many < many := fun y => fmod_pos m0
    exact ⟨_, sb, q _ _ ⟨rfl, rfl⟩ ok1 (z2 _).1 (z2 _).2⟩
/-- a draw -/
theorem draw_ok {T : Str → Option Fc} (hT : T "_law_draw" = some ⟨2, 5, c__law_draw⟩) {k : Nat} {S : Strm} {many : Int} {h : Hep} {b : Nat} {Q : VQ} {E : XQ} (ok : S.Ok h (b + 1)) (m0 : 0 < many) (m1 : many.natAbs.log2 < 9000)
    (q : ∀ (d : Int) (S' : Strm), S.Same S' → S'.Ok h b → 0 ≤ d → d < many → Q (.int d) (S'.on h)) : Calls T (k + 1) "_law_draw" [.ref S.a, .int many] (S.on h) Q E := by
  refine Calls_eq [some (.ref S.a), some (.int many), none, none, none] hT rfl rfl ?_
  have nb := ok.nb
  have n0 := ok.n0
  have mm0 := ok.m0
  have mm1 := ok.m1
  -- stream[2] = stream[2] + 1
  refine onL_in Strm.at_a ?_
  refine onL_in Strm.at_a ?_
  -- the cells taken
  refine ⟨fun m env g => ∃ (S1 : Strm) (x : Option Val), S.Same S1 ∧ S1.Ok h b ∧ env = [some (.ref S.a), some (.int many), x, none, none] ∧ Sub (S1.on h) g ∧ m = S1.cells.length,
    ⟨_, { S with n := S.n + 1 }, none, ⟨rfl, rfl⟩, ⟨ok.ab, ok.ha, ok.hb, ok.d0, by show 0 ≤ S.n + 1; omega, by show S.n + 1 + b ≤ _; omega, mm0, mm1, ok.len⟩, rfl, (Sub.refl _).seta (d := S.d) (n := S.n + 1) (m := S.m), rfl⟩, ?_⟩
  clear nb n0 mm0 mm1 ok
  rintro m env g ⟨S1, x, ⟨ea, eb⟩, ok1, rfl, sb, rfl⟩
  obtain ⟨Sa, Sb, Sc, Sd, Sn, Sm'⟩ := S
  obtain ⟨S1a, S1b, S1c, S1d, S1n, S1m⟩ := S1
  dsimp only at ea eb
  subst ea
  subst eb
  have sa := sb.a
  dsimp only at sa
  have k0 := ok1.d0
  have k1 := ok1.n0
  have k2 := ok1.nb
  have k3 := ok1.m0
  have k4 := ok1.m1
  dsimp only at k0 k1 k2 k3 k4
  refine onL_in sa ?_
  by_cases d0 : S1d = 0
  · refine ifT (decide_eq_true d0) ?_
    refine onL_in sa ?_
    refine newL_in fun p np => ?_
    have sp := sb.new (o := .lst []) np
    have spa := sp.a
    dsimp only at spa
    refine onD_list (sp.b ok1.ab) (datN_ints _ _ _) (shaped_ints _) ?_
    refine onD_list hset_same (datN_ints _ _ []) (shaped_ints []) ?_
    cases hc : S1c with
    | nil =>
      refine ifF rfl ?_
      exact draw_end ok1 ⟨rfl, rfl⟩ sp m0 m1 q
    | cons c cs =>
      refine ifT rfl ?_
      have spb := sp.b ok1.ab
      rw [hc] at spb
      -- cell = abs(stream[0].pop(0))
      refine onL_in spa ?_
      refine ⟨onL_in spb trivial, onL_in spb ⟨rfl, ?_⟩⟩
      have s1 := sp.setb ok1.ab (cs := cs)
      have s1a := s1.a
      dsimp only at s1a
      -- stream[3] = ..
      refine onL_in s1a ?_
      refine ⟨mulw_small (by show S1m.natAbs < 2 ^ 64; omega) (by decide), by decide, ?_⟩
      refine onL_in s1a ?_
      generalize hm' : Int.fmod _ _ = m'
      have hm2 := fmod_pos (x := S1m * 8191 + (if c < 0 then -c else c) + 3) (m := 2147483647) (by decide)
      have em : Int.fmod (S1m * 8191 + (if c < 0 then -c else c) + 3) 2147483647 = m' := hm'
      rw [em] at hm2
      have s2 := s1.seta (d := S1d) (n := S1n) (m := m')
      have s2a := s2.a
      dsimp only at s2a
      have okm : ∀ d : Int, 0 ≤ d → (⟨S1a, S1b, cs, d, S1n, m'⟩ : Strm).Ok h b := fun d hd => ⟨ok1.ab, ok1.ha, ok1.hb, hd, k1, k2, hm2.1, hm2.2, by
        have z : S1c.length ≤ 63 := ok1.len
        rw [hc, List.length_cons] at z
        show cs.length ≤ 63
        omega⟩
      refine ⟨⟨by decide, by decide, by decide⟩, ?_⟩
      by_cases hg : (10 : Int) ^ (18 : Int).toNat ≤ (if c < 0 then -c else c)
      · refine ifT (decide_eq_true hg) ?_
        refine onL_in s2a ?_
        have s3 := s2.seta (d := if c < 0 then -c else c) (n := S1n) (m := m')
        exact ⟨_, by rw [List.length_cons]; exact Nat.lt_succ_self _, ⟨S1a, S1b, cs, if c < 0 then -c else c, S1n, m'⟩, _, ⟨rfl, rfl⟩, okm _ (by split <;> omega), rfl, s3, rfl⟩
      · refine ifF (decide_eq_false hg) ?_
        refine onL_in s2a ?_
        have s3 := s2.seta (d := 0) (n := S1n) (m := m')
        exact ⟨_, by rw [List.length_cons]; exact Nat.lt_succ_self _, ⟨S1a, S1b, cs, 0, S1n, m'⟩, _, ⟨rfl, rfl⟩, okm _ (by omega), rfl, s3, rfl⟩
  · refine ifF (decide_eq_false d0) ?_
    refine ifF rfl ?_
    exact draw_end ok1 ⟨rfl, rfl⟩ sb m0 m1 q
/-- any view that holds the stream is the stream over a view -/
theorem Strm.split {S : Strm} {h g : Hep} {n : Nat} (ok : S.Ok h n) (sb : Sub (S.on h) g) : ∃ h', g = S.on h' ∧ Sub h h' ∧ S.Ok h' n := by
  refine ⟨fun x => if x = S.a ∨ x = S.b then none else g x, ?_, fun x o e => ?_, ⟨ok.ab, by simp, by simp, ok.d0, ok.n0, ok.nb, ok.m0, ok.m1, ok.len⟩⟩
  · funext x
    unfold Strm.on
    by_cases z : x = S.a
    · subst z
      rw [hset_same]
      exact sb.a
    · rw [hset_ne z]
      by_cases y : x = S.b
      · subst y
        rw [hset_same]
        exact sb.b ok.ab
      · rw [hset_ne y]
        simp [z, y]
  · have za : x ≠ S.a := fun z => by subst z; rw [ok.ha] at e; cases e
    have zb : x ≠ S.b := fun z => by subst z; rw [ok.hb] at e; cases e
    show (if x = S.a ∨ x = S.b then none else g x) = _
    rw [if_neg (by simp [za, zb])]
    exact sb x o (by unfold Strm.on; rw [hset_ne za, hset_ne zb]; exact e)
theorem Strm.Ok.le {S : Strm} {h : Hep} {n m : Nat} (ok : S.Ok h n) (l : m ≤ n) : S.Ok h m := ⟨ok.ab, ok.ha, ok.hb, ok.d0, ok.n0, by have := ok.nb; omega, ok.m0, ok.m1, ok.len⟩
theorem Strm.sub {S : Strm} {h h' : Hep} (s : Sub h h') : Sub (S.on h) (S.on h') := (s.set _ _).set _ _
theorem Strm.under {S : Strm} {h : Hep} {n : Nat} (ok : S.Ok h n) : Sub h (S.on h) := fun x o e => by
  have za : x ≠ S.a := fun z => by subst z; rw [ok.ha] at e; cases e
  have zb : x ≠ S.b := fun z => by subst z; rw [ok.hb] at e; cases e
  unfold Strm.on
  rw [hset_ne za, hset_ne zb]
  exact e

/-! ### data that is read -/
inductive D where
  | non | bl (b : Bool) | int (i : Int) | str (x : Str) | lst (ds : List D) | tup (ds : List D)
  deriving Inhabited
mutual
/-- v reads as this, in the view h -/
def Rd (h : Hep) : D → Val → Prop
  | .non, v => v = .non
  | .bl b, v => v = .bl b
  | .int i, v => v = .int i
  | .str x, v => v = .str x
  | .lst ds, v => ∃ a xs, v = .ref a ∧ h a = some (.lst xs) ∧ Rds h ds xs
  | .tup ds, v => ∃ xs, v = .tup xs ∧ Rds h ds xs
def Rds (h : Hep) : List D → List Val → Prop
  | [], vs => vs = []
  | d :: ds, vs => ∃ v r, vs = v :: r ∧ Rd h d v ∧ Rds h ds r
end
mutual
theorem Rd.sub {h h' : Hep} (s : Sub h h') : ∀ {d : D} {v : Val}, Rd h d v → Rd h' d v
  | .non, _, r => r
  | .bl _, _, r => r
  | .int _, _, r => r
  | .str _, _, r => r
  | .lst _, _, ⟨a, xs, e, ha, r⟩ => ⟨a, xs, e, s _ _ ha, Rds.sub s r⟩
  | .tup _, _, ⟨xs, e, r⟩ => ⟨xs, e, Rds.sub s r⟩
theorem Rds.sub {h h' : Hep} (s : Sub h h') : ∀ {ds : List D} {vs : List Val}, Rds h ds vs → Rds h' ds vs
  | [], _, r => r
  | _ :: _, _, ⟨v, r, e, q, t⟩ => ⟨v, r, e, Rd.sub s q, Rds.sub s t⟩
end
theorem Rds.length {h : Hep} : ∀ {ds : List D} {vs : List Val}, Rds h ds vs → vs.length = ds.length
  | [], _, r => by rw [show _ = [] from r]; rfl
  | _ :: _, _, ⟨v, r, e, q, t⟩ => by rw [e, List.length_cons, List.length_cons, Rds.length t]
theorem Rds.nil {h : Hep} : Rds h [] [] := rfl
theorem Rds.cons {h : Hep} {d : D} {v : Val} {ds : List D} {vs : List Val} (a : Rd h d v) (b : Rds h ds vs) : Rds h (d :: ds) (v :: vs) := ⟨v, vs, rfl, a, b⟩
theorem Rds.app {h : Hep} : ∀ {ds es : List D} {vs ws : List Val}, Rds h ds vs → Rds h es ws → Rds h (ds ++ es) (vs ++ ws)
  | [], _, _, _, r, t => by rw [show _ = [] from r]; exact t
  | _ :: _, _, _, _, ⟨v, r, e, q, t⟩, z => by rw [e]; exact ⟨v, _, rfl, q, Rds.app t z⟩
def D.isL : D → Bool
  | .lst _ => true
  | _ => false
def D.isT : D → Bool
  | .tup _ => true
  | _ => false
def D.isB : D → Bool
  | .bl _ => true
  | _ => false
def D.isI : D → Bool
  | .int _ => true
  | _ => false
def D.isS : D → Bool
  | .str _ => true
  | _ => false
def D.isN : D → Bool
  | .non => true
  | _ => false
def D.ty : D → String
  | .non => "NoneType"
  | .bl _ => "bool"
  | .int _ => "int"
  | .str _ => "str"
  | .lst _ => "list"
  | .tup _ => "tuple"
theorem Rd.ty {h : Hep} {d : D} {v : Val} (r : Rd h d v) : tyOf h v = some d.ty := by
  cases d with
  | lst ds =>
    obtain ⟨a, xs, rfl, ha, _⟩ := r
    simp only [tyOf, ha]
    rfl
  | tup ds =>
    obtain ⟨xs, rfl, _⟩ := r
    rfl
  | _ => cases r; rfl
/-- isinstance of what is read -/
theorem isi_ty {h : Hep} {d : D} {v : Val} (r : Rd h d v) {n : String} (hn : isKnown n = true) {Q : Bool → Prop} (q : Q (isSub d.ty n)) : opIsi v (.ty n) h Q := by
  unfold opIsi
  rw [r.ty]
  exact ⟨hn, q⟩
theorem isi_T {h : Hep} {d : D} {v : Val} (r : Rd h d v) {n : String} (hn : isKnown n = true) (hs : isSub d.ty n = true) {Q : Bool → Prop} (q : Q true) : opIsi v (.ty n) h Q := isi_ty r hn (by rw [hs]; exact q)
theorem isi_F {h : Hep} {d : D} {v : Val} (r : Rd h d v) {n : String} (hn : isKnown n = true) (hs : isSub d.ty n = false) {Q : Bool → Prop} (q : Q false) : opIsi v (.ty n) h Q := isi_ty r hn (by rw [hs]; exact q)
theorem isi_tup {h : Hep} {d : D} {v : Val} (r : Rd h d v) {cs : List Val} {b : Bool} (hb : isAny d.ty cs = some b) {Q : Bool → Prop} (q : Q b) : opIsi v (.tup cs) h Q := by
  unfold opIsi
  rw [r.ty]
  simp only [hb]
  exact q
mutual
def D.beq : D → D → Bool
  | .non, .non => true
  | .bl a, .bl b => decide (a = b)
  | .int a, .int b => decide (a = b)
  | .str a, .str b => decide (a = b)
  | .lst a, .lst b => D.beqs a b
  | .tup a, .tup b => D.beqs a b
  | _, _ => false
def D.beqs : List D → List D → Bool
  | [], [] => true
  | a :: as, b :: bs => D.beq a b && D.beqs as bs
  | _, _ => false
end
mutual
theorem D.beq_iff : ∀ {a b : D}, D.beq a b = true ↔ a = b
  | .non, b => by cases b <;> simp [D.beq]
  | .bl x, b => by cases b <;> simp [D.beq]
  | .int x, b => by cases b <;> simp [D.beq]
  | .str x, b => by cases b <;> simp [D.beq]
  | .lst x, b => by cases b <;> simp [D.beq, D.beqs_iff]
  | .tup x, b => by cases b <;> simp [D.beq, D.beqs_iff]
theorem D.beqs_iff : ∀ {a b : List D}, D.beqs a b = true ↔ a = b
  | [], b => by cases b <;> simp [D.beqs]
  | x :: xs, b => by cases b <;> simp [D.beqs, D.beq_iff, D.beqs_iff]
end
mutual
def D.dep : D → Nat
  | .lst ds => D.deps ds + 1
  | .tup ds => D.deps ds + 1
  | _ => 0
def D.deps : List D → Nat
  | [] => 0
  | d :: ds => max (D.dep d) (D.deps ds)
end
mutual
/-- how many draws it takes to loosen it -/
def D.cnt : D → Nat
  | .lst ds => D.cnts ds + 1
  | .tup ds => D.cnts ds + 1
  | _ => 0
def D.cnts : List D → Nat
  | [] => 0
  | d :: ds => D.cnt d + D.cnts ds
end
def c__law_same : Sxs := .cons (.ife (.bi .isi (.cons (.var 1) (.cons (.tup (.cons (.ty "list") (.cons (.ty "tuple") .nil))) .nil))) (.cons (.ife (.or (.cmp .NotEq (.bi .isi (.cons (.var 0) (.cons (.ty "list") .nil))) (.bi .isi (.cons (.var 1) (.cons (.ty "list") .nil)))) (.cmp .NotEq (.bi .isi (.cons (.var 0) (.cons (.ty "tuple") .nil))) (.bi .isi (.cons (.var 1) (.cons (.ty "tuple") .nil))))) (.cons (.ret (.bl false)) .nil) .nil) (.cons (.ret (.and (.cmp .Eq (.bi .len (.cons (.var 0) .nil)) (.bi .len (.cons (.var 1) .nil))) (.bi .all (.cons (.lc (.call "_law_same" (.cons (.var 2) (.cons (.var 3) .nil))) (.tc (.nm 2) (.tc (.nm 3) .tn)) (.zip (.var 0) (.var 1)) .nil [2, 3]) .nil)))) .nil)) .nil) (.cons (.ife (.bi .isi (.cons (.var 1) (.cons (.ty "dict") .nil))) (.cons (.ret (.and (.bi .isi (.cons (.var 0) (.cons (.ty "dict") .nil))) (.call "_law_same" (.cons (.bi .list (.cons .bad .nil)) (.cons (.bi .list (.cons .bad .nil)) .nil))))) .nil) .nil) (.cons (.ife (.or (.bi .isi (.cons (.var 1) (.cons (.ty "bool") .nil))) (.bi .isi (.cons (.var 0) (.cons (.ty "bool") .nil)))) (.cons (.ret (.and (.bi .isi (.cons (.var 1) (.cons (.ty "bool") .nil))) (.and (.bi .isi (.cons (.var 0) (.cons (.ty "bool") .nil))) (.cmp .Eq (.var 0) (.var 1))))) .nil) .nil) (.cons (.ife (.or (.cmp .Is (.var 1) .non) (.cmp .Is (.var 0) .non)) (.cons (.ret (.and (.cmp .Is (.var 1) .non) (.cmp .Is (.var 0) .non))) .nil) .nil) (.cons (.ife (.or (.cmp .NotEq (.bi .isi (.cons (.var 1) (.cons (.ty "int") .nil))) (.bi .isi (.cons (.var 0) (.cons (.ty "int") .nil)))) (.cmp .NotEq (.bi .isi (.cons (.var 1) (.cons (.ty "str") .nil))) (.bi .isi (.cons (.var 0) (.cons (.ty "str") .nil))))) (.cons (.ret (.bl false)) .nil) .nil) (.cons (.ret (.and (.not (.bi .isi (.cons (.var 0) (.cons (.tup (.cons (.ty "list") (.cons (.ty "tuple") (.cons (.ty "dict") .nil)))) .nil)))) (.cmp .Eq (.var 0) (.var 1)))) .nil)))))
def c__law_loose : Sxs := .cons (.ife (.not (.bi .isi (.cons (.var 1) (.cons (.tup (.cons (.ty "list") (.cons (.ty "tuple") .nil))) .nil)))) (.cons (.ret (.var 1)) .nil) .nil) (.cons (.asg (.nm 2) (.lc (.call "_law_loose" (.cons (.var 0) (.cons (.var 3) .nil))) (.nm 3) (.seq (.var 1)) .nil [3])) (.cons (.ret (.ife (.cmp .Eq (.call "_law_draw" (.cons (.var 0) (.cons (.int 2) .nil))) (.int 0)) (.bi .tuple (.cons (.var 2) .nil)) (.var 2))) .nil))
def c__law_pick : Sxs := .cons (.ret (.ix (.var 1) (.call "_law_draw" (.cons (.var 0) (.cons (.bi .len (.cons (.var 1) .nil)) .nil))))) .nil
def c__law_frac : Sxs := .cons (.par [2, 3] (.cons (.bi .abs (.cons (.var 0) .nil)) (.cons (.bi .abs (.cons (.var 1) .nil)) .nil))) (.cons (.whil (.cmp .Gt (.var 3) (.int 0)) (.cons (.par [2, 3] (.cons (.var 3) (.cons (.bin .Mod (.bi .int (.cons (.var 2) .nil)) (.var 3)) .nil))) .nil)) (.cons (.asg (.nm 4) (.ife (.cmp .Gt (.var 1) (.int 0)) (.int 1) (.neg (.int 1)))) (.cons (.ret (.tup (.cons (.bin .FloorDiv (.bin .Mult (.var 4) (.var 0)) (.var 2)) (.cons (.bin .FloorDiv (.bin .Mult (.var 4) (.var 1)) (.var 2)) .nil)))) .nil)))
def c__law_stream : Sxs := .cons (.ret (.lst (.cons (.bi .list (.cons (.var 0) .nil)) (.cons (.int 0) (.cons (.int 0) (.cons (.int 17) .nil)))))) .nil
end KM
/-! KMT: picks, sameness, loosened data. -/
namespace KM
open PySem PySem.Spec PyProof.Rows L2

theorem lg_of {x : Int} (h : x.natAbs < 2 ^ 4000) : x.natAbs.log2 < 9000 := Nat.lt_trans (PySem.Flt.log2_lt_of (by decide) h) (by decide)
theorem lg_small {x : Int} (h : x.natAbs < 2 ^ 64) : x.natAbs.log2 < 9000 := Nat.lt_trans (PySem.Flt.log2_lt_of (by decide) h) (by decide)
theorem atI_nn {α : Type} {xs : List α} {d : Int} (h0 : 0 ≤ d) (h1 : d < xs.length) : ∃ x, atI xs d = some x ∧ xs[d.toNat]? = some x := by
  have h2 : d.toNat < xs.length := by omega
  refine ⟨xs[d.toNat], ?_, List.getElem?_eq_getElem h2⟩
  have e : ((d.toNat : Nat) : Int) = d := by omega
  have z := atI_nat (List.getElem?_eq_getElem h2)
  rw [e] at z
  exact z
section
variable {T : Str → Option Fc}
theorem opIx_list {h : Hep} {a : Addr} {d : Int} {P : Val → Prop} {xs : List Val} {v : Val} (e : h a = some (.lst xs)) (z : atI xs d = some v) (p : P v) : opIx (.ref a) (.int d) h P := by
  show onL h a _
  refine onL_in e ?_
  simp only [z]
  exact p
theorem opIx_tup {h : Hep} {d : Int} {P : Val → Prop} {xs : List Val} {v : Val} (z : atI xs d = some v) (p : P v) : opIx (.tup xs) (.int d) h P := by
  show (match atI xs d with
    | some v => P v
    | none => False)
  rw [z]
  exact p
/-- one of the things of a list -/
theorem pick_lst (hD : T "_law_draw" = some ⟨2, 5, c__law_draw⟩) (hT : T "_law_pick" = some ⟨2, 2, c__law_pick⟩) {k : Nat} {S : Strm} {p : Addr} {xs : List Val} {h : Hep} {b : Nat} {Q : VQ} {E : XQ} (ok : S.Ok h (b + 1)) (hp : h p = some (.lst xs)) (l0 : 0 < xs.length) (l1 : xs.length < 1000000)
    (q : ∀ (i : Nat) (x : Val) (S' : Strm), xs[i]? = some x → S.Same S' → S'.Ok h b → Q x (S'.on h)) : Calls T (k + 2) "_law_pick" [.ref S.a, .ref p] (S.on h) Q E := by
  refine Calls_eq [some (.ref S.a), some (.ref p)] hT rfl rfl ?_
  refine onL_in (Strm.under ok _ _ hp) ?_
  refine draw_ok hD ok (by omega) (lg_small (by omega)) fun d S' sm ok' d0 d1 => ?_
  obtain ⟨x, e1, e2⟩ := atI_nn d0 d1
  refine opIx_list (Strm.under ok' _ _ hp) e1 ?_
  exact Dr.here (q _ x S' e2 sm ok')

/-! ### sameness -/
theorem all_in {h : Hep} {a : Addr} {bs : List Bool} {P : VQ} (e : h a = some (.lst (bs.map Val.bl))) (p : P (.bl (bs.all id)) h) : opF .all [.ref a] h P := by
  show onL h a _
  refine onL_in e ?_
  have z : blsOf (bs.map Val.bl) = some bs := by
    clear e p
    induction bs with
    | nil => rfl
    | cons b bs ih => simp only [List.map_cons, blsOf, ih]; rfl
  simp only [z]
  exact p
theorem pinOk_sub {h h' : Hep} (s : Sub h h') : ∀ {ps : List (Addr × List Val)}, pinOk h ps → pinOk h' ps
  | [], _ => trivial
  | _ :: _, ⟨a, b⟩ => ⟨s _ _ a, pinOk_sub s b⟩
theorem zipV_nil_r : ∀ (xs : List Val), zipV xs [] = []
  | [] => rfl
  | _ :: _ => rfl
/-- the comparing comprehension -/
theorem same_lc {C : CalT} {ps : List (Addr × List Val)} {h : Hep} {x2 x3 : Option Val} {v w : Option Val} : ∀ (es ds : List D) (vs ws : List Val) (acc : List Bool) {Q : VQ}, Rds h ds vs → Rds h es ws → pinOk h ps → ds.length = es.length →
    (∀ e ∈ es, ∀ d v w Q E, Rd h d v → Rd h e w → Q (.bl (D.beq d e)) h → C "_law_same" [v, w] h Q E) →
    (∀ bs : List Bool, bs.all id = D.beqs ds es → newL h ((acc ++ bs).map Val.bl) Q) →
    lcW (wCs C .nil) (wE C (.call "_law_same" (.cons (.var 2) (.cons (.var 3) .nil)))) (bindT (.tc (.nm 2) (.tc (.nm 3) .tn))) ps [v, w, none, none] Q (zipV vs ws) (acc.map Val.bl) h
  | [], ds, vs, ws, acc, Q, rd, re, pn, hl, ih, q => by
    have e1 : ws = [] := re
    have e2 : ds = [] := List.eq_nil_of_length_eq_zero hl
    subst e1 e2
    have e3 : vs = [] := rd
    subst e3
    refine ⟨pn, ?_⟩
    have z := q [] rfl
    rw [List.append_nil] at z
    exact z
  | e :: es, [], vs, ws, acc, Q, rd, re, pn, hl, ih, q => by cases hl
  | e :: es, d :: ds, vs, ws, acc, Q, ⟨v1, vs', e1, r1, r2⟩, ⟨w1, ws', e2, r3, r4⟩, pn, hl, ih, q => by
    subst e1 e2
    refine ⟨pn, ?_⟩
    show C "_law_same" [v1, w1] h _ _
    refine ih e List.mem_cons_self d v1 w1 _ _ r1 r3 ?_
    have z := same_lc (C := C) (ps := ps) (h := h) (x2 := x2) (x3 := x3) (v := v) (w := w) es ds vs' ws' (acc ++ [D.beq d e]) (Q := Q) r2 r4 pn (by simpa using hl) (fun e' he => ih e' (List.mem_cons_of_mem _ he)) fun bs hb => by
      have y := q (D.beq d e :: bs) (by simp only [List.all_cons, id, hb, D.beqs])
      rw [List.append_assoc]
      exact y
    rw [List.map_append] at z
    exact z
theorem len_in {h : Hep} {d : D} {v : Val} {ds : List D} (r : Rd h d v) (e : d = .lst ds ∨ d = .tup ds) {P : VQ} (p : P (.int ds.length) h) : opF .len [v] h P := by
  show onI h v _
  rcases e with rfl | rfl
  · obtain ⟨a, xs, rfl, ha, rs⟩ := r
    show onL h a _
    refine onL_in ha ?_
    rw [rs.length]
    exact p
  · obtain ⟨xs, rfl, rs⟩ := r
    show P (.int xs.length) h
    rw [rs.length]
    exact p
theorem D.deps_mem : ∀ {ds : List D} {d : D}, d ∈ ds → d.dep ≤ D.deps ds
  | _ :: _, _, h => by
    simp only [D.deps]
    rcases List.mem_cons.mp h with rfl | h
    · omega
    · have := D.deps_mem h; omega
mutual
/-- the longest list in it -/
def D.wid : D → Nat
  | .lst ds => max ds.length (D.wids ds)
  | .tup ds => max ds.length (D.wids ds)
  | _ => 0
def D.wids : List D → Nat
  | [] => 0
  | d :: ds => max (D.wid d) (D.wids ds)
end
theorem D.wids_mem : ∀ {ds : List D} {d : D}, d ∈ ds → d.wid ≤ D.wids ds
  | _ :: _, _, h => by
    simp only [D.wids]
    rcases List.mem_cons.mp h with rfl | h
    · omega
    · have := D.wids_mem h; omega
theorem zipV_len : ∀ (xs ys : List Val), (zipV xs ys).length ≤ ys.length
  | [], ys => by simp [zipV]
  | _ :: _, [] => by simp [zipV]
  | _ :: xs, _ :: ys => by simp only [zipV, List.length_cons]; have := zipV_len xs ys; omega
theorem D.beqs_len : ∀ {as bs : List D}, D.beqs as bs = true → as.length = bs.length
  | as, bs, h => by rw [D.beqs_iff.mp h]
theorem same_ok (hT : T "_law_same" = some ⟨2, 4, c__law_same⟩) : ∀ (n : Nat) (e d : D) (v w : Val) (h : Hep) (Q : VQ) (E : XQ), e.dep < n → e.wid < 1000000 → Rd h d v → Rd h e w → Q (.bl (D.beq d e)) h → Calls T n "_law_same" [v, w] h Q E := by
  intro n
  induction n with
  | zero => intro e d v w h Q E hn; exact absurd hn (Nat.not_lt_zero _)
  | succ n ih =>
    intro e d v w h Q E hn hw rd re q
    refine Calls_eq [some v, some w, none, none] hT rfl rfl ?_
    have low : ∀ {es : List D}, D.deps es + 1 < n + 1 → max es.length (D.wids es) < 1000000 → ∀ e ∈ es, ∀ d v w Q E, Rd h d v → Rd h e w → Q (.bl (D.beq d e)) h → Calls T n "_law_same" [v, w] h Q E :=
      fun {es} hn hw e he d v w Q E rd re q => ih e d v w h Q E (by have := D.deps_mem he; omega) (by have := D.wids_mem he; omega) rd re q
    cases e with
    | lst es =>
      cases d with
      | lst ds =>
        refine isi_tup re (b := true) rfl ?_
        refine isi_T rd rfl rfl ?_
        refine isi_T re rfl rfl ?_
        refine isi_F rd rfl rfl ?_
        refine isi_F re rfl rfl ?_
        obtain ⟨a, xs, rfl, ha, r1⟩ := rd
        obtain ⟨a2, ys, rfl, ha2, r2⟩ := re
        refine onL_in ha ?_
        refine onL_in ha2 ?_
        by_cases hl : xs.length = ys.length
        · refine ifT (decide_eq_true (by rw [hl])) ?_
          refine onL_in ha ?_
          refine onL_in ha2 ?_
          refine ⟨rfl, ?_⟩
          refine ⟨?_, ?_⟩
          · exact Nat.lt_of_le_of_lt (zipV_len _ _) (by rw [r2.length]; have z : max es.length (D.wids es) < 1000000 := hw; omega)
          · refine same_lc (x2 := none) (x3 := none) es ds xs ys [] r1 r2 ⟨ha, ha2, trivial⟩ (by rw [← r1.length, hl, r2.length]) (low hn hw) fun bs hb => ?_
            refine newL_in fun p np => ?_
            refine all_in hset_same ?_
            have q2 : Q (.bl (bs.all id)) h := by rw [hb]; exact q
            exact ⟨h, (Sub.refl h).new np, q2⟩
        · refine ifF (decide_eq_false (by omega)) ?_
          have z : D.beqs ds es = false := by
            cases y : D.beqs ds es with
            | false => rfl
            | true => exact absurd (by rw [r1.length, r2.length, D.beqs_len y]) hl
          simp only [D.beq, z] at q
          have e : decide ((xs.length : Int) = ys.length) = false := decide_eq_false (by omega)
          exact Dr.here (by rw [e]; exact q)
      | _ =>
        refine isi_tup re (b := true) rfl ?_
        refine isi_F rd rfl rfl ?_
        refine isi_T re rfl rfl ?_
        exact Dr.here q
    | tup es =>
      cases d with
      | tup ds =>
        refine isi_tup re (b := true) rfl ?_
        refine isi_F rd rfl rfl ?_
        refine isi_F re rfl rfl ?_
        refine isi_T rd rfl rfl ?_
        refine isi_T re rfl rfl ?_
        obtain ⟨xs, rfl, r1⟩ := rd
        obtain ⟨ys, rfl, r2⟩ := re
        by_cases hl : xs.length = ys.length
        · refine ifT (decide_eq_true (by rw [hl])) ?_
          refine ⟨rfl, ?_⟩
          refine ⟨?_, ?_⟩
          · exact Nat.lt_of_le_of_lt (zipV_len _ _) (by rw [r2.length]; have z : max es.length (D.wids es) < 1000000 := hw; omega)
          · refine same_lc (x2 := none) (x3 := none) es ds xs ys [] r1 r2 trivial (by rw [← r1.length, hl, r2.length]) (low hn hw) fun bs hb => ?_
            refine newL_in fun p np => ?_
            refine all_in hset_same ?_
            have q2 : Q (.bl (bs.all id)) h := by rw [hb]; exact q
            exact ⟨h, (Sub.refl h).new np, q2⟩
        · refine ifF (decide_eq_false (by omega)) ?_
          have z : D.beqs ds es = false := by
            cases y : D.beqs ds es with
            | false => rfl
            | true => exact absurd (by rw [r1.length, r2.length, D.beqs_len y]) hl
          simp only [D.beq, z] at q
          have e : decide ((xs.length : Int) = ys.length) = false := decide_eq_false (by omega)
          exact Dr.here (by rw [e]; exact q)
      | lst ds =>
        refine isi_tup re (b := true) rfl ?_
        refine isi_T rd rfl rfl ?_
        refine isi_F re rfl rfl ?_
        exact Dr.here q
      | _ =>
        refine isi_tup re (b := true) rfl ?_
        refine isi_F rd rfl rfl ?_
        refine isi_F re rfl rfl ?_
        refine isi_F rd rfl rfl ?_
        refine isi_T re rfl rfl ?_
        exact Dr.here q
    | _ =>
      all_goals cases d
      all_goals (first | (have z : w = _ := re; subst z))
      all_goals (first | (have z : v = _ := rd; subst z) | (obtain ⟨a, xs, e, _, _⟩ := id rd; subst e) | (obtain ⟨xs, e, _⟩ := id rd; subst e))
      all_goals (repeat (first | refine isi_tup re (b := true) rfl ?_ | refine isi_tup re (b := false) rfl ?_ | refine isi_T re rfl rfl ?_ | refine isi_F re rfl rfl ?_ | refine isi_tup rd (b := true) rfl ?_ | refine isi_tup rd (b := false) rfl ?_ | refine isi_T rd rfl rfl ?_ | refine isi_F rd rfl rfl ?_))
      all_goals (first | exact Dr.here q | trace_state)
end
end KM
/-! KMU: loosened data. -/
namespace KM
open PySem PySem.Spec PyProof.Rows L2
mutual
/-- the same with tuples for lists -/
def D.tp : D → D
  | .lst ds => .tup (D.tps ds)
  | .tup ds => .tup (D.tps ds)
  | .non => .non
  | .bl b => .bl b
  | .int i => .int i
  | .str x => .str x
def D.tps : List D → List D
  | [] => []
  | d :: ds => D.tp d :: D.tps ds
end
theorem Strm.newOn {S : Strm} {h : Hep} {n : Nat} {p : Addr} {o : Ob} (ok : S.Ok h n) (np : S.on h p = none) : hset (S.on h) p o = S.on (hset h p o) ∧ S.Ok (hset h p o) n ∧ h p = none := by
  have pa : p ≠ S.a := fun e => by subst e; rw [Strm.at_a] at np; cases np
  have pb : p ≠ S.b := fun e => by subst e; rw [Strm.at_b ok.ab] at np; cases np
  have hp : h p = none := by
    unfold Strm.on at np
    rw [hset_ne pa, hset_ne pb] at np
    exact np
  refine ⟨?_, ⟨ok.ab, ?_, ?_, ok.d0, ok.n0, ok.nb, ok.m0, ok.m1, ok.len⟩, hp⟩
  · funext x
    unfold Strm.on
    by_cases e : x = p
    · subst e
      rw [hset_same, hset_ne pa, hset_ne pb, hset_same]
    · rw [hset_ne e]
      by_cases ea : x = S.a
      · subst ea; rw [hset_same, hset_same]
      · rw [hset_ne ea, hset_ne ea]
        by_cases eb : x = S.b
        · subst eb; rw [hset_same, hset_same]
        · rw [hset_ne eb, hset_ne eb, hset_ne e]
  · rw [hset_ne (Ne.symm pa)]; exact ok.ha
  · rw [hset_ne (Ne.symm pb)]; exact ok.hb
theorem Strm.Same.trans {S S1 S2 : Strm} (x : S.Same S1) (y : S1.Same S2) : S.Same S2 := ⟨y.1.trans x.1, y.2.trans x.2⟩
theorem Strm.Same.refl (S : Strm) : S.Same S := ⟨rfl, rfl⟩
theorem onI_lst {h : Hep} {a : Addr} {xs : List Val} {P : List Val → Prop} (e : h a = some (.lst xs)) (p : P xs) : onI h (.ref a) P := onL_in e p
section
variable {T : Str → Option Fc}
theorem loose_lc {C : CalT} {a : Addr} {ps : List (Addr × List Val)} {v : Val} : ∀ (ds : List D) {vs : List Val} {acc : List Val} {S : Strm} {h : Hep} {b : Nat} {Q : VQ}, Rds h ds vs → pinOk h ps → S.a = a → S.Ok h (b + D.cnts ds) →
    (∀ d ∈ ds, ∀ (v : Val) (S : Strm) (h : Hep) (b : Nat) (Q : VQ) (E : XQ), Rd h d v → S.a = a → S.Ok h (b + d.cnt) → (∀ (v' : Val) (d' : D) (h' : Hep) (S' : Strm), Sub h h' → S.Same S' → S'.Ok h' b → Rd h' d' v' → d'.tp = d.tp → Q v' (S'.on h')) → C "_law_loose" [.ref a, v] (S.on h) Q E) →
    (∀ (vs' : List Val) (ds' : List D) (h' : Hep) (S' : Strm), Sub h h' → S.Same S' → S'.Ok h' b → Rds h' ds' vs' → D.tps ds' = D.tps ds → newL (S'.on h') (acc ++ vs') Q) →
    lcW (wCs C .nil) (wE C (.call "_law_loose" (.cons (.var 0) (.cons (.var 3) .nil)))) (bindT (.nm 3)) ps [some (.ref a), some v, none, none] Q vs acc (S.on h)
  | [], vs, acc, S, h, b, Q, rd, pn, ea, ok, ih, q => by
    have e : vs = [] := rd
    subst e
    refine ⟨pinOk_sub (Strm.under ok) pn, ?_⟩
    have z := q [] [] h S (Sub.refl h) (Strm.Same.refl S) ok Rds.nil rfl
    rw [List.append_nil] at z
    exact z
  | d :: ds, vs, acc, S, h, b, Q, ⟨v1, vs1, e, r1, r2⟩, pn, ea, ok, ih, q => by
    subst e
    refine ⟨pinOk_sub (Strm.under ok) pn, ?_⟩
    show C "_law_loose" [.ref a, v1] (S.on h) _ _
    refine ih d List.mem_cons_self v1 S h (b + D.cnts ds) _ _ r1 ea (ok.le (by simp only [D.cnts]; omega)) fun v' d' h' S' s sm ok' rd' e' => ?_
    refine loose_lc ds (S := S') (h := h') (b := b) (r2.sub s) (pinOk_sub s pn) (sm.1.trans ea) ok' (fun d hd => ih d (List.mem_cons_of_mem _ hd)) fun vs' ds' h2 S2 s2 sm2 ok2 rds2 e2 => ?_
    have z := q (v' :: vs') (d' :: ds') h2 S2 (s.trans s2) (sm.trans sm2) ok2 (Rds.cons (rd'.sub s2) rds2) (by simp only [D.tps, e', e2])
    rw [List.append_assoc]
    exact z
theorem loose_ok (hD : T "_law_draw" = some ⟨2, 5, c__law_draw⟩) (hT : T "_law_loose" = some ⟨2, 4, c__law_loose⟩) : ∀ (n : Nat) (d : D) (v : Val) (S : Strm) (h : Hep) (b : Nat) (Q : VQ) (E : XQ), d.dep < n → d.wid < 1000000 → Rd h d v → S.Ok h (b + d.cnt) →
    (∀ (v' : Val) (d' : D) (h' : Hep) (S' : Strm), Sub h h' → S.Same S' → S'.Ok h' b → Rd h' d' v' → d'.tp = d.tp → Q v' (S'.on h')) → Calls T n "_law_loose" [.ref S.a, v] (S.on h) Q E := by
  intro n
  induction n with
  | zero => intro d v S h b Q E hn; exact absurd hn (Nat.not_lt_zero _)
  | succ n ih =>
    intro d v S h b Q E hn hw rd ok q
    refine Calls_eq [some (.ref S.a), some v, none, none] hT rfl rfl ?_
    have leaf : d.cnt = 0 → Q v (S.on h) := fun e => q v d h S (Sub.refl h) (Strm.Same.refl S) (ok.le (by omega)) rd rfl
    have ro := rd.sub (Strm.under ok)
    have fin : ∀ (ds : List D) (vs' : List Val) (ds' : List D) (h' : Hep) (S' : Strm), D.deps ds + 1 < n + 1 → Sub h h' → S.Same S' → S'.Ok h' (b + 1) → Rds h' ds' vs' → d.tp = .tup (D.tps ds') → 0 < n →
        newL (S'.on h') vs' fun x h1 => wSs (Calls T n) (.cons (.ret (.ife (.cmp .Eq (.call "_law_draw" (.cons (.var 0) (.cons (.int 2) .nil))) (.int 0)) (.bi .tuple (.cons (.var 2) .nil)) (.var 2))) .nil) [some (.ref S.a), some v, some x, none] h1 { nx := fun _ h1 => Dr h1 (Q .non), rt := fun v h1 => Dr h1 (Q v), bk := fun _ _ => False, ct := fun _ _ => False } (fun x _ h1 => Dr h1 (E x)) := by
      intro ds vs' ds' h' S' hd s sm ok' rds' e' n0
      refine newL_in fun p np => ?_
      obtain ⟨e1, ok1, hp⟩ := Strm.newOn (o := .lst vs') ok' np
      rw [e1]
      obtain ⟨m, rfl⟩ : ∃ m, n = m + 1 := ⟨n - 1, by omega⟩
      have sx : Sub h' (hset h' p (.lst vs')) := (Sub.refl h').new hp
      show Calls T (m + 1) "_law_draw" [.ref S.a, .int 2] _ _ _
      rw [← sm.1]
      refine draw_ok hD ok1 (by decide) (by decide) fun x S2 sm2 ok2 x0 x1 => ?_
      by_cases hx : x = 0
      · refine ifT (decide_eq_true hx) ?_
        refine onL_in (Strm.under ok2 _ _ hset_same) ?_
        exact Dr.here (q _ (.tup ds') _ S2 (s.trans sx) (sm.trans sm2) ok2 ⟨_, rfl, rds'.sub sx⟩ (by rw [e']; rfl))
      · refine ifF (decide_eq_false hx) ?_
        exact Dr.here (q _ (.lst ds') _ S2 (s.trans sx) (sm.trans sm2) ok2 ⟨p, _, rfl, hset_same, rds'.sub sx⟩ (by rw [e']; rfl))
    cases d with
    | lst ds =>
      refine isi_tup ro (b := true) rfl ?_
      obtain ⟨a, xs, rfl, ha, r1⟩ := rd
      have hn' : D.deps ds + 1 < n + 1 := hn
      have hw' : max ds.length (D.wids ds) < 1000000 := hw
      refine onL_in (Strm.under ok _ _ ha) ?_
      refine ⟨show xs.length < 1000000 by rw [r1.length]; omega, ?_⟩
      refine loose_lc ds (ps := [(a, xs)]) (b := b + 1) r1 ⟨ha, trivial⟩ rfl (ok.le (by simp only [D.cnt]; omega)) (fun d hd v S' h b Q E rd e ok q => e ▸ ih d v S' h b Q E (by have := D.deps_mem hd; omega) (by have := D.wids_mem hd; omega) rd ok q) fun vs' ds' h' S' s sm ok' rds' e' => ?_
      exact fin ds vs' ds' h' S' hn' s sm ok' rds' (by simp only [D.tp, e']) (by omega)
    | tup ds =>
      refine isi_tup ro (b := true) rfl ?_
      obtain ⟨xs, rfl, r1⟩ := rd
      have hn' : D.deps ds + 1 < n + 1 := hn
      have hw' : max ds.length (D.wids ds) < 1000000 := hw
      refine ⟨show xs.length < 1000000 by rw [r1.length]; omega, ?_⟩
      refine loose_lc ds (ps := []) (b := b + 1) r1 trivial rfl (ok.le (by simp only [D.cnt]; omega)) (fun d hd v S' h b Q E rd e ok q => e ▸ ih d v S' h b Q E (by have := D.deps_mem hd; omega) (by have := D.wids_mem hd; omega) rd ok q) fun vs' ds' h' S' s sm ok' rds' e' => ?_
      exact fin ds vs' ds' h' S' hn' s sm ok' rds' (by simp only [D.tp, e']) (by omega)
    | _ =>
      refine isi_tup ro (b := false) rfl ?_
      exact Dr.here (leaf rfl)
end
end KM
/-! KMR: fractions as rational numbers. -/
namespace KM
open PySem PySem.Spec PyProof.Rows L2
/-- a fraction as the program holds it -/
def fr (x : Rat) : Val := .tup [.int x.num, .int x.den]
def dr (x : Rat) : D := .tup [.int x.num, .int x.den]
theorem rd_fr (h : Hep) (x : Rat) : Rd h (dr x) (fr x) := ⟨_, rfl, _, _, rfl, rfl, _, _, rfl, rfl, rfl⟩
theorem fr_inj {x y : Rat} : fr x = fr y ↔ x = y := by
  refine ⟨fun h => ?_, fun h => by rw [h]⟩
  unfold fr at h
  injection h with h
  injection h with h1 h2
  injection h1 with h1
  injection h2 with h2 _
  injection h2 with h2
  exact Rat.ext h1 (by omega)
theorem dr_inj {x y : Rat} : dr x = dr y ↔ x = y := by
  refine ⟨fun h => ?_, fun h => by rw [h]⟩
  unfold dr at h
  injection h with h
  injection h with h1 h2
  injection h1 with h1
  injection h2 with h2 _
  injection h2 with h2
  exact Rat.ext h1 (by omega)
/-- not too long -/
def Bd (n : Nat) (x : Rat) : Prop := x.num.natAbs < 2 ^ n ∧ x.den < 2 ^ n
theorem Bd.mono {n m : Nat} {x : Rat} (h : Bd n x) (l : n ≤ m) : Bd m x :=
  ⟨Nat.lt_of_lt_of_le h.1 (Nat.pow_le_pow_right (by decide) l), Nat.lt_of_lt_of_le h.2 (Nat.pow_le_pow_right (by decide) l)⟩
theorem natAbs_ediv_le (a : Int) (g : Nat) : (a / (g : Int)).natAbs ≤ a.natAbs := by
  rcases Nat.eq_zero_or_pos g with e | e
  · subst e; simp
  · exact Int.natAbs_ediv_le_natAbs _ _
theorem Bd.divInt {n : Nat} {a b : Int} (ha : a.natAbs < 2 ^ n) (hb : b.natAbs < 2 ^ n) : Bd (n + 1) (Rat.divInt a b) := by
  have two : 2 ^ n < 2 ^ (n + 1) := by rw [Nat.pow_succ]; have := Nat.two_pow_pos n; omega
  constructor
  · rw [Rat.num_divInt]
    refine Nat.lt_of_le_of_lt (natAbs_ediv_le _ _) ?_
    rw [Int.natAbs_mul]
    have : b.sign.natAbs ≤ 1 := by rw [Int.natAbs_sign]; split <;> omega
    have := Nat.mul_le_mul_right a.natAbs this
    omega
  · rw [Rat.den_divInt]
    split
    · have := Nat.two_pow_pos n; rw [Nat.pow_succ]; omega
    · exact Nat.lt_of_le_of_lt (Nat.div_le_self _ _) (by omega)
theorem pow_lt_mul {a b n m : Nat} (ha : a < 2 ^ n) (hb : b < 2 ^ m) : a * b < 2 ^ (n + m) := by
  rw [Nat.pow_add]
  exact Nat.mul_lt_mul'' ha hb
theorem add_eq_divInt (x y : Rat) : x + y = Rat.divInt (x.num * y.den + y.num * x.den) (x.den * y.den) := by
  rw [Rat.add_def, Rat.normalize_eq_mkRat, ← Rat.divInt_ofNat]; simp
theorem sub_eq_divInt (x y : Rat) : x - y = Rat.divInt (x.num * y.den - y.num * x.den) (x.den * y.den) := by
  rw [Rat.sub_def, Rat.normalize_eq_mkRat, ← Rat.divInt_ofNat]; simp
theorem mul_eq_divInt (x y : Rat) : x * y = Rat.divInt (x.num * y.num) (x.den * y.den) := by
  rw [Rat.mul_def, Rat.normalize_eq_mkRat, ← Rat.divInt_ofNat]; simp
theorem div_eq_divInt (x y : Rat) : x / y = Rat.divInt (x.num * y.den) (x.den * y.num) := by
  rw [Rat.div_def, Rat.inv_def, ← Rat.divInt_mul_divInt, Rat.num_divInt_den]
def c_is_list : Sxs := .cons (.ret (.bi .isi (.cons (.var 0) (.cons (.tup (.cons (.ty "list") (.cons (.ty "tuple") .nil))) .nil)))) .nil
def c_is_whole : Sxs := .cons (.ret (.and (.bi .isi (.cons (.var 0) (.cons (.ty "int") .nil))) (.not (.bi .isi (.cons (.var 0) (.cons (.ty "bool") .nil)))))) .nil
def c_is_row : Sxs := .cons (.ret (.and (.call "is_list" (.cons (.var 0) .nil)) (.cmp .Eq (.bi .len (.cons (.var 0) .nil)) (.var 1)))) .nil
def c_common_divisor : Sxs := .cons (.par [0, 1] (.cons (.bi .abs (.cons (.var 0) .nil)) (.cons (.bi .abs (.cons (.var 1) .nil)) .nil))) (.cons (.whil (.var 1) (.cons (.par [0, 1] (.cons (.var 1) (.cons (.bin .Mod (.var 0) (.var 1)) .nil))) .nil)) (.cons (.ret (.var 0)) .nil))
def c_reduced : Sxs := .cons (.asg (.nm 2) (.call "common_divisor" (.cons (.var 0) (.cons (.var 1) .nil)))) (.cons (.ife (.cmp .Lt (.var 1) (.int 0)) (.cons (.asg (.nm 2) (.neg (.var 2))) .nil) .nil) (.cons (.ret (.tup (.cons (.bin .FloorDiv (.var 0) (.var 2)) (.cons (.bin .FloorDiv (.var 1) (.var 2)) .nil)))) .nil))
def c_minus : Sxs := .cons (.ret (.call "reduced" (.cons (.bin .Sub (.bin .Mult (.ix (.var 0) (.int 0)) (.ix (.var 1) (.int 1))) (.bin .Mult (.ix (.var 1) (.int 0)) (.ix (.var 0) (.int 1)))) (.cons (.bin .Mult (.ix (.var 0) (.int 1)) (.ix (.var 1) (.int 1))) .nil)))) .nil
def c_is_under : Sxs := .cons (.ret (.cmp .Lt (.bin .Mult (.ix (.var 0) (.int 0)) (.ix (.var 1) (.int 1))) (.bin .Mult (.ix (.var 1) (.int 0)) (.ix (.var 0) (.int 1))))) .nil
def c_kept_fraction : Sxs := .cons (.ife (.or (.not (.call "is_row" (.cons (.var 0) (.cons (.int 2) .nil)))) (.or (.not (.call "is_whole" (.cons (.ix (.var 0) (.int 0)) .nil))) (.not (.call "is_whole" (.cons (.ix (.var 0) (.int 1)) .nil))))) (.cons (.ret .non) .nil) .nil) (.cons (.ife (.or (.cmp .Lt (.ix (.var 0) (.int 1)) (.int 1)) (.cmp .NotEq (.call "common_divisor" (.cons (.ix (.var 0) (.int 0)) (.cons (.ix (.var 0) (.int 1)) .nil))) (.int 1))) (.cons (.ret .non) .nil) .nil) (.cons (.ret (.tup (.cons (.ix (.var 0) (.int 0)) (.cons (.ix (.var 0) (.int 1)) .nil)))) .nil))
def c_need_two : Sxs := .cons (.par [2, 3] (.cons (.call "kept_fraction" (.cons (.var 0) .nil)) (.cons (.call "kept_fraction" (.cons (.var 1) .nil)) .nil))) (.cons (.ife (.cmp .Is (.var 2) .non) (.cons .bad .nil) .nil) (.cons (.ife (.cmp .Is (.var 3) .non) (.cons .bad .nil) .nil) (.cons (.ret (.tup (.cons (.var 2) (.cons (.var 3) .nil)))) .nil)))
def c_need_fraction : Sxs := .cons (.asg (.nm 1) (.call "kept_fraction" (.cons (.var 0) .nil))) (.cons (.ife (.cmp .Is (.var 1) .non) (.cons .bad .nil) .nil) (.cons (.ret (.var 1)) .nil))
def c__law_plus : Sxs := .cons (.ret (.call "_law_frac" (.cons (.bin .Add (.bin .Mult (.ix (.var 0) (.int 0)) (.ix (.var 1) (.int 1))) (.bin .Mult (.ix (.var 1) (.int 0)) (.ix (.var 0) (.int 1)))) (.cons (.bin .Mult (.ix (.var 0) (.int 1)) (.ix (.var 1) (.int 1))) .nil)))) .nil
def c__law_minus : Sxs := .cons (.ret (.call "_law_frac" (.cons (.bin .Sub (.bin .Mult (.ix (.var 0) (.int 0)) (.ix (.var 1) (.int 1))) (.bin .Mult (.ix (.var 1) (.int 0)) (.ix (.var 0) (.int 1)))) (.cons (.bin .Mult (.ix (.var 0) (.int 1)) (.ix (.var 1) (.int 1))) .nil)))) .nil
def c__law_under : Sxs := .cons (.ret (.cmp .Lt (.bin .Mult (.ix (.var 0) (.int 0)) (.ix (.var 1) (.int 1))) (.bin .Mult (.ix (.var 1) (.int 0)) (.ix (.var 0) (.int 1))))) .nil
def c__law_q_neg : Sxs := .cons (.ret (.tup (.cons (.neg (.ix (.var 0) (.int 0))) (.cons (.ix (.var 0) (.int 1)) .nil)))) .nil
def c__law_far : Sxs := .cons (.asg (.nm 2) (.call "_law_minus" (.cons (.var 0) (.cons (.var 1) .nil)))) (.cons (.ret (.ife (.cmp .GtE (.ix (.var 2) (.int 0)) (.int 0)) (.var 2) (.call "_law_q_neg" (.cons (.var 2) .nil)))) .nil)

theorem nat_fmod (a b : Nat) : (a : Int).fmod b = ((a % b : Nat) : Int) := by
  rw [Int.fmod_eq_emod_of_nonneg _ (by omega)]; rfl
theorem abs_nat (i : Int) : (if i < 0 then -i else i) = (i.natAbs : Int) := by split <;> omega
section
variable {T : Str → Option Fc}
/-- the greatest common divisor -/
theorem cd_ok (hT : T "common_divisor" = some ⟨2, 2, c_common_divisor⟩) {k : Nat} {a b : Int} {h : Hep} {Q : VQ} {E : XQ} (q : Q (.int (Int.gcd a b)) h) : Calls T (k + 1) "common_divisor" [.int a, .int b] h Q E := by
  refine Calls_eq [some (.int a), some (.int b)] hT rfl rfl ?_
  show wSs _ (.cons (.whil _ _) _) [some (.int (if a < 0 then -a else a)), some (.int (if b < 0 then -b else b))] h _ _
  rw [abs_nat, abs_nat]
  refine ⟨fun m env g => g = h ∧ ∃ x y : Nat, env = [some (.int x), some (.int y)] ∧ Nat.gcd x y = Int.gcd a b ∧ y = m, ⟨_, rfl, _, _, rfl, rfl, rfl⟩, ?_⟩
  rintro m env g ⟨rfl, x, y, rfl, hg, rfl⟩
  by_cases hy : y = 0
  · refine ifF (by simp [hy]) ?_
    rw [hy, Nat.gcd_zero_right] at hg
    refine Dr.here ?_
    rw [hg]
    exact q
  · refine ifT (by simp; omega) ?_
    refine ⟨by omega, ?_⟩
    rw [nat_fmod]
    refine ⟨_, Nat.mod_lt x (by omega), rfl, _, _, rfl, ?_, rfl⟩
    rw [← hg, Nat.gcd_comm, ← Nat.gcd_rec, Nat.gcd_comm]
theorem fdiv_nat (a : Int) (g : Nat) : a.fdiv g = a / (g : Int) := Int.fdiv_eq_ediv_of_nonneg _ (by omega)
theorem divInt_fr {a b : Int} (hb : b ≠ 0) : fr (Rat.divInt a b) = .tup [.int ((b.sign * a) / (Int.gcd a b : Int)), .int ((b.natAbs : Int) / (Int.gcd a b : Int))] := by
  unfold fr
  rw [Rat.num_divInt, Rat.den_divInt, if_neg hb, Int.gcd_comm]
  rfl
theorem gcd_lt {n : Nat} {a b : Int} (hb : b ≠ 0) (h : b.natAbs < 2 ^ n) : 0 < Int.gcd a b ∧ Int.gcd a b < 2 ^ n := by
  have z := Int.gcd_pos_of_ne_zero_right a hb
  have y : Int.gcd a b ≤ b.natAbs := Nat.le_of_dvd (by omega) (Nat.gcd_dvd_right _ _)
  omega
theorem divg_ok {n : Nat} {j : Int} (h0 : j ≠ 0) (h : j.natAbs < 2 ^ n) (hn : 0 < n) (hn1 : n ≤ 9000) : CDivG j := ⟨h0, Nat.lt_of_lt_of_le (PySem.Flt.log2_lt_of hn h) hn1⟩
/-- the law's fraction of two integers -/
theorem lfrac_ok (hT : T "_law_frac" = some ⟨2, 5, c__law_frac⟩) {k n : Nat} {a b : Int} {h : Hep} {Q : VQ} {E : XQ} (hb : b ≠ 0) (h0 : 0 < n) (h1 : n ≤ 8000) (la : a.natAbs < 2 ^ n) (lb : b.natAbs < 2 ^ n) (q : Q (fr (Rat.divInt a b)) h) : Calls T (k + 1) "_law_frac" [.int a, .int b] h Q E := by
  refine Calls_eq [some (.int a), some (.int b), none, none, none] hT rfl rfl ?_
  show wSs _ (.cons (.whil _ _) _) [some (.int a), some (.int b), some (.int (if a < 0 then -a else a)), some (.int (if b < 0 then -b else b)), none] h _ _
  rw [abs_nat, abs_nat]
  refine ⟨fun m env g => g = h ∧ ∃ x y : Nat, env = [some (.int a), some (.int b), some (.int x), some (.int y), none] ∧ Nat.gcd x y = Int.gcd a b ∧ y = m, ⟨_, rfl, _, _, rfl, rfl, rfl⟩, ?_⟩
  rintro m env g ⟨rfl, x, y, rfl, hg, rfl⟩
  by_cases hy : y = 0
  · refine ifF (decide_eq_false (by omega)) ?_
    rw [hy, Nat.gcd_zero_right] at hg
    subst hg
    have gb := gcd_lt (a := a) hb lb
    have dv : CDivG ((Int.gcd a b : Nat) : Int) := divg_ok (by omega) (by simpa using gb.2) h0 (by omega)
    rw [divInt_fr hb] at q
    by_cases hp : 0 < b
    · refine ifT (decide_eq_true hp) ?_
      refine ⟨wide_mul (a := 1) (by decide) la (by decide) h0 (by omega), dv, wide_mul (a := 1) (by decide) lb (by decide) h0 (by omega), dv, ?_⟩
      rw [fdiv_nat, fdiv_nat]
      refine Dr.here ?_
      rw [Int.sign_eq_one_of_pos hp, Int.natAbs_of_nonneg (by omega)] at q
      rw [Int.one_mul, Int.one_mul] at *
      exact q
    · refine ifF (decide_eq_false hp) ?_
      refine ⟨wide_mul (a := 1) (by decide) la (by decide) h0 (by omega), dv, wide_mul (a := 1) (by decide) lb (by decide) h0 (by omega), dv, ?_⟩
      rw [fdiv_nat, fdiv_nat]
      refine Dr.here ?_
      rw [Int.sign_eq_neg_one_of_neg (by omega), show ((b.natAbs : Nat) : Int) = -1 * b by omega] at q
      exact q
  · refine ifT (by simp; omega) ?_
    refine ⟨by omega, ?_⟩
    rw [nat_fmod]
    refine ⟨_, Nat.mod_lt x (by omega), rfl, _, _, rfl, ?_, rfl⟩
    rw [← hg, Nat.gcd_comm, ← Nat.gcd_rec, Nat.gcd_comm]
structure RedLib (T : Str → Option Fc) : Prop where
  cd : T "common_divisor" = some ⟨2, 2, c_common_divisor⟩
  red : T "reduced" = some ⟨2, 3, c_reduced⟩
theorem red_ok (hT : RedLib T) {k n : Nat} {a b : Int} {h : Hep} {Q : VQ} {E : XQ} (hb : b ≠ 0) (h0 : 0 < n) (h1 : n ≤ 8000) (lb : b.natAbs < 2 ^ n) (q : Q (fr (Rat.divInt a b)) h) : Calls T (k + 2) "reduced" [.int a, .int b] h Q E := by
  refine Calls_eq [some (.int a), some (.int b), none] hT.red rfl rfl ?_
  refine cd_ok hT.cd ?_
  have gb := gcd_lt (a := a) hb lb
  rw [divInt_fr hb] at q
  by_cases hp : b < 0
  · refine ifT (decide_eq_true hp) ?_
    have dv : CDivG (-((Int.gcd a b : Nat) : Int)) := divg_ok (by omega) (by simpa using gb.2) h0 (by omega)
    refine ⟨dv, dv, ?_⟩
    refine Dr.here ?_
    have e : ∀ x : Int, x.fdiv (-((Int.gcd a b : Nat) : Int)) = (-x) / (Int.gcd a b : Int) := fun x => by
      rw [← Int.neg_fdiv_neg, Int.neg_neg, fdiv_nat]
    rw [e, e]
    rw [Int.sign_eq_neg_one_of_neg hp, show ((b.natAbs : Nat) : Int) = -b by omega, Int.neg_one_mul] at q
    exact q
  · refine ifF (decide_eq_false hp) ?_
    have dv : CDivG (((Int.gcd a b : Nat) : Int)) := divg_ok (by omega) (by simpa using gb.2) h0 (by omega)
    refine ⟨dv, dv, ?_⟩
    refine Dr.here ?_
    rw [fdiv_nat, fdiv_nat]
    rw [Int.sign_eq_one_of_pos (by omega), Int.natAbs_of_nonneg (by omega), Int.one_mul] at q
    exact q
end
end KM
/-! KMV: sums of fractions, fractions read. -/
namespace KM
open PySem PySem.Spec PyProof.Rows L2
def c_plus : Sxs := .cons (.ret (.call "reduced" (.cons (.bin .Add (.bin .Mult (.ix (.var 0) (.int 0)) (.ix (.var 1) (.int 1))) (.bin .Mult (.ix (.var 1) (.int 0)) (.ix (.var 0) (.int 1)))) (.cons (.bin .Mult (.ix (.var 0) (.int 1)) (.ix (.var 1) (.int 1))) .nil)))) .nil
def c_times : Sxs := .cons (.ret (.call "reduced" (.cons (.bin .Mult (.ix (.var 0) (.int 0)) (.ix (.var 1) (.int 0))) (.cons (.bin .Mult (.ix (.var 0) (.int 1)) (.ix (.var 1) (.int 1))) .nil)))) .nil
def c_over : Sxs := .cons (.ret (.call "reduced" (.cons (.bin .Mult (.ix (.var 0) (.int 0)) (.ix (.var 1) (.int 1))) (.cons (.bin .Mult (.ix (.var 0) (.int 1)) (.ix (.var 1) (.int 0))) .nil)))) .nil
theorem den_abs (x : Rat) : ((x.den : Int)).natAbs = x.den := rfl
theorem den_ne (x : Rat) : (x.den : Int) ≠ 0 := by have := x.den_nz; omega
theorem mul_ok {n : Nat} {a b : Int} (h0 : 0 < n) (h1 : n ≤ 500000) (ha : a.natAbs < 2 ^ n) (hb : b.natAbs < 2 ^ n) : CMulW a b := wide_mul ha hb h0 h0 (by omega)
theorem mul_bd {n : Nat} {a b : Int} (ha : a.natAbs < 2 ^ n) (hb : b.natAbs < 2 ^ n) : (a * b).natAbs < 2 ^ (n + n) := by rw [Int.natAbs_mul]; exact pow_lt_mul ha hb
theorem lt_iff_dec (x y : Rat) : decide (x.num * y.den < y.num * x.den) = decide (x < y) := by rw [decide_eq_decide, Rat.lt_iff]
theorem natAbs_add_lt {n : Nat} {a b : Int} (ha : a.natAbs < 2 ^ n) (hb : b.natAbs < 2 ^ n) : (a + b).natAbs < 2 ^ (n + 1) := by rw [Nat.pow_succ]; omega
theorem natAbs_sub_lt {n : Nat} {a b : Int} (ha : a.natAbs < 2 ^ n) (hb : b.natAbs < 2 ^ n) : (a - b).natAbs < 2 ^ (n + 1) := by rw [Nat.pow_succ]; omega
theorem Bd.add {n : Nat} {x y : Rat} (hx : Bd n x) (hy : Bd n y) : Bd (n + n + 2) (x + y) := by
  rw [add_eq_divInt]
  exact Bd.divInt (natAbs_add_lt (mul_bd hx.1 hy.2) (mul_bd hy.1 hx.2)) (Nat.lt_of_lt_of_le (mul_bd (b := y.den) hx.2 hy.2) (Nat.pow_le_pow_right (by decide) (by omega)))
theorem Bd.sub {n : Nat} {x y : Rat} (hx : Bd n x) (hy : Bd n y) : Bd (n + n + 2) (x - y) := by
  rw [sub_eq_divInt]
  exact Bd.divInt (natAbs_sub_lt (mul_bd hx.1 hy.2) (mul_bd hy.1 hx.2)) (Nat.lt_of_lt_of_le (mul_bd (b := y.den) hx.2 hy.2) (Nat.pow_le_pow_right (by decide) (by omega)))
theorem Bd.mul {n : Nat} {x y : Rat} (hx : Bd n x) (hy : Bd n y) : Bd (n + n + 1) (x * y) := by
  rw [mul_eq_divInt]
  exact Bd.divInt (mul_bd hx.1 hy.1) (mul_bd (b := y.den) hx.2 hy.2)
theorem Bd.div {n : Nat} {x y : Rat} (hx : Bd n x) (hy : Bd n y) : Bd (n + n + 1) (x / y) := by
  rw [div_eq_divInt]
  exact Bd.divInt (mul_bd hx.1 hy.2) (mul_bd (a := x.den) hx.2 hy.1)
theorem Bd.neg {n : Nat} {x : Rat} (hx : Bd n x) : Bd n (-x) := ⟨by show (-x.num).natAbs < _; rw [Int.natAbs_neg]; exact hx.1, hx.2⟩
theorem fr_neg (x : Rat) : fr (-x) = .tup [.int (-x.num), .int x.den] := rfl
section
variable {T : Str → Option Fc}
theorem minus_ok (hR : RedLib T) (hT : T "minus" = some ⟨2, 2, c_minus⟩) {k n : Nat} {x y : Rat} {h : Hep} {Q : VQ} {E : XQ} (h0 : 0 < n) (h1 : n ≤ 4000) (hx : Bd n x) (hy : Bd n y) (q : Q (fr (x - y)) h) : Calls T (k + 3) "minus" [fr x, fr y] h Q E := by
  refine Calls_eq [some (fr x), some (fr y)] hT rfl rfl ?_
  refine ⟨mul_ok h0 (by omega) hx.1 hy.2, mul_ok h0 (by omega) hy.1 hx.2, mul_ok (a := x.den) (b := y.den) h0 (by omega) hx.2 hy.2, ?_⟩
  refine red_ok hR (Int.mul_ne_zero (den_ne x) (den_ne y)) (n := n + n) (by omega) (by omega) (mul_bd (a := x.den) (b := y.den) hx.2 hy.2) ?_
  rw [← sub_eq_divInt]
  exact Dr.here q
theorem plus_ok (hR : RedLib T) (hT : T "plus" = some ⟨2, 2, c_plus⟩) {k n : Nat} {x y : Rat} {h : Hep} {Q : VQ} {E : XQ} (h0 : 0 < n) (h1 : n ≤ 4000) (hx : Bd n x) (hy : Bd n y) (q : Q (fr (x + y)) h) : Calls T (k + 3) "plus" [fr x, fr y] h Q E := by
  refine Calls_eq [some (fr x), some (fr y)] hT rfl rfl ?_
  refine ⟨mul_ok h0 (by omega) hx.1 hy.2, mul_ok h0 (by omega) hy.1 hx.2, mul_ok (a := x.den) (b := y.den) h0 (by omega) hx.2 hy.2, ?_⟩
  refine red_ok hR (Int.mul_ne_zero (den_ne x) (den_ne y)) (n := n + n) (by omega) (by omega) (mul_bd (a := x.den) (b := y.den) hx.2 hy.2) ?_
  rw [← add_eq_divInt]
  exact Dr.here q
theorem times_ok (hR : RedLib T) (hT : T "times" = some ⟨2, 2, c_times⟩) {k n : Nat} {x y : Rat} {h : Hep} {Q : VQ} {E : XQ} (h0 : 0 < n) (h1 : n ≤ 4000) (hx : Bd n x) (hy : Bd n y) (q : Q (fr (x * y)) h) : Calls T (k + 3) "times" [fr x, fr y] h Q E := by
  refine Calls_eq [some (fr x), some (fr y)] hT rfl rfl ?_
  refine ⟨mul_ok h0 (by omega) hx.1 hy.1, mul_ok (a := x.den) (b := y.den) h0 (by omega) hx.2 hy.2, ?_⟩
  refine red_ok hR (Int.mul_ne_zero (den_ne x) (den_ne y)) (n := n + n) (by omega) (by omega) (mul_bd (a := x.den) (b := y.den) hx.2 hy.2) ?_
  rw [← mul_eq_divInt]
  exact Dr.here q
theorem over_ok (hR : RedLib T) (hT : T "over" = some ⟨2, 2, c_over⟩) {k n : Nat} {x y : Rat} {h : Hep} {Q : VQ} {E : XQ} (h0 : 0 < n) (h1 : n ≤ 4000) (hx : Bd n x) (hy : Bd n y) (hz : y ≠ 0) (q : Q (fr (x / y)) h) : Calls T (k + 3) "over" [fr x, fr y] h Q E := by
  refine Calls_eq [some (fr x), some (fr y)] hT rfl rfl ?_
  refine ⟨mul_ok h0 (by omega) hx.1 hy.2, mul_ok (a := x.den) h0 (by omega) hx.2 hy.1, ?_⟩
  refine red_ok hR (Int.mul_ne_zero (den_ne x) (fun z => hz (Rat.num_eq_zero.mp z))) (n := n + n) (by omega) (by omega) (mul_bd (a := x.den) hx.2 hy.1) ?_
  rw [← div_eq_divInt]
  exact Dr.here q
theorem under_ok (hT : T "is_under" = some ⟨2, 2, c_is_under⟩) {k n : Nat} {x y : Rat} {h : Hep} {Q : VQ} {E : XQ} (h0 : 0 < n) (h1 : n ≤ 4000) (hx : Bd n x) (hy : Bd n y) (q : Q (.bl (decide (x < y))) h) : Calls T (k + 1) "is_under" [fr x, fr y] h Q E := by
  refine Calls_eq [some (fr x), some (fr y)] hT rfl rfl ?_
  refine ⟨mul_ok h0 (by omega) hx.1 hy.2, mul_ok h0 (by omega) hy.1 hx.2, ?_⟩
  rw [← lt_iff_dec] at q
  exact Dr.here q
theorem lunder_ok (hT : T "_law_under" = some ⟨2, 2, c__law_under⟩) {k n : Nat} {x y : Rat} {h : Hep} {Q : VQ} {E : XQ} (h0 : 0 < n) (h1 : n ≤ 4000) (hx : Bd n x) (hy : Bd n y) (q : Q (.bl (decide (x < y))) h) : Calls T (k + 1) "_law_under" [fr x, fr y] h Q E := by
  refine Calls_eq [some (fr x), some (fr y)] hT rfl rfl ?_
  refine ⟨mul_ok h0 (by omega) hx.1 hy.2, mul_ok h0 (by omega) hy.1 hx.2, ?_⟩
  rw [← lt_iff_dec] at q
  exact Dr.here q
theorem lplus_ok (hF : T "_law_frac" = some ⟨2, 5, c__law_frac⟩) (hT : T "_law_plus" = some ⟨2, 2, c__law_plus⟩) {k n : Nat} {x y : Rat} {h : Hep} {Q : VQ} {E : XQ} (h0 : 0 < n) (h1 : n ≤ 3000) (hx : Bd n x) (hy : Bd n y) (q : Q (fr (x + y)) h) : Calls T (k + 2) "_law_plus" [fr x, fr y] h Q E := by
  refine Calls_eq [some (fr x), some (fr y)] hT rfl rfl ?_
  refine ⟨mul_ok h0 (by omega) hx.1 hy.2, mul_ok h0 (by omega) hy.1 hx.2, mul_ok (a := x.den) (b := y.den) h0 (by omega) hx.2 hy.2, ?_⟩
  refine lfrac_ok hF (Int.mul_ne_zero (den_ne x) (den_ne y)) (n := n + n + 1) (by omega) (by omega) (natAbs_add_lt (mul_bd hx.1 hy.2) (mul_bd hy.1 hx.2)) (Nat.lt_of_lt_of_le (mul_bd (a := x.den) (b := y.den) hx.2 hy.2) (Nat.pow_le_pow_right (by decide) (by omega))) ?_
  rw [← add_eq_divInt]
  exact Dr.here q
theorem lminus_ok (hF : T "_law_frac" = some ⟨2, 5, c__law_frac⟩) (hT : T "_law_minus" = some ⟨2, 2, c__law_minus⟩) {k n : Nat} {x y : Rat} {h : Hep} {Q : VQ} {E : XQ} (h0 : 0 < n) (h1 : n ≤ 3000) (hx : Bd n x) (hy : Bd n y) (q : Q (fr (x - y)) h) : Calls T (k + 2) "_law_minus" [fr x, fr y] h Q E := by
  refine Calls_eq [some (fr x), some (fr y)] hT rfl rfl ?_
  refine ⟨mul_ok h0 (by omega) hx.1 hy.2, mul_ok h0 (by omega) hy.1 hx.2, mul_ok (a := x.den) (b := y.den) h0 (by omega) hx.2 hy.2, ?_⟩
  refine lfrac_ok hF (Int.mul_ne_zero (den_ne x) (den_ne y)) (n := n + n + 1) (by omega) (by omega) (natAbs_sub_lt (mul_bd hx.1 hy.2) (mul_bd hy.1 hx.2)) (Nat.lt_of_lt_of_le (mul_bd (a := x.den) (b := y.den) hx.2 hy.2) (Nat.pow_le_pow_right (by decide) (by omega))) ?_
  rw [← sub_eq_divInt]
  exact Dr.here q
theorem lneg_ok (hT : T "_law_q_neg" = some ⟨1, 1, c__law_q_neg⟩) {k : Nat} {x : Rat} {h : Hep} {Q : VQ} {E : XQ} (q : Q (fr (-x)) h) : Calls T (k + 1) "_law_q_neg" [fr x] h Q E := by
  refine Calls_eq [some (fr x)] hT rfl rfl ?_
  rw [fr_neg] at q
  exact Dr.here q
/-! ### fractions read -/
theorem D.tp_int {d : D} {a : Int} (e : d.tp = .int a) : d = .int a := by
  cases d with
  | int i => rw [D.tp] at e; exact e
  | _ => rw [D.tp] at e; cases e
theorem pair_cases {h : Hep} {d : D} {v : Val} {a b : Int} (r : Rd h d v) (e : d.tp = .tup [.int a, .int b]) : v = .tup [.int a, .int b] ∨ ∃ p, v = .ref p ∧ h p = some (.lst [.int a, .int b]) := by
  have key : ∀ {ds : List D} {vs : List Val}, Rds h ds vs → D.tps ds = [.int a, .int b] → vs = [.int a, .int b] := by
    intro ds vs r e
    match ds, r with
    | [], _ => cases e
    | [d1], ⟨_, _, _, _, _⟩ =>
      simp only [D.tps] at e
      injection e with e1 e2
      cases e2
    | [d1, d2], ⟨v1, r1, e1, q1, v2, r2, e2, q2, e3⟩ =>
      simp only [D.tps, List.cons.injEq, and_true] at e
      obtain ⟨f1, f2⟩ := e
      have g1 : d1 = .int a := D.tp_int f1
      have g2 : d2 = .int b := D.tp_int f2
      subst g1 g2
      have z1 : v1 = .int a := q1
      have z2 : v2 = .int b := q2
      rw [e1, e2, show r2 = [] from e3, z1, z2]
    | d1 :: d2 :: d3 :: ds, _ =>
      simp only [D.tps] at e
      injection e with e1 e2
      injection e2 with e3 e4
      cases e4
  cases d with
  | lst ds =>
    obtain ⟨p, xs, rfl, hp, r⟩ := r
    simp only [D.tp, D.tup.injEq] at e
    exact .inr ⟨p, rfl, by rw [hp, key r e]⟩
  | tup ds =>
    obtain ⟨xs, rfl, r⟩ := r
    simp only [D.tp, D.tup.injEq] at e
    exact .inl (by rw [key r e])
  | _ => rw [D.tp] at e; cases e
theorem is_list_ok (hT : T "is_list" = some ⟨1, 1, c_is_list⟩) {k : Nat} {v : Val} {d : D} {h : Hep} {Q : VQ} {E : XQ} (rd : Rd h d v) (q : Q (.bl (d.isL || d.isT)) h) : Calls T (k + 1) "is_list" [v] h Q E := by
  refine Calls_eq [some v] hT rfl rfl ?_
  refine isi_tup rd (b := d.isL || d.isT) (by cases d <;> rfl) ?_
  exact Dr.here q
theorem is_whole_ok (hT : T "is_whole" = some ⟨1, 1, c_is_whole⟩) {k : Nat} {v : Val} {d : D} {h : Hep} {Q : VQ} {E : XQ} (rd : Rd h d v) (q : Q (.bl d.isI) h) : Calls T (k + 1) "is_whole" [v] h Q E := by
  refine Calls_eq [some v] hT rfl rfl ?_
  cases d
  case bl b =>
    refine isi_T rd rfl rfl ?_
    refine isi_T rd rfl rfl ?_
    exact Dr.here q
  case int i =>
    refine isi_T rd rfl rfl ?_
    refine isi_F rd rfl rfl ?_
    exact Dr.here q
  all_goals
    refine isi_F rd rfl rfl ?_
    exact Dr.here q
structure KeptLib (T : Str → Option Fc) : Prop where
  il : T "is_list" = some ⟨1, 1, c_is_list⟩
  iw : T "is_whole" = some ⟨1, 1, c_is_whole⟩
  ir : T "is_row" = some ⟨2, 2, c_is_row⟩
  cd : T "common_divisor" = some ⟨2, 2, c_common_divisor⟩
  kf : T "kept_fraction" = some ⟨1, 1, c_kept_fraction⟩
theorem kept_ok (hT : KeptLib T) {k : Nat} {v : Val} {d : D} {x : Rat} {h : Hep} {Q : VQ} {E : XQ} (rd : Rd h d v) (e : d.tp = dr x) (q : Q (fr x) h) : Calls T (k + 3) "kept_fraction" [v] h Q E := by
  have hl : (d.isL || d.isT) = true := by
    cases d <;> first | rfl | (simp only [D.tp, dr] at e; cases e)
  have hg : Int.gcd x.num x.den = 1 := x.reduced
  have hd : ¬ ((x.den : Int) < 1) := by have := x.den_nz; omega
  have pc := pair_cases rd e
  refine Calls_eq [some v] hT.kf rfl rfl ?_
  refine Calls_eq [some v, some (.int 2)] hT.ir rfl rfl ?_
  refine is_list_ok hT.il rd ?_
  refine ifT hl ?_
  rcases pc with rfl | ⟨p, rfl, hp⟩
  · refine Dr.here ?_
    refine is_whole_ok hT.iw (d := .int x.num) rfl ?_
    refine is_whole_ok hT.iw (d := .int x.den) rfl ?_
    refine ifF (decide_eq_false hd) ?_
    refine cd_ok hT.cd ?_
    refine ifF (by simp [hg]) ?_
    exact Dr.here q
  · refine onL_in hp ?_
    refine Dr.here ?_
    refine onL_in hp ?_
    refine is_whole_ok hT.iw (d := .int x.num) rfl ?_
    refine onL_in hp ?_
    refine is_whole_ok hT.iw (d := .int x.den) rfl ?_
    refine onL_in hp ?_
    refine ifF (decide_eq_false hd) ?_
    refine onL_in hp ?_
    refine onL_in hp ?_
    refine cd_ok hT.cd ?_
    refine ifF (by simp [hg]) ?_
    refine onL_in hp ?_
    refine onL_in hp ?_
    exact Dr.here q
end
end KM
/-! KMW: sameness of data by ==. -/
namespace KM
open PySem PySem.Spec PyProof.Rows L2
mutual
def D.dat : D → PyData
  | .non => .none
  | .bl b => .bool b
  | .int i => .int i
  | .str x => .str x
  | .lst ds => .list (D.dats ds)
  | .tup ds => .tuple (D.dats ds)
def D.dats : List D → List PyData
  | [] => []
  | d :: ds => D.dat d :: D.dats ds
end
mutual
/-- no truth values in it, its texts plain -/
def D.nb : D → Bool
  | .non => true
  | .bl b => false
  | .int i => true
  | .str x => PyData.canLay0 (.str x)
  | .lst ds => D.nbs ds
  | .tup ds => D.nbs ds
def D.nbs : List D → Bool
  | [] => true
  | d :: ds => D.nb d && D.nbs ds
end
mutual
theorem Rd.dat {h : Hep} : ∀ {n : Nat} {d : D} {v : Val}, Rd h d v → d.dep ≤ n → datN n h v = some d.dat
  | n, .non, v, r, _ => by rw [show v = .non from r]; cases n <;> rfl
  | n, .bl b, v, r, _ => by rw [show v = .bl b from r]; cases n <;> rfl
  | n, .int i, v, r, _ => by rw [show v = .int i from r]; cases n <;> rfl
  | n, .str x, v, r, _ => by rw [show v = .str x from r]; cases n <;> rfl
  | 0, .lst ds, v, r, l => by simp only [D.dep] at l; omega
  | 0, .tup ds, v, r, l => by simp only [D.dep] at l; omega
  | n + 1, .lst ds, v, ⟨a, xs, e, ha, r⟩, l => by
    subst e
    simp only [D.dep] at l
    simp only [datN, ha, Rds.dat (n := n) r (by omega), D.dat]
    rfl
  | n + 1, .tup ds, v, ⟨xs, e, r⟩, l => by
    subst e
    simp only [D.dep] at l
    simp only [datN, Rds.dat (n := n) r (by omega), D.dat]
    rfl
theorem Rds.dat {h : Hep} : ∀ {n : Nat} {ds : List D} {vs : List Val}, Rds h ds vs → D.deps ds ≤ n → vs.mapM (datN n h) = some (D.dats ds)
  | n, [], vs, r, _ => by rw [show vs = [] from r]; rfl
  | n, d :: ds, vs, ⟨v, r, e, q, t⟩, l => by
    subst e
    simp only [D.deps] at l
    rw [List.mapM_cons, Rd.dat (n := n) q (by omega), Rds.dat (n := n) t (by omega)]
    rfl
end
mutual
theorem D.lay : ∀ {d : D}, d.nb = true → d.dat.canLay0 = true
  | .non, _ => rfl
  | .bl b, _ => rfl
  | .int i, _ => rfl
  | .str x, h => h
  | .lst ds, h => by simp only [D.dat, PyData.canLay0]; exact D.lays (by simpa only [D.nb] using h)
  | .tup ds, h => by simp only [D.dat, PyData.canLay0]; exact D.lays (by simpa only [D.nb] using h)
theorem D.lays : ∀ {ds : List D}, D.nbs ds = true → PyData.canLayAll0 (D.dats ds) = true
  | [], _ => rfl
  | d :: ds, h => by
    simp only [D.nbs, Bool.and_eq_true] at h
    simp only [D.dats, PyData.canLayAll0, Bool.and_eq_true]
    exact ⟨D.lay h.1, D.lays h.2⟩
end
mutual
theorem D.dat_dep : ∀ {d : D}, d.dat.depth ≤ d.dep
  | .non => by simp [D.dat, PyData.depth]
  | .bl b => by simp [D.dat, PyData.depth]
  | .int i => by simp [D.dat, PyData.depth]
  | .str x => by simp [D.dat, PyData.depth]
  | .lst ds => by simp only [D.dat, PyData.depth, D.dep]; have := D.dats_dep (ds := ds); omega
  | .tup ds => by simp only [D.dat, PyData.depth, D.dep]; have := D.dats_dep (ds := ds); omega
theorem D.dats_dep : ∀ {ds : List D}, PyData.depthAll (D.dats ds) ≤ D.deps ds
  | [] => by simp [D.dats, PyData.depthAll]
  | d :: ds => by
    simp only [D.dats, PyData.depthAll, D.deps]
    have := D.dat_dep (d := d)
    have := D.dats_dep (ds := ds)
    omega
end
theorem D.shaped {d : D} (h : d.nb = true) (l : d.dep ≤ 20) : SeqAt.shaped d.dat = true := by
  unfold SeqAt.shaped
  rw [D.lay h, Bool.true_and]
  have := D.dat_dep (d := d)
  exact decide_eq_true (by omega)
mutual
theorem D.eqv : ∀ {a b : D}, a.nb = true → b.nb = true → PyData.eqv a.dat b.dat = D.beq a b
  | .non, b, _, h => by cases b <;> simp [D.dat, PyData.eqv, D.beq]
  | .bl x, b, h, _ => by simp [D.nb] at h
  | .int x, b, _, h => by cases b <;> simp [D.dat, PyData.eqv, D.beq, D.nb] at * <;> rfl
  | .str x, b, _, h => by cases b <;> simp [D.dat, PyData.eqv, D.beq] <;> rfl
  | .lst x, b, h, h' => by
    cases b <;> simp only [D.dat, PyData.eqv, D.beq]
    · exact D.eqvs h h'
  | .tup x, b, h, h' => by
    cases b <;> simp only [D.dat, PyData.eqv, D.beq]
    · exact D.eqvs h h'
theorem D.eqvs : ∀ {a b : List D}, D.nbs a = true → D.nbs b = true → PyData.eqvAll (D.dats a) (D.dats b) = D.beqs a b
  | [], b, _, h => by cases b <;> simp [D.dats, PyData.eqvAll, D.beqs]
  | x :: xs, b, h, h' => by
    cases b with
    | nil => simp [D.dats, PyData.eqvAll, D.beqs]
    | cons y ys =>
      simp only [D.nbs, Bool.and_eq_true] at h h'
      simp only [D.dats, PyData.eqvAll, D.beqs, D.eqv h.1 h'.1, D.eqvs h.2 h'.2]
end
theorem on_dat {h : Hep} {d : D} {v : Val} {P : PyData → Prop} (r : Rd h d v) (n : d.nb = true) (l : d.dep ≤ 20) (p : P d.dat) : onD h v P := onD_in (r.dat l) (D.shaped n l) p
/-- two things compared as data -/
theorem on2 {h : Hep} {a b : D} {v w : Val} {R : PyData → PyData → Prop} (ra : Rd h a v) (rb : Rd h b w) (na : a.nb = true) (nb : b.nb = true) (la : a.dep ≤ 20) (lb : b.dep ≤ 20) (q : R a.dat b.dat) : onD h v fun d => onD h w fun e => R d e :=
  on_dat ra na la (on_dat rb nb lb q)
theorem any_dats {d : D} (n : d.nb = true) : ∀ {ds : List D}, D.nbs ds = true → ((D.dats ds).any fun z => PyData.eqv z d.dat) = ds.any fun z => D.beq z d
  | [], _ => rfl
  | x :: xs, h => by
    simp only [D.nbs, Bool.and_eq_true] at h
    simp only [D.dats, List.any_cons, D.eqv h.1 n, any_dats n h.2]
/-! lists of fractions -/
theorem rds_frs {h : Hep} : ∀ (L : List Rat), Rds h (L.map dr) (L.map fr)
  | [] => rfl
  | x :: xs => Rds.cons (rd_fr h x) (rds_frs xs)
theorem nb_dr (x : Rat) : (dr x).nb = true := rfl
theorem dep_dr (x : Rat) : (dr x).dep = 1 := rfl
theorem nbs_drs : ∀ (L : List Rat), D.nbs (L.map dr) = true
  | [] => rfl
  | x :: xs => by simp only [List.map_cons, D.nbs, nbs_drs xs, nb_dr]; rfl
theorem deps_drs : ∀ (L : List Rat), D.deps (L.map dr) ≤ 1
  | [] => by simp [D.deps]
  | x :: xs => by simp only [List.map_cons, D.deps, dep_dr]; have := deps_drs xs; omega
theorem beq_dr (x y : Rat) : D.beq (dr x) (dr y) = decide (x = y) := by
  rw [Bool.eq_iff_iff, D.beq_iff, dr_inj, decide_eq_true_iff]
theorem eqv_fr (x y : Rat) : PyData.eqv (dr x).dat (dr y).dat = decide (x = y) := by rw [D.eqv (nb_dr x) (nb_dr y), beq_dr]
theorem on_fr {x y : Rat} {h : Hep} {R : PyData → PyData → Prop} (q : R (dr x).dat (dr y).dat) : onD h (fr x) fun m => onD h (fr y) fun n => R m n :=
  on2 (rd_fr h x) (rd_fr h y) rfl rfl (by rw [dep_dr]; decide) (by rw [dep_dr]; decide) q
theorem any_drs (x : Rat) (L : List Rat) : ((L.map dr).any fun z => D.beq z (dr x)) = decide (x ∈ L) := by
  induction L with
  | nil => simp
  | cons y ys ih =>
    rw [List.map_cons, List.any_cons, ih, beq_dr]
    by_cases e : y = x
    · subst e
      rw [decide_eq_true rfl, Bool.true_or, decide_eq_true List.mem_cons_self]
    · rw [decide_eq_false e, Bool.false_or, decide_eq_decide, List.mem_cons]
      exact ⟨.inr, fun z => z.resolve_left fun w => e w.symm⟩
theorem anyv_drs (x : Rat) (L : List Rat) : ((D.dats (L.map dr)).any fun z => PyData.eqv z (dr x).dat) = decide (x ∈ L) := by
  rw [any_dats (nb_dr x) (nbs_drs L), any_drs]
theorem rd_frs {h : Hep} {p : Addr} {L : List Rat} (hp : h p = some (.lst (L.map fr))) : Rd h (.lst (L.map dr)) (.ref p) := ⟨p, _, rfl, hp, rds_frs L⟩
/-- a list of fractions and another thing compared -/
theorem on_frs {h : Hep} {p : Addr} {L : List Rat} {R : PyData → PyData → Prop} {x : Rat} (hp : h p = some (.lst (L.map fr))) (q : R (dr x).dat (.list (D.dats (L.map dr)))) : onD h (fr x) fun m => onD h (.ref p) fun n => R m n :=
  on2 (rd_fr h x) (rd_frs hp) rfl (by simp only [D.nb]; exact nbs_drs L) (by rw [dep_dr]; decide) (by have := deps_drs L; simp only [D.dep]; omega) q
end KM
/-! KMX: the stream at its address, over a view. -/
namespace KM
open PySem PySem.Spec PyProof.Rows L2
/-- a view of h and of the stream at a, which so many draws may still be taken from -/
def St (a : Addr) (h : Hep) (n : Nat) (g : Hep) : Prop := ∃ S : Strm, S.a = a ∧ S.Ok h n ∧ g = S.on h
theorem St.sub {a : Addr} {h g : Hep} {n : Nat} (s : St a h n g) : Sub h g := by
  obtain ⟨S, _, ok, rfl⟩ := s
  exact Strm.under ok
theorem St.le {a : Addr} {h g : Hep} {n m : Nat} (s : St a h n g) (l : m ≤ n) : St a h m g := by
  obtain ⟨S, e, ok, rfl⟩ := s
  exact ⟨S, e, ok.le l, rfl⟩
theorem St.new {a : Addr} {h g : Hep} {n : Nat} {p : Addr} {o : Ob} (s : St a h n g) (np : g p = none) : St a (hset h p o) n (hset g p o) ∧ h p = none := by
  obtain ⟨S, e, ok, rfl⟩ := s
  obtain ⟨e1, ok1, e2⟩ := Strm.newOn (o := o) ok np
  exact ⟨⟨S, e, ok1, e1⟩, e2⟩
theorem Strm.setOn {S : Strm} {h : Hep} {n : Nat} {p : Addr} {o o' : Ob} (ok : S.Ok h n) (hp : h p = some o') : hset (S.on h) p o = S.on (hset h p o) ∧ S.Ok (hset h p o) n := by
  have pa : p ≠ S.a := fun e => by subst e; rw [ok.ha] at hp; cases hp
  have pb : p ≠ S.b := fun e => by subst e; rw [ok.hb] at hp; cases hp
  refine ⟨?_, ⟨ok.ab, ?_, ?_, ok.d0, ok.n0, ok.nb, ok.m0, ok.m1, ok.len⟩⟩
  · funext x
    unfold Strm.on
    by_cases e : x = p
    · subst e
      rw [hset_same, hset_ne pa, hset_ne pb, hset_same]
    · rw [hset_ne e]
      by_cases ea : x = S.a
      · subst ea; rw [hset_same, hset_same]
      · rw [hset_ne ea, hset_ne ea]
        by_cases eb : x = S.b
        · subst eb; rw [hset_same, hset_same]
        · rw [hset_ne eb, hset_ne eb, hset_ne e]
  · rw [hset_ne (Ne.symm pa)]; exact ok.ha
  · rw [hset_ne (Ne.symm pb)]; exact ok.hb
theorem St.set {a : Addr} {h g : Hep} {n : Nat} {p : Addr} {o o' : Ob} (s : St a h n g) (hp : h p = some o') : St a (hset h p o) n (hset g p o) := by
  obtain ⟨S, e, ok, rfl⟩ := s
  obtain ⟨e1, ok1⟩ := Strm.setOn (o := o) ok hp
  exact ⟨S, e, ok1, e1⟩
/-- what is more in view -/
theorem St.more {a : Addr} {h g g' : Hep} {n : Nat} (s : St a h n g) (sb : Sub g g') : ∃ h', St a h' n g' ∧ Sub h h' := by
  obtain ⟨S, e, ok, rfl⟩ := s
  obtain ⟨h', e1, s1, ok1⟩ := Strm.split ok sb
  exact ⟨h', ⟨S, e, ok1, e1⟩, s1⟩
section
variable {T : Str → Option Fc}
theorem stream_ok (hT : T "_law_stream" = some ⟨1, 1, c__law_stream⟩) {k : Nat} {ns : List Int} {Q : VQ} {E : XQ} (hl : ns.length ≤ 63) (q : ∀ a g, St a (fun _ => none) 999999999 g → Q (.ref a) g) : Calls T (k + 1) "_law_stream" [.rom (ns.map Val.int)] (fun _ => none) Q E := by
  refine Calls_eq [some (.rom (ns.map Val.int))] hT rfl rfl ?_
  refine newL_in fun p np => ?_
  refine newL_in fun a na => ?_
  have ab : a ≠ p := fun e => by subst e; rw [hset_same] at na; cases na
  exact Dr.here (q a _ ⟨⟨a, p, ns, 0, 0, 17⟩, rfl, ⟨ab, rfl, rfl, Int.le_refl 0, Int.le_refl 0, by show (0 : Int) + ((999999999 : Nat) : Int) ≤ 1000000000; decide, by show (0 : Int) ≤ 17; decide, by show (17 : Int) < 2147483647; decide, hl⟩, rfl⟩)
theorem drawS (hD : T "_law_draw" = some ⟨2, 5, c__law_draw⟩) {k : Nat} {a : Addr} {many : Int} {h g : Hep} {b : Nat} {Q : VQ} {E : XQ} (st : St a h (b + 1) g) (m0 : 0 < many) (m1 : many < 18446744073709551616)
    (q : ∀ (d : Int) (g' : Hep), St a h b g' → 0 ≤ d → d < many → Q (.int d) g') : Calls T (k + 1) "_law_draw" [.ref a, .int many] g Q E := by
  obtain ⟨S, rfl, ok, rfl⟩ := st
  exact draw_ok hD ok m0 (lg_small (by omega)) fun d S' sm ok' d0 d1 => q d _ ⟨S', sm.1, ok', rfl⟩ d0 d1
theorem pickS (hD : T "_law_draw" = some ⟨2, 5, c__law_draw⟩) (hT : T "_law_pick" = some ⟨2, 2, c__law_pick⟩) {k : Nat} {a p : Addr} {xs : List Val} {h g : Hep} {b : Nat} {Q : VQ} {E : XQ} (st : St a h (b + 1) g) (hp : h p = some (.lst xs)) (l0 : 0 < xs.length) (l1 : xs.length < 1000000)
    (q : ∀ (i : Nat) (x : Val) (g' : Hep), xs[i]? = some x → St a h b g' → Q x g') : Calls T (k + 2) "_law_pick" [.ref a, .ref p] g Q E := by
  obtain ⟨S, rfl, ok, rfl⟩ := st
  exact pick_lst hD hT ok hp l0 l1 fun i x S' e sm ok' => q i x _ e ⟨S', sm.1, ok', rfl⟩
theorem looseS (hD : T "_law_draw" = some ⟨2, 5, c__law_draw⟩) (hT : T "_law_loose" = some ⟨2, 4, c__law_loose⟩) {n : Nat} {d : D} {v : Val} {a : Addr} {h g : Hep} {b : Nat} {Q : VQ} {E : XQ} (st : St a h (b + d.cnt) g) (hn : d.dep < n) (hw : d.wid < 1000000) (rd : Rd h d v)
    (q : ∀ v' d' h' g', Sub h h' → St a h' b g' → Rd h' d' v' → d'.tp = d.tp → Q v' g') : Calls T n "_law_loose" [.ref a, v] g Q E := by
  obtain ⟨S, rfl, ok, rfl⟩ := st
  exact loose_ok hD hT n d v S h b Q E hn hw rd ok fun v' d' h' S' s sm ok' r e => q v' d' h' _ s ⟨S', sm.1, ok', rfl⟩ r e
end
end KM
/-! K3A: k03, the turns to a fraction. -/
namespace KM
open PySem PySem.Spec PyProof.Rows L2
def c_nearest : Sxs := .cons (.asg (.nm 2) (.call "need_fraction" (.cons (.var 0) .nil))) (.cons (.ife (.or (.not (.call "is_whole" (.cons (.var 1) .nil))) (.cmp .Lt (.var 1) (.int 1))) (.cons .bad .nil) .nil) (.cons (.ife (.cmp .LtE (.ix (.var 2) (.int 1)) (.var 1)) (.cons (.ret (.lst (.cons (.var 2) .nil))) .nil) .nil) (.cons (.par [3, 4] (.cons (.tup (.cons (.bin .FloorDiv (.ix (.var 2) (.int 0)) (.ix (.var 2) (.int 1))) (.cons (.int 1) .nil))) (.cons (.tup (.cons (.bin .Add (.bin .FloorDiv (.ix (.var 2) (.int 0)) (.ix (.var 2) (.int 1))) (.int 1)) (.cons (.int 1) .nil))) .nil))) (.cons (.whil (.cmp .LtE (.bin .Add (.ix (.var 3) (.int 1)) (.ix (.var 4) (.int 1))) (.var 1)) (.cons (.asg (.nm 5) (.tup (.cons (.bin .Add (.ix (.var 3) (.int 0)) (.ix (.var 4) (.int 0))) (.cons (.bin .Add (.ix (.var 3) (.int 1)) (.ix (.var 4) (.int 1))) .nil)))) (.cons (.asg (.tc (.nm 3) (.tc (.nm 4) .tn)) (.ife (.call "is_under" (.cons (.var 2) (.cons (.var 5) .nil))) (.tup (.cons (.var 3) (.cons (.var 5) .nil))) (.tup (.cons (.var 5) (.cons (.var 4) .nil))))) .nil))) (.cons (.par [6, 7] (.cons (.call "minus" (.cons (.var 2) (.cons (.var 3) .nil))) (.cons (.call "minus" (.cons (.var 4) (.cons (.var 2) .nil))) .nil))) (.cons (.ife (.cmp .Eq (.var 6) (.var 7)) (.cons (.ret (.lst (.cons (.var 3) (.cons (.var 4) .nil)))) .nil) .nil) (.cons (.ret (.ife (.call "is_under" (.cons (.var 6) (.cons (.var 7) .nil))) (.lst (.cons (.var 3) .nil)) (.lst (.cons (.var 4) .nil)))) .nil)))))))
def c_simplest_above : Sxs := .cons (.asg (.nm 2) (.bin .FloorDiv (.ix (.var 0) (.int 0)) (.ix (.var 0) (.int 1)))) (.cons (.ife (.call "is_under" (.cons (.tup (.cons (.bin .Add (.var 2) (.int 1)) (.cons (.int 1) .nil))) (.cons (.var 1) .nil))) (.cons (.ret (.tup (.cons (.bin .Add (.var 2) (.int 1)) (.cons (.int 1) .nil)))) .nil) .nil) (.cons (.asg (.nm 3) (.bin .Sub (.ix (.var 1) (.int 0)) (.bin .Mult (.var 2) (.ix (.var 1) (.int 1))))) (.cons (.ife (.cmp .Eq (.var 0) (.tup (.cons (.var 2) (.cons (.int 1) .nil)))) (.cons (.asg (.nm 4) (.bin .Add (.bin .FloorDiv (.ix (.var 1) (.int 1)) (.var 3)) (.int 1))) (.cons (.ret (.tup (.cons (.bin .Add (.bin .Mult (.var 2) (.var 4)) (.int 1)) (.cons (.var 4) .nil)))) .nil)) .nil) (.cons (.asg (.tc (.nm 5) (.tc (.nm 4) .tn)) (.call "simplest_above" (.cons (.tup (.cons (.ix (.var 1) (.int 1)) (.cons (.var 3) .nil))) (.cons (.tup (.cons (.ix (.var 0) (.int 1)) (.cons (.bin .Sub (.ix (.var 0) (.int 0)) (.bin .Mult (.var 2) (.ix (.var 0) (.int 1)))) .nil))) .nil)))) (.cons (.ret (.tup (.cons (.bin .Add (.bin .Mult (.var 2) (.var 5)) (.var 4)) (.cons (.var 5) .nil)))) .nil)))))
def c_simplest : Sxs := .cons (.asg (.tc (.nm 2) (.tc (.nm 3) .tn)) (.call "need_two" (.cons (.var 0) (.cons (.var 1) .nil)))) (.cons (.ife (.not (.call "is_under" (.cons (.var 2) (.cons (.var 3) .nil)))) (.cons .bad .nil) .nil) (.cons (.ife (.chn .Lt .Lt (.ix (.var 2) (.int 0)) (.int 0) (.ix (.var 3) (.int 0))) (.cons (.ret (.tup (.cons (.int 0) (.cons (.int 1) .nil)))) .nil) .nil) (.cons (.ife (.cmp .GtE (.ix (.var 2) (.int 0)) (.int 0)) (.cons (.ret (.call "simplest_above" (.cons (.var 2) (.cons (.var 3) .nil)))) .nil) .nil) (.cons (.asg (.tc (.nm 4) (.tc (.nm 5) .tn)) (.call "simplest_above" (.cons (.tup (.cons (.neg (.ix (.var 3) (.int 0))) (.cons (.ix (.var 3) (.int 1)) .nil))) (.cons (.tup (.cons (.neg (.ix (.var 2) (.int 0))) (.cons (.ix (.var 2) (.int 1)) .nil))) .nil)))) (.cons (.ret (.tup (.cons (.neg (.var 4)) (.cons (.var 5) .nil)))) .nil)))))
def c_path_to : Sxs := .cons (.asg (.nm 1) (.call "need_fraction" (.cons (.var 0) .nil))) (.cons (.ife (.cmp .Lt (.ix (.var 1) (.int 0)) (.int 1)) (.cons .bad .nil) .nil) (.cons (.par [2, 3, 4] (.cons (.tup (.cons (.int 0) (.cons (.int 1) .nil))) (.cons (.tup (.cons (.int 1) (.cons (.int 0) .nil))) (.cons (.lst .nil) .nil)))) (.cons (.asg (.nm 5) (.tup (.cons (.int 1) (.cons (.int 1) .nil)))) (.cons (.whil (.cmp .NotEq (.var 5) (.var 1)) (.cons (.ife (.call "is_under" (.cons (.var 1) (.cons (.var 5) .nil))) (.cons (.expr (.mth .append (.var 4) (.cons (.str "left") .nil))) (.cons (.asg (.nm 3) (.var 5)) .nil)) (.cons (.expr (.mth .append (.var 4) (.cons (.str "right") .nil))) (.cons (.asg (.nm 2) (.var 5)) .nil))) (.cons (.asg (.nm 5) (.tup (.cons (.bin .Add (.ix (.var 2) (.int 0)) (.ix (.var 3) (.int 0))) (.cons (.bin .Add (.ix (.var 2) (.int 1)) (.ix (.var 3) (.int 1))) .nil)))) .nil))) (.cons (.ret (.var 4)) .nil)))))
def c__law_drawn : Sxs := .cons (.asg (.nm 2) (.call "_law_pick" (.cons (.var 0) (.cons (.lst (.cons (.int 1) (.cons (.int 1) (.cons (.int 1) (.cons (.int 2) (.cons (.int 3) (.cons (.int 4) (.cons (.int 5) (.cons (.int 7) .nil))))))))) .nil)))) (.cons (.ret (.call "_law_frac" (.cons (.bin .Sub (.call "_law_draw" (.cons (.var 0) (.cons (.bin .Add (.bin .Mult (.bin .Mult (.int 2) (.var 1)) (.var 2)) (.int 1)) .nil))) (.bin .Mult (.var 1) (.var 2))) (.cons (.var 2) .nil)))) .nil)
def c__law_nearest : Sxs := .cons (.asg (.nm 2) (.lst .nil)) (.cons (.forr (.nm 3) (.rng2 (.int 1) (.bin .Add (.var 1) (.int 1))) (.cons (.forr (.nm 4) (.seq (.tup (.cons (.bin .FloorDiv (.bin .Mult (.ix (.var 0) (.int 0)) (.var 3)) (.ix (.var 0) (.int 1))) (.cons (.bin .Add (.bin .FloorDiv (.bin .Mult (.ix (.var 0) (.int 0)) (.var 3)) (.ix (.var 0) (.int 1))) (.int 1)) .nil)))) (.cons (.asg (.nm 5) (.call "_law_frac" (.cons (.var 4) (.cons (.var 3) .nil)))) (.cons (.ife (.or (.cmp .Eq (.var 2) (.lst .nil)) (.call "_law_under" (.cons (.call "_law_far" (.cons (.var 5) (.cons (.var 0) .nil))) (.cons (.call "_law_far" (.cons (.ix (.var 2) (.int 0)) (.cons (.var 0) .nil))) .nil)))) (.cons (.asg (.nm 2) (.lst (.cons (.var 5) .nil))) .nil) (.cons (.ife (.and (.cmp .NotIn (.var 5) (.var 2)) (.cmp .Eq (.call "_law_far" (.cons (.var 5) (.cons (.var 0) .nil))) (.call "_law_far" (.cons (.ix (.var 2) (.int 0)) (.cons (.var 0) .nil))))) (.cons (.expr (.mth .append (.var 2) (.cons (.var 5) .nil))) .nil) .nil) .nil)) .nil))) .nil)) (.cons (.ret (.ife (.or (.cmp .Lt (.bi .len (.cons (.var 2) .nil)) (.int 2)) (.call "_law_under" (.cons (.ix (.var 2) (.int 0)) (.cons (.ix (.var 2) (.int 1)) .nil)))) (.var 2) (.rev (.var 2)))) .nil))
def c__law_simplest : Sxs := .cons (.asg (.nm 2) (.int 1)) (.cons (.whil (.cmp .Lt (.var 2) (.int 400)) (.cons (.asg (.nm 3) (.bin .Add (.bin .FloorDiv (.bin .Mult (.ix (.var 0) (.int 0)) (.var 2)) (.ix (.var 0) (.int 1))) (.int 1))) (.cons (.asg (.nm 4) (.bin .Sub (.neg (.bin .FloorDiv (.bin .Mult (.neg (.ix (.var 1) (.int 0))) (.var 2)) (.ix (.var 1) (.int 1)))) (.int 1))) (.cons (.ife (.cmp .LtE (.var 3) (.var 4)) (.cons (.ret (.call "_law_frac" (.cons (.ife (.chn .LtE .LtE (.var 3) (.int 0) (.var 4)) (.int 0) (.ife (.cmp .Gt (.var 3) (.int 0)) (.var 3) (.var 4))) (.cons (.var 2) .nil)))) .nil) .nil) (.cons (.asg (.nm 2) (.bin .Add (.var 2) (.int 1))) .nil))))) (.cons (.ret .non) .nil))
def c__law_path_right : Sxs := .cons (.asg (.nm 2) (.call "path_to" (.cons (.call "_law_loose" (.cons (.var 0) (.cons (.var 1) .nil))) .nil))) (.cons (.par [3, 4, 5] (.cons (.tup (.cons (.int 0) (.cons (.int 1) .nil))) (.cons (.tup (.cons (.int 1) (.cons (.int 0) .nil))) (.cons (.lst .nil) .nil)))) (.cons (.whil (.cmp .Lt (.bi .len (.cons (.var 5) .nil)) (.int 400)) (.cons (.asg (.nm 6) (.tup (.cons (.bin .Add (.ix (.var 3) (.int 0)) (.ix (.var 4) (.int 0))) (.cons (.bin .Add (.ix (.var 3) (.int 1)) (.ix (.var 4) (.int 1))) .nil)))) (.cons (.ife (.cmp .NotEq (.bin .Sub (.bin .Mult (.ix (.var 4) (.int 0)) (.ix (.var 3) (.int 1))) (.bin .Mult (.ix (.var 3) (.int 0)) (.ix (.var 4) (.int 1)))) (.int 1)) (.cons (.ret (.bl false)) .nil) .nil) (.cons (.ife (.cmp .Eq (.var 6) (.var 1)) (.cons (.ret (.call "_law_same" (.cons (.lst (.cons (.var 2) (.cons (.kall "path_to" [0] (.cons (.var 1) .nil)) .nil))) (.cons (.lst (.cons (.var 5) (.cons (.var 5) .nil))) .nil)))) .nil) .nil) (.cons (.asg (.nm 7) (.cmp .Lt (.bin .Mult (.ix (.var 1) (.int 0)) (.ix (.var 6) (.int 1))) (.bin .Mult (.ix (.var 6) (.int 0)) (.ix (.var 1) (.int 1))))) (.cons (.asg (.tc (.nm 3) (.tc (.nm 4) .tn)) (.ife (.var 7) (.tup (.cons (.var 3) (.cons (.var 6) .nil))) (.tup (.cons (.var 6) (.cons (.var 4) .nil))))) (.cons (.expr (.mth .append (.var 5) (.cons (.ife (.var 7) (.str "left") (.str "right")) .nil))) .nil))))))) (.cons (.ret (.bl true)) .nil)))
theorem hset_hset {h : Hep} {a : Addr} {o o' : Ob} : hset (hset h a o) a o' = hset h a o' := by
  funext x
  by_cases e : x = a
  · subst e; rw [hset_same, hset_same]
  · rw [hset_ne e, hset_ne e, hset_ne e]
/-- a raw pair -/
def pr (a b : Int) : Val := .tup [.int a, .int b]
def dp (a b : Int) : D := .tup [.int a, .int b]
theorem rd_pr (h : Hep) (a b : Int) : Rd h (dp a b) (pr a b) := ⟨_, rfl, _, _, rfl, rfl, _, _, rfl, rfl, rfl⟩
theorem beq_dp (a b c d : Int) : D.beq (dp a b) (dp c d) = decide (a = c ∧ b = d) := by
  simp only [dp, D.beq, D.beqs, Bool.and_true]
  by_cases h : a = c
  · by_cases h' : b = d
    · simp [h, h']
    · simp [h, h']
  · simp [h]
theorem nb_dp (a b : Int) : (dp a b).nb = true := rfl
theorem dep_dp (a b : Int) : (dp a b).dep = 1 := rfl
theorem eqv_pr (a b c d : Int) : PyData.eqv (dp a b).dat (dp c d).dat = decide (a = c ∧ b = d) := by rw [D.eqv (nb_dp a b) (nb_dp c d), beq_dp]
theorem on_pr {a b c d : Int} {h : Hep} {R : PyData → PyData → Prop} (q : R (dp a b).dat (dp c d).dat) : onD h (pr a b) fun m => onD h (pr c d) fun n => R m n :=
  on2 (rd_pr h a b) (rd_pr h c d) rfl rfl (by rw [dep_dp]; decide) (by rw [dep_dp]; decide) q
/-- subtracting on -/
inductive Tn : Nat → Nat → List Str → Prop
  | here (u : Nat) : Tn u u []
  | left {u w : Nat} {t : List Str} : u < w → Tn u (w - u) t → Tn u w ("left" :: t)
  | right {u w : Nat} {t : List Str} : w < u → Tn (u - w) w t → Tn u w ("right" :: t)
theorem Tn.ex : ∀ (n u w : Nat), u + w ≤ n → 0 < u → 0 < w → ∃ t, Tn u w t
  | 0, u, w, h, hu, hw => by omega
  | n + 1, u, w, h, hu, hw => by
    rcases Nat.lt_trichotomy u w with l | e | l
    · obtain ⟨t, ht⟩ := Tn.ex n u (w - u) (by omega) hu (by omega)
      exact ⟨_, .left l ht⟩
    · subst e; exact ⟨_, .here u⟩
    · obtain ⟨t, ht⟩ := Tn.ex n (u - w) w (by omega) (by omega) hw
      exact ⟨_, .right l ht⟩
theorem Tn.det {u w : Nat} {t t' : List Str} (h : Tn u w t) (h' : Tn u w t') : t = t' := by
  induction h generalizing t' with
  | here u => cases h' with
    | here => rfl
    | left l _ => omega
    | right l _ => omega
  | left l _ ih => cases h' with
    | here => omega
    | left l2 h2 => rw [ih h2]
    | right l2 _ => omega
  | right l _ ih => cases h' with
    | here => omega
    | left l2 _ => omega
    | right l2 h2 => rw [ih h2]
/-- the ends about a fraction: so far from both -/
structure Ends (a b : Nat) (l0 l1 h0 h1 u w : Nat) : Prop where
  ea : a = u * h0 + w * l0
  eb : b = u * h1 + w * l1
  dt : h0 * l1 = l0 * h1 + 1
  u0 : 0 < u
  w0 : 0 < w
theorem Ends.left {a b l0 l1 h0 h1 u w : Nat} (e : Ends a b l0 l1 h0 h1 u w) (h : u < w) : Ends a b l0 l1 (l0 + h0) (l1 + h1) u (w - u) := by
  obtain ⟨ea, eb, dt, u0, w0⟩ := e
  obtain ⟨d, rfl⟩ : ∃ d, w = u + d := ⟨w - u, by omega⟩
  rw [Nat.add_sub_cancel_left]
  refine ⟨?_, ?_, ?_, u0, by omega⟩
  · rw [ea]; grind
  · rw [eb]; grind
  · grind
theorem Ends.right {a b l0 l1 h0 h1 u w : Nat} (e : Ends a b l0 l1 h0 h1 u w) (h : w < u) : Ends a b (l0 + h0) (l1 + h1) h0 h1 (u - w) w := by
  obtain ⟨ea, eb, dt, u0, w0⟩ := e
  obtain ⟨d, rfl⟩ : ∃ d, u = w + d := ⟨u - w, by omega⟩
  rw [Nat.add_sub_cancel_left]
  refine ⟨?_, ?_, ?_, by omega, w0⟩
  · rw [ea]; grind
  · rw [eb]; grind
  · grind
/-- the middle is the fraction just if both are as far -/
theorem Ends.here {a b l0 l1 h0 h1 u w : Nat} (e : Ends a b l0 l1 h0 h1 u w) (g : Nat.gcd a b = 1) : (l0 + h0 = a ∧ l1 + h1 = b) ↔ u = w := by
  obtain ⟨ea, eb, dt, u0, w0⟩ := e
  constructor
  · rintro ⟨e0, e1⟩
    have k : (l0 + h0) * (u * h1 + w * l1) = (l1 + h1) * (u * h0 + w * l0) := by rw [← ea, ← eb, ← e0, ← e1, Nat.mul_comm]
    have z : (l0 : Int) * h1 + 1 = h0 * l1 := by exact_mod_cast dt.symm
    have k' : ((l0 : Int) + h0) * (u * h1 + w * l1) = (l1 + h1) * (u * h0 + w * l0) := by exact_mod_cast k
    have : (u : Int) = w := by grind
    omega
  · rintro rfl
    have k1 : u ∣ a := ⟨h0 + l0, by rw [ea, Nat.mul_add]⟩
    have k2 : u ∣ b := ⟨h1 + l1, by rw [eb, Nat.mul_add]⟩
    have k3 := Nat.dvd_gcd k1 k2
    rw [g] at k3
    have k4 : u = 1 := Nat.dvd_one.mp k3
    subst k4
    omega
theorem Ends.under {a b l0 l1 h0 h1 u w : Nat} (e : Ends a b l0 l1 h0 h1 u w) : ((a : Int) * (l1 + h1) < (l0 + h0) * b) ↔ u < w := by
  obtain ⟨ea, eb, dt, u0, w0⟩ := e
  have z : (l0 : Int) * h1 + 1 = h0 * l1 := by exact_mod_cast dt.symm
  have ea' : (a : Int) = u * h0 + w * l0 := by exact_mod_cast ea
  have eb' : (b : Int) = u * h1 + w * l1 := by exact_mod_cast eb
  have : (l0 + h0 : Int) * b - a * (l1 + h1) = w - u := by rw [ea', eb']; grind
  omega
theorem Ends.small {a b l0 l1 h0 h1 u w : Nat} (e : Ends a b l0 l1 h0 h1 u w) : l0 + h0 ≤ a ∧ l1 + h1 ≤ b := by
  obtain ⟨ea, eb, dt, u0, w0⟩ := e
  have := Nat.le_mul_of_pos_left h0 u0
  have := Nat.le_mul_of_pos_left l0 w0
  have := Nat.le_mul_of_pos_left h1 u0
  have := Nat.le_mul_of_pos_left l1 w0
  omega
end KM
/-! K3B: k03, the walk of path_to. -/
namespace KM
open PySem PySem.Spec PyProof.Rows L2
section
variable {T : Str → Option Fc}
theorem under_raw (hT : T "is_under" = some ⟨2, 2, c_is_under⟩) {k n : Nat} {a b c d : Int} {h : Hep} {Q : VQ} {E : XQ} (h0 : 0 < n) (h1 : n ≤ 4000) (ha : a.natAbs < 2 ^ n) (hb : b.natAbs < 2 ^ n) (hc : c.natAbs < 2 ^ n) (hd : d.natAbs < 2 ^ n) (q : Q (.bl (decide (a * d < c * b))) h) : Calls T (k + 1) "is_under" [pr a b, pr c d] h Q E := by
  refine Calls_eq [some (pr a b), some (pr c d)] hT rfl rfl ?_
  refine ⟨mul_ok h0 (by omega) ha hd, mul_ok h0 (by omega) hc hb, ?_⟩
  exact Dr.here q
structure NeedLib (T : Str → Option Fc) : Prop extends KeptLib T where
  nf : T "need_fraction" = some ⟨1, 2, c_need_fraction⟩
theorem need_ok (hT : NeedLib T) {k : Nat} {v : Val} {d : D} {x : Rat} {h : Hep} {Q : VQ} {E : XQ} (rd : Rd h d v) (e : d.tp = dr x) (q : Q (fr x) h) : Calls T (k + 4) "need_fraction" [v] h Q E := by
  refine Calls_eq [some v, none] hT.nf rfl rfl ?_
  refine kept_ok hT.toKeptLib rd e ?_
  exact Dr.here q
theorem nat_lt_pow {n : Nat} {a : Nat} (h : a < 2 ^ n) : ((a : Int)).natAbs < 2 ^ n := h
structure PathLib (T : Str → Option Fc) : Prop extends NeedLib T where
  un : T "is_under" = some ⟨2, 2, c_is_under⟩
  pt : T "path_to" = some ⟨1, 6, c_path_to⟩
theorem path_ok (hT : PathLib T) {k : Nat} {v : Val} {d : D} {x : Rat} {a : Nat} {h : Hep} {Q : VQ} {E : XQ} (rd : Rd h d v) (e : d.tp = dr x) (ea : x.num = a) (a0 : 0 < a) (la : a < 100000) (lb : x.den < 100000) (q : ∀ t, Tn a x.den t → newL h (t.map Val.str) Q) : Calls T (k + 5) "path_to" [v] h Q E := by
  obtain ⟨t, ht⟩ := Tn.ex _ a x.den (Nat.le_refl _) a0 x.den_pos
  have q := q t ht
  have b0 := x.den_pos
  have g : Nat.gcd a x.den = 1 := by have := x.reduced; rw [ea] at this; exact this
  refine Calls_eq [some v, none, none, none, none, none] hT.pt rfl rfl ?_
  refine need_ok hT.toNeedLib rd e ?_
  refine ifF (decide_eq_false (by omega)) ?_
  refine newL_in fun p np => ?_
  refine ⟨fun m env g => ∃ (l0 l1 h0 h1 u w : Nat) (done rest : List Str), Ends a x.den l0 l1 h0 h1 u w ∧ Tn u w rest ∧ t = done ++ rest ∧ m = u + w ∧ done.length + u + w ≤ a + x.den ∧
      env = [some v, some (fr x), some (pr l0 l1), some (pr h0 h1), some (.ref p), some (pr (l0 + h0) (l1 + h1))] ∧ g = hset h p (.lst (done.map Val.str)),
    ⟨_, 0, 1, 1, 0, a, x.den, [], t, ⟨by omega, by omega, by omega, a0, b0⟩, ht, rfl, rfl, by simp, rfl, rfl⟩, ?_⟩
  rintro m env g' ⟨l0, l1, h0, h1, u, w, done, rest, en, tn, et, rfl, le, rfl, rfl⟩
  have sm := en.small
  refine on_pr (a := l0 + h0) (b := l1 + h1) (c := x.num) (d := x.den) ?_
  have eb : decide ((l0 + h0 : Int) = x.num ∧ (l1 + h1 : Int) = x.den) = decide (u = w) := by
    rw [decide_eq_decide, ← en.here g, ea]
    omega
  have lu : ∀ y : Nat, y < 100000 → ((y : Int)).natAbs < 2 ^ 64 := fun y hy => by show y < 2 ^ 64; omega
  have lu2 : ∀ y z : Nat, y + z < 100000 → ((y : Int) + z).natAbs < 2 ^ 64 := fun y z hy => by omega
  cases tn with
  | here =>
    refine ifF (by rw [eqv_pr, eb]; simp) ?_
    rw [List.append_nil] at et
    subst et
    exact Dr.here (newL_at q p np)
  | @left u w rest l tn =>
    refine ifT (by rw [eqv_pr, eb]; simp; omega) ?_
    refine under_raw hT.un (n := 64) (by decide) (by decide) (by rw [ea]; exact lu _ la) (lu _ lb) (lu2 _ _ (by omega)) (lu2 _ _ (by omega)) ?_
    refine ifT (decide_eq_true (by rw [ea]; exact en.under.mpr l)) ?_
    refine ⟨onL_in hset_same trivial, onL_in hset_same ⟨?_, ?_⟩⟩
    · show (done.map Val.str).length < 1000000
      rw [List.length_map]; omega
    · refine ⟨u + (w - u), by have := en.u0; omega, l0, l1, l0 + h0, l1 + h1, u, w - u, done ++ [_], rest, en.left l, tn, by rw [et, List.append_assoc]; rfl, rfl, by rw [List.length_append, List.length_singleton]; have := en.u0; omega, by rw [Int.natCast_add, Int.natCast_add]; rfl, ?_⟩
      rw [hset_hset, List.map_append]
      rfl
  | @right u w rest l tn =>
    refine ifT (by rw [eqv_pr, eb]; simp; omega) ?_
    refine under_raw hT.un (n := 64) (by decide) (by decide) (by rw [ea]; exact lu _ la) (lu _ lb) (lu2 _ _ (by omega)) (lu2 _ _ (by omega)) ?_
    refine ifF (decide_eq_false (by rw [ea]; exact fun z => by have := en.under.mp z; omega)) ?_
    refine ⟨onL_in hset_same trivial, onL_in hset_same ⟨?_, ?_⟩⟩
    · show (done.map Val.str).length < 1000000
      rw [List.length_map]; omega
    · refine ⟨(u - w) + w, by have := en.w0; omega, l0 + h0, l1 + h1, h0, h1, u - w, w, done ++ [_], rest, en.right l, tn, by rw [et, List.append_assoc]; rfl, rfl, by rw [List.length_append, List.length_singleton]; have := en.w0; omega, by rw [Int.natCast_add, Int.natCast_add]; rfl, ?_⟩
      rw [hset_hset, List.map_append]
      rfl
end
end KM
/-! K3C: k03, the law's look at path_to. -/
namespace KM
open PySem PySem.Spec PyProof.Rows L2
theorem D.beq_refl (d : D) : D.beq d d = true := D.beq_iff.mpr rfl
theorem rds_strs {h : Hep} : ∀ (t : List Str), Rds h (t.map D.str) (t.map Val.str)
  | [] => rfl
  | x :: xs => Rds.cons (show Rd h (.str x) (.str x) from rfl) (rds_strs xs)
theorem deps_strs : ∀ (t : List Str), D.deps (t.map D.str) = 0
  | [] => rfl
  | x :: xs => by simp only [List.map_cons, D.deps, deps_strs xs, D.dep]; rfl
theorem wids_strs : ∀ (t : List Str), D.wids (t.map D.str) = 0
  | [] => rfl
  | x :: xs => by simp only [List.map_cons, D.wids, wids_strs xs, D.wid]; rfl
theorem Tn.len {u w : Nat} {t : List Str} (h : Tn u w t) : 0 < u → 0 < w → t.length ≤ u + w := by
  induction h with
  | here u => simp
  | left l _ ih => intro hu hw; have := ih hu (by omega); rw [List.length_cons]; omega
  | right l _ ih => intro hu hw; have := ih (by omega) hw; rw [List.length_cons]; omega
theorem wid_dr (x : Rat) : (dr x).wid = 2 := rfl
structure LPathLib (T : Str → Option Fc) : Prop extends PathLib T where
  dr : T "_law_draw" = some ⟨2, 5, c__law_draw⟩
  lo : T "_law_loose" = some ⟨2, 4, c__law_loose⟩
  sa : T "_law_same" = some ⟨2, 4, c__law_same⟩
  pr : T "_law_path_right" = some ⟨2, 8, c__law_path_right⟩
theorem cnt_dr (x : Rat) : (dr x).cnt = 1 := rfl
theorem tp_dr (x : Rat) : (dr x).tp = dr x := rfl
section
variable {T : Str → Option Fc}
theorem lpath_ok (hT : LPathLib T) {k : Nat} {S : Strm} {x : Rat} {a b : Nat} {h : Hep} {Q : VQ} {E : XQ} (ok : S.Ok h (b + 1)) (ea : x.num = a) (a0 : 0 < a) (la : a < 100000) (lb : x.den < 100000)
    (q : ∀ h' S', Sub h h' → S.Same S' → S'.Ok h' b → Q (.bl true) (S'.on h')) : Calls T (k + 6) "_law_path_right" [.ref S.a, fr x] (S.on h) Q E := by
  obtain ⟨t, ht⟩ := Tn.ex _ a x.den (Nat.le_refl _) a0 x.den_pos
  have b0 := x.den_pos
  have g : Nat.gcd a x.den = 1 := by have := x.reduced; rw [ea] at this; exact this
  refine Calls_eq [some (.ref S.a), some (fr x), none, none, none, none, none, none] hT.pr rfl rfl ?_
  refine loose_ok hT.dr hT.lo (k + 5) (dr x) (fr x) S h b _ _ (by rw [dep_dr]; omega) (by rw [wid_dr]; decide) (rd_fr h x) ok fun v' d' h1 S1 s1 sm1 ok1 rd1 e1 => ?_
  rw [tp_dr] at e1
  refine path_ok (k := k) hT.toPathLib (rd1.sub (Strm.under ok1)) e1 ea a0 la lb fun t' ht' => ?_
  rw [← ht.det ht']
  clear t' ht'
  refine newL_in fun p1 np1 => ?_
  obtain ⟨eh2, ok2, hp1⟩ := Strm.newOn (o := .lst (t.map Val.str)) ok1 np1
  rw [eh2]
  have s2 : Sub h1 (hset h1 p1 (.lst (t.map Val.str))) := (Sub.refl h1).new hp1
  refine newL_in fun p np => ?_
  obtain ⟨eh3, ok3, hp⟩ := Strm.newOn (o := .lst []) ok2 np
  rw [eh3]
  generalize hg : hset h1 p1 (.lst (t.map Val.str)) = h2 at *
  have ne1 : h2 p1 = some (.lst (t.map Val.str)) := by rw [← hg]; exact hset_same
  have s2' : ∀ o, Sub h1 (hset h2 p o) := fun o => s2.new hp
  have lt_t := ht.len a0 b0
  refine ⟨fun m env g => ∃ (l0 l1 h0 h1 u w : Nat) (done rest : List Str) (z6 z7 : Option Val), Ends a x.den l0 l1 h0 h1 u w ∧ Tn u w rest ∧ t = done ++ rest ∧ m = u + w ∧
      env = [some (.ref S.a), some (fr x), some (.ref p1), some (pr l0 l1), some (pr h0 h1), some (.ref p), z6, z7] ∧ g = S1.on (hset h2 p (.lst (done.map Val.str))),
    ⟨_, 0, 1, 1, 0, a, x.den, [], t, none, none, ⟨by omega, by omega, by omega, a0, b0⟩, ht, rfl, rfl, rfl, rfl⟩, ?_⟩
  rintro m env g' ⟨l0, l1, h0, h1', u, w, done, rest, z6, z7, en, tn, et, rfl, rfl, rfl⟩
  have okd : S1.Ok (hset h2 p (.lst (done.map Val.str))) b := (Strm.setOn (o := .lst (done.map Val.str)) ok3 hset_same).2 |> fun z => by rw [hset_hset] at z; exact z
  have hpd : (S1.on (hset h2 p (.lst (done.map Val.str)))) p = some (.lst (done.map Val.str)) := Strm.under okd _ _ hset_same
  have sm := en.small
  have lu : ∀ y : Nat, y < 100000 → ((y : Int)).natAbs < 2 ^ 64 := fun y hy => by show y < 2 ^ 64; omega
  have lu2 : ∀ y z : Nat, y + z < 100000 → ((y : Int) + z).natAbs < 2 ^ 64 := fun y z hy => by omega
  have eb : decide ((l0 + h0 : Int) = x.num ∧ (l1 + h1' : Int) = x.den) = decide (u = w) := by
    rw [decide_eq_decide, ← en.here g, ea]
    omega
  have dlen : done.length ≤ a + x.den := by rw [et, List.length_append] at lt_t; omega
  refine onL_in hpd ?_
  by_cases d4 : ((done.map Val.str).length : Int) < 400
  · refine ifT (decide_eq_true d4) ?_
    refine ⟨mul_ok (n := 64) (by decide) (by decide) (lu _ (by omega)) (lu _ (by omega)), mul_ok (n := 64) (by decide) (by decide) (lu _ (by omega)) (lu _ (by omega)), ?_⟩
    refine ifF (by have := en.dt; have z : (h0 : Int) * l1 = l0 * h1' + 1 := by exact_mod_cast this
                   rw [z]; simp; omega) ?_
    refine on_pr (a := l0 + h0) (b := l1 + h1') (c := x.num) (d := x.den) ?_
    cases tn with
    | here =>
      refine ifT (by rw [eqv_pr, eb]; simp) ?_
      rw [List.append_nil] at et
      subst et
      refine path_ok (k := k) hT.toPathLib (rd_fr _ x) (tp_dr x) ea a0 la lb fun t' ht' => ?_
      rw [← ht.det ht']
      clear t' ht'
      refine newL_in fun p3 np3 => ?_
      refine newL_in fun p4 np4 => ?_
      refine newL_in fun p5 np5 => ?_
      have hp1d : (S1.on (hset h2 p (.lst (t.map Val.str)))) p1 = some (.lst (t.map Val.str)) := Strm.under okd _ _ (by
        rw [hset_ne (fun e => by subst e; rw [hp] at ne1; cases ne1)]; exact ne1)
      have t3 := (Sub.refl (S1.on (hset h2 p (.lst (t.map Val.str))))).new (o := .lst (t.map Val.str)) np3
      have t4 := (Sub.refl _).new (o := .lst [.ref p1, .ref p3]) np4
      have t5 := (Sub.refl _).new (o := .lst [.ref p, .ref p]) np5
      have r1 : Rd (S1.on (hset h2 p (.lst (t.map Val.str)))) (.lst (t.map D.str)) (.ref p1) := ⟨p1, _, rfl, hp1d, rds_strs t⟩
      have r0 : Rd (S1.on (hset h2 p (.lst (t.map Val.str)))) (.lst (t.map D.str)) (.ref p) := ⟨p, _, rfl, hpd, rds_strs t⟩
      have s5 := t3.trans (t4.trans t5)
      refine same_ok hT.sa (k + 5) (.lst [.lst (t.map D.str), .lst (t.map D.str)]) (.lst [.lst (t.map D.str), .lst (t.map D.str)]) _ _ _ _ _ ?_ ?_ ⟨p4, _, rfl, t5 _ _ hset_same, Rds.cons (r1.sub s5) (Rds.cons (Rd.sub (t4.trans t5) ⟨p3, _, rfl, hset_same, rds_strs t⟩) rfl)⟩ ⟨p5, _, rfl, hset_same, Rds.cons (r0.sub s5) (Rds.cons (r0.sub s5) rfl)⟩ ?_
      · simp only [D.dep, D.deps, deps_strs]; omega
      · simp only [D.wid, D.wids, wids_strs, List.length_map, List.length_cons, List.length_nil]; omega
      · rw [D.beq_refl]
        exact ⟨_, Sub.trans (Strm.sub (s2' _)) s5, q _ _ s1 sm1 ok1⟩
    | @left u w rest l tn =>
      refine ifF (by rw [eqv_pr, eb]; simp; omega) ?_
      refine ⟨mul_ok (n := 64) (by decide) (by decide) (by rw [ea]; exact lu _ la) (lu2 _ _ (by omega)), mul_ok (n := 64) (by decide) (by decide) (lu2 _ _ (by omega)) (lu _ lb), ?_⟩
      have dl : decide (x.num * (l1 + h1' : Int) < (l0 + h0 : Int) * x.den) = true := decide_eq_true (by rw [ea]; exact en.under.mpr l)
      refine ifT dl ?_
      refine ⟨onL_in hpd trivial, ?_⟩
      refine ifT dl ?_
      refine onL_in hpd ⟨?_, ?_⟩
      · show (done.map Val.str).length < 1000000
        rw [List.length_map]; omega
      · refine ⟨u + (w - u), by have := en.u0; omega, l0, l1, l0 + h0, l1 + h1', u, w - u, done ++ [_], rest, _, _, en.left l, tn, by rw [et, List.append_assoc]; rfl, rfl, by rw [Int.natCast_add, Int.natCast_add]; rfl, ?_⟩
        rw [(Strm.setOn okd hset_same).1, hset_hset, List.map_append]
        rfl
    | @right u w rest l tn =>
      refine ifF (by rw [eqv_pr, eb]; simp; omega) ?_
      refine ⟨mul_ok (n := 64) (by decide) (by decide) (by rw [ea]; exact lu _ la) (lu2 _ _ (by omega)), mul_ok (n := 64) (by decide) (by decide) (lu2 _ _ (by omega)) (lu _ lb), ?_⟩
      have dl : decide (x.num * (l1 + h1' : Int) < (l0 + h0 : Int) * x.den) = false := decide_eq_false (by rw [ea]; exact fun z => by have := en.under.mp z; omega)
      refine ifF dl ?_
      refine ⟨onL_in hpd trivial, ?_⟩
      refine ifF dl ?_
      refine onL_in hpd ⟨?_, ?_⟩
      · show (done.map Val.str).length < 1000000
        rw [List.length_map]; omega
      · refine ⟨(u - w) + w, by have := en.w0; omega, l0 + h0, l1 + h1', h0, h1', u - w, w, done ++ [_], rest, _, _, en.right l, tn, by rw [et, List.append_assoc]; rfl, rfl, by rw [Int.natCast_add, Int.natCast_add]; rfl, ?_⟩
        rw [(Strm.setOn okd hset_same).1, hset_hset, List.map_append]
        rfl
  · refine ifF (decide_eq_false d4) ?_
    exact ⟨_, Strm.sub (s2' _), q _ _ s1 sm1 ok1⟩
end
end KM
/-! K3D: k03, the simplest between two: its arithmetic. -/
namespace KM
open PySem PySem.Spec PyProof.Rows L2
/-- the simplest between a / b and c / d -/
structure Smp (a b c d p q : Nat) : Prop where
  lo : a * q < p * b
  hi : p * d < c * q
  mn : ∀ y z : Nat, a * z < y * b → y * d < c * z → q ≤ z ∧ p ≤ y
theorem Smp.one {a b c d w : Nat} (hb : 0 < b) (hw : w = a / b) (h : (w + 1) * d < c) : Smp a b c d (w + 1) 1 := by
  subst hw
  refine ⟨by rw [Nat.mul_one, Nat.mul_comm]; exact Nat.lt_mul_div_succ a hb, by omega, fun y z h1 h2 => ?_⟩
  have z0 : 0 < z := by
    rcases Nat.eq_zero_or_pos z with e | e
    · subst e; simp at h2
    · exact e
  have k : a / b * b ≤ a := Nat.div_mul_le_self a b
  have k2 : a / b * z < y := by
    apply Nat.lt_of_mul_lt_mul_right (a := b)
    calc a / b * z * b = a / b * b * z := by grind
      _ ≤ a * z := Nat.mul_le_mul_right z k
      _ < y * b := h1
  have k3 : a / b ≤ a / b * z := Nat.le_mul_of_pos_right _ z0
  omega
theorem Smp.two {c d w t : Nat} (hc : c = w * d + t) (t0 : 0 < t) : Smp w 1 c d (w * (d / t + 1) + 1) (d / t + 1) := by
  have e : d < t * (d / t + 1) := Nat.lt_mul_div_succ d t0
  refine ⟨by omega, ?_, fun y z h1 h2 => ?_⟩
  · rw [hc]; grind
  · obtain ⟨u, rfl⟩ : ∃ u, y = w * z + 1 + u := ⟨y - (w * z + 1), by omega⟩
    rw [hc] at h2
    have k : d < t * z := by grind
    have k2 : d / t < z := (Nat.div_lt_iff_lt_mul t0).mpr (by rw [Nat.mul_comm]; exact k)
    refine ⟨k2, ?_⟩
    have := Nat.mul_le_mul_left w (show d / t + 1 ≤ z from k2)
    omega
theorem Smp.more {a b c d w r t p q : Nat} (ha : a = w * b + r) (hc : c = w * d + t) (hb : 0 < b) (s : Smp d t b r p q) : Smp a b c d (w * p + q) p := by
  obtain ⟨lo, hi, mn⟩ := s
  refine ⟨by rw [ha]; grind, by rw [hc]; grind, fun y z h1 h2 => ?_⟩
  have k2 : w * z ≤ y := by
    apply Nat.le_of_lt
    apply Nat.lt_of_mul_lt_mul_right (a := b)
    rw [ha] at h1
    grind
  obtain ⟨u, rfl⟩ : ∃ u, y = w * z + u := ⟨y - w * z, by omega⟩
  rw [ha] at h1
  rw [hc] at h2
  have k := mn z u (by grind) (by grind)
  have := Nat.mul_le_mul_left w k.2
  omega
/-- the numbers are no greater than the ends' sums -/
theorem Smp.small {a b c d p q : Nat} (s : Smp a b c d p q) (h : a * d < c * b) : p ≤ a + c ∧ q ≤ b + d := by
  have := s.mn (a + c) (b + d) (by grind) (by grind)
  omega
/-! ### with a sign -/
/-- strictly between -/
def In (a b c d k n : Int) : Prop := a * n < k * b ∧ k * d < c * n
structure SmI (a b c d s q : Int) : Prop where
  q0 : 0 < q
  i : In a b c d s q
  mn : ∀ y z : Int, 0 < z → In a b c d y z → q ≤ z ∧ s.natAbs ≤ y.natAbs
theorem Smp.up {a b c d p q : Nat} (hb : 0 < b) (s : Smp a b c d p q) : SmI a b c d p q := by
  have q0 : 0 < q := by
    rcases Nat.eq_zero_or_pos q with e | e
    · have := s.hi; subst e; simp at this
    · exact e
  refine ⟨by omega, ⟨by exact_mod_cast s.lo, by exact_mod_cast s.hi⟩, fun y z z0 ⟨h1, h2⟩ => ?_⟩
  have y0 : 0 < y := by
    have k1 : (0 : Int) ≤ a * z := Int.mul_nonneg (by omega) (by omega)
    have k2 : 0 < y * b := by omega
    exact Int.pos_of_mul_pos_left k2 (by omega)
  obtain ⟨y', rfl⟩ := Int.eq_ofNat_of_zero_le (Int.le_of_lt y0)
  obtain ⟨z', rfl⟩ := Int.eq_ofNat_of_zero_le (Int.le_of_lt z0)
  have := s.mn y' z' (by exact_mod_cast h1) (by exact_mod_cast h2)
  omega
theorem Smp.dn {a b c d p q : Nat} (hb : 0 < b) (s : Smp a b c d p q) : SmI (-c) d (-a) b (-p) q := by
  have u := s.up hb
  refine ⟨u.q0, ⟨by have := u.i.2; grind, by have := u.i.1; grind⟩, fun y z z0 ⟨h1, h2⟩ => ?_⟩
  have := u.mn (-y) z z0 ⟨by grind, by grind⟩
  rw [Int.natAbs_neg] at this ⊢
  exact this
theorem SmI.nought {a b c d : Int} (ha : a < 0) (hc : 0 < c) : SmI a b c d 0 1 := ⟨by decide, ⟨by omega, by omega⟩, fun y z z0 _ => ⟨by omega, by simp⟩⟩
theorem In.scale {a b c d k n g : Int} (hg : 0 < g) : In a b c d (g * k) (g * n) ↔ In a b c d k n := by
  unfold In
  constructor
  · rintro ⟨h1, h2⟩
    exact ⟨Int.lt_of_mul_lt_mul_left (a := g) (by grind) (by omega), Int.lt_of_mul_lt_mul_left (a := g) (by grind) (by omega)⟩
  · rintro ⟨h1, h2⟩
    have := Int.mul_lt_mul_of_pos_left h1 hg
    have := Int.mul_lt_mul_of_pos_left h2 hg
    exact ⟨by grind, by grind⟩
theorem SmI.gcd {a b c d s q : Int} (h : SmI a b c d s q) : Int.gcd s q = 1 := by
  have g0 : 0 < Int.gcd s q := Int.gcd_pos_of_ne_zero_right _ (by have := h.q0; omega)
  generalize hg : Int.gcd s q = g at *
  obtain ⟨s', es⟩ : (g : Int) ∣ s := by rw [← hg]; exact Int.gcd_dvd_left ..
  obtain ⟨q', eq⟩ : (g : Int) ∣ q := by rw [← hg]; exact Int.gcd_dvd_right ..
  have q0 := h.q0
  have q0' : 0 < q' := Int.pos_of_mul_pos_right (a := (g : Int)) (by rw [← eq]; exact q0) (by omega)
  have i := h.i
  have i2 : In a b c d s' q' := by rw [es, eq] at i; exact (In.scale (by omega)).mp i
  have := (h.mn s' q' q0' i2).1
  rw [eq] at this
  have k : (g : Int) ≤ 1 := Int.le_of_mul_le_mul_right (a := q') (by omega) q0'
  omega
/-- what the law finds -/
structure LSm (a b c d k n : Int) : Prop where
  n0 : 0 < n
  i : In a b c d k n
  ln : ∀ n' k', 0 < n' → n' < n → ¬ In a b c d k' n'
  nr : ∀ k', In a b c d k' n → k.natAbs ≤ k'.natAbs
theorem LSm.eq {a b c d k n s q : Int} (hb : 0 < b) (hd : 0 < d) (l : LSm a b c d k n) (h : SmI a b c d s q) : k = s ∧ n = q := by
  have e1 := h.mn k n l.n0 l.i
  have e2 : ¬ q < n := fun z => l.ln q s h.q0 z h.i
  have en : n = q := by omega
  subst en
  have e3 := l.nr s h.i
  refine ⟨?_, rfl⟩
  have e4 : k.natAbs = s.natAbs := by omega
  rcases Int.natAbs_eq_natAbs_iff.mp e4 with e | e
  · exact e
  · have i1 := l.i
    have i2 := h.i
    rw [e] at i1
    have i0 : In a b c d 0 n := by
      unfold In at *
      have z1 : -s * b = -(s * b) := Int.neg_mul s b
      have z2 : -s * d = -(s * d) := Int.neg_mul s d
      omega
    have := l.nr 0 i0
    omega
end KM
/-! K3E: k03, the simplest between two: its walks. -/
namespace KM
open PySem PySem.Spec PyProof.Rows L2
theorem sub_to {i j k : Int} {h : Hep} {Q : VQ} (e : i - j = k) (q : Q (.int k) h) : opB .Sub (.int i) (.int j) h Q := by subst e; exact q
theorem add_to {i j k : Int} {h : Hep} {Q : VQ} (e : i + j = k) (q : Q (.int k) h) : opB .Add (.int i) (.int j) h Q := by subst e; exact q
theorem mul_to {i j k : Int} {h : Hep} {Q : VQ} (c : CMulW i j) (e : i * j = k) (q : Q (.int k) h) : opB .Mult (.int i) (.int j) h Q := by subst e; exact ⟨c, q⟩
theorem fdiv_to {i j k : Int} {h : Hep} {Q : VQ} (c : CDivG j) (e : i.fdiv j = k) (q : Q (.int k) h) : opB .FloorDiv (.int i) (.int j) h Q := by subst e; exact ⟨c, q⟩
theorem mod_to {i j k : Int} {h : Hep} {Q : VQ} (c : j ≠ 0) (e : i.fmod j = k) (q : Q (.int k) h) : opB .Mod (.int i) (.int j) h Q := by subst e; exact ⟨c, q⟩
section
variable {T : Str → Option Fc}
theorem nat_fdiv (a b : Nat) : (a : Int).fdiv b = ((a / b : Nat) : Int) := by rw [fdiv_nat]; rfl
theorem sa_ok (hU : T "is_under" = some ⟨2, 2, c_is_under⟩) (hT : T "simplest_above" = some ⟨2, 6, c_simplest_above⟩) : ∀ (n a b c d : Nat) {h : Hep} {Q : VQ} {E : XQ}, (2 * b ≤ n ∨ 2 * d + 1 ≤ n) → 0 < b → 0 < d → a * d < c * b → Nat.gcd a b = 1 → Nat.gcd c d = 1 →
    a < 2 ^ 32 → b < 2 ^ 32 → c < 2 ^ 32 → d < 2 ^ 32 → (∀ p q, Smp a b c d p q → Q (pr p q) h) → Calls T (n + 2) "simplest_above" [pr a b, pr c d] h Q E := by
  intro n
  induction n with
  | zero => intro a b c d h Q E hn hb; omega
  | succ n ih =>
    intro a b c d h Q E hn b0 d0 hlt hg hg2 la lb lc ld q
    refine Calls_eq [some (pr a b), some (pr c d), none, none, none, none] hT rfl rfl ?_
    refine ⟨divg_ok (n := 32) (by omega) (by simpa using lb) (by decide) (by decide), ?_⟩
    rw [nat_fdiv]
    generalize hw : a / b = w
    have wa : w ≤ a := by rw [← hw]; exact Nat.div_le_self a b
    have aw : w * b ≤ a := by rw [← hw]; exact Nat.div_mul_le_self a b
    refine under_raw hU (n := 64) (a := (w : Int) + 1) (b := 1) (by decide) (by decide) (by omega) (by decide) (by omega) (by omega) ?_
    by_cases h1 : ((w : Int) + 1) * d < c * 1
    · refine ifT (decide_eq_true h1) ?_
      have := q (w + 1) 1 (Smp.one b0 hw.symm (by
        rw [Int.mul_one] at h1
        exact_mod_cast h1))
      exact Dr.here this
    · refine ifF (decide_eq_false h1) ?_
      have h1' : c ≤ (w + 1) * d := by
        rw [Int.mul_one] at h1
        have : (c : Int) ≤ ((w : Int) + 1) * d := by omega
        exact_mod_cast this
      have wd : w * d < c := by
        apply Nat.lt_of_mul_lt_mul_right (a := b)
        calc w * d * b = w * b * d := by grind
          _ ≤ a * d := Nat.mul_le_mul_right d aw
          _ < c * b := hlt
      obtain ⟨t, hc⟩ : ∃ t, c = w * d + t := ⟨c - w * d, by omega⟩
      obtain ⟨r, ha⟩ : ∃ r, a = w * b + r := ⟨a - w * b, by omega⟩
      have t0 : 0 < t := by omega
      have td : t ≤ d := by rw [Nat.add_mul] at h1'; omega
      have rb : r < b := by
        have := Nat.lt_mul_div_succ a b0
        rw [hw, Nat.mul_add, Nat.mul_comm b w] at this
        omega
      have hc' : (c : Int) - w * d = t := by have : (c : Int) = w * d + t := by exact_mod_cast hc
                                             omega
      have ha' : (a : Int) - w * b = r := by have : (a : Int) = w * b + r := by exact_mod_cast ha
                                             omega
      refine ⟨mul_ok (n := 64) (by decide) (by decide) (by omega) (by omega), ?_⟩
      refine sub_to hc' ?_
      refine on_pr (a := a) (b := b) (c := w) (d := 1) ?_
      by_cases r0 : r = 0
      · have bd : b ∣ a := ⟨w, by rw [ha, r0, Nat.add_zero, Nat.mul_comm]⟩
        have b1 : b = 1 := by rw [← hg]; exact (Nat.gcd_eq_right bd).symm
        have aw2 : a = w := by rw [ha, r0, b1]; omega
        refine ifT (by rw [eqv_pr]; exact decide_eq_true ⟨by omega, by omega⟩) ?_
        refine ⟨divg_ok (n := 32) (by omega) (by show t < 2 ^ 32; omega) (by decide) (by decide), ?_⟩
        rw [nat_fdiv]
        have dt : d / t ≤ d := Nat.div_le_self d t
        have l2 : (((d / t : Nat) : Int) + 1).natAbs < 2 ^ 64 := by generalize d / t = e at dt ⊢; omega
        refine ⟨mul_ok (n := 64) (by decide) (by decide) (by omega) l2, ?_⟩
        have := q _ _ (by rw [b1, aw2]; exact Smp.two hc t0)
        exact Dr.here this
      · refine ifF (by rw [eqv_pr]; exact decide_eq_false (by omega)) ?_
        refine ⟨mul_ok (n := 64) (by decide) (by decide) (by omega) (by omega), ?_⟩
        refine sub_to ha' ?_
        have lt2 : d * r < b * t := by rw [ha, hc] at hlt; grind
        have k0 : Nat.gcd b r = 1 := by
          have k1 : Nat.gcd b r ∣ a := by rw [ha]; exact Nat.dvd_add (Nat.dvd_mul_left_of_dvd (Nat.gcd_dvd_left ..) _) (Nat.gcd_dvd_right ..)
          have k2 := Nat.dvd_gcd k1 (Nat.gcd_dvd_left b r)
          rw [hg] at k2
          exact Nat.dvd_one.mp k2
        refine ih d t b r (by omega) t0 (by omega) lt2 ?_ k0 ld (by omega) lb (by omega) fun p q' s => ?_
        · have k1 : Nat.gcd d t ∣ c := by rw [hc]; exact Nat.dvd_add (Nat.dvd_mul_left_of_dvd (Nat.gcd_dvd_left ..) _) (Nat.gcd_dvd_right ..)
          have k2 := Nat.dvd_gcd k1 (Nat.gcd_dvd_left d t)
          rw [hg2] at k2
          exact Nat.dvd_one.mp k2
        · have sm := s.small lt2
          refine ⟨mul_ok (n := 64) (by decide) (by decide) (by omega) (by omega), ?_⟩
          have := q _ _ (s.more ha hc b0)
          exact Dr.here this
structure SimpLib (T : Str → Option Fc) : Prop extends KeptLib T where
  un : T "is_under" = some ⟨2, 2, c_is_under⟩
  n2 : T "need_two" = some ⟨2, 4, c_need_two⟩
  sa : T "simplest_above" = some ⟨2, 6, c_simplest_above⟩
  si : T "simplest" = some ⟨2, 6, c_simplest⟩
theorem need2_ok (hT : KeptLib T) (h2 : T "need_two" = some ⟨2, 4, c_need_two⟩) {k : Nat} {v v2 : Val} {d d2 : D} {x y : Rat} {h : Hep} {Q : VQ} {E : XQ} (rd : Rd h d v) (e : d.tp = dr x) (rd2 : Rd h d2 v2) (e2 : d2.tp = dr y) (q : Q (.tup [fr x, fr y]) h) : Calls T (k + 4) "need_two" [v, v2] h Q E := by
  refine Calls_eq [some v, some v2, none, none] h2 rfl rfl ?_
  refine kept_ok hT rd e ?_
  refine kept_ok hT rd2 e2 ?_
  exact Dr.here q
theorem simplest_ok (hT : SimpLib T) {k : Nat} {v v2 : Val} {d d2 : D} {x y : Rat} {h : Hep} {Q : VQ} {E : XQ} (rd : Rd h d v) (e : d.tp = dr x) (rd2 : Rd h d2 v2) (e2 : d2.tp = dr y) (hxy : x < y) (bx : Bd 32 x) (bY : Bd 32 y) (hk : 2 * x.den + 1 ≤ k)
    (q : ∀ s t, SmI x.num x.den y.num y.den s t → Q (pr s t) h) : Calls T (k + 5) "simplest" [v, v2] h Q E := by
  refine Calls_eq [some v, some v2, none, none, none, none] hT.si rfl rfl ?_
  refine need2_ok hT.toKeptLib hT.n2 rd e rd2 e2 ?_
  refine under_ok hT.un (n := 64) (by decide) (by decide) (bx.mono (by decide)) (bY.mono (by decide)) ?_
  refine ifF (by rw [decide_eq_true hxy]; rfl) ?_
  have lt := (Rat.lt_iff x y).mp hxy
  have bx1 := bx.1
  have bx2 := bx.2
  have by1 := bY.1
  have by2 := bY.2
  by_cases n1 : x.num < 0
  · refine ifT (decide_eq_true n1) ?_
    by_cases n2 : 0 < y.num
    · refine ifT (decide_eq_true n2) ?_
      exact Dr.here (q 0 1 (SmI.nought n1 n2))
    · refine ifF (decide_eq_false n2) ?_
      refine ifF (decide_eq_false (by omega)) ?_
      obtain ⟨a, ha⟩ : ∃ a : Nat, -y.num = a := ⟨(-y.num).toNat, by omega⟩
      obtain ⟨c, hc⟩ : ∃ c : Nat, -x.num = c := ⟨(-x.num).toNat, by omega⟩
      have ha2 : y.num = -a := by omega
      have hc2 : x.num = -c := by omega
      show Calls T _ "simplest_above" [pr (-y.num) y.den, pr (-x.num) x.den] _ _ _
      rw [ha, hc]
      have hg : Nat.gcd a y.den = 1 := by have := y.reduced; rw [ha2, Int.natAbs_neg] at this; exact this
      have hg2 : Nat.gcd c x.den = 1 := by have := x.reduced; rw [hc2, Int.natAbs_neg] at this; exact this
      refine sa_ok hT.un hT.sa (k + 2) a y.den c x.den (by omega) y.den_pos x.den_pos ?_ hg hg2 (by omega) by2 (by omega) bx2 fun p q' s => ?_
      · rw [ha2, hc2] at lt
        have : (a : Int) * x.den < c * y.den := by grind
        exact_mod_cast this
      · have s2 := s.dn y.den_pos
        rw [← ha2, ← hc2] at s2
        exact Dr.here (q _ _ s2)
  · refine ifF (decide_eq_false n1) ?_
    refine ifF (by rfl) ?_
    refine ifT (decide_eq_true (by omega)) ?_
    obtain ⟨a, ha⟩ : ∃ a : Nat, x.num = a := ⟨x.num.toNat, by omega⟩
    obtain ⟨c, hc⟩ : ∃ c : Nat, y.num = c := ⟨y.num.toNat, by
      have : 0 ≤ x.num * y.den := Int.mul_nonneg (by omega) (by omega)
      have : 0 < y.num * x.den := by omega
      have z : 0 < y.num := Int.pos_of_mul_pos_left this (by have := x.den_pos; omega)
      omega⟩
    show Calls T _ "simplest_above" [pr x.num x.den, pr y.num y.den] _ _ _
    rw [ha, hc]
    rw [ha, hc] at lt q
    have hg : Nat.gcd a x.den = 1 := by have := x.reduced; rw [ha] at this; exact this
    have hg2 : Nat.gcd c y.den = 1 := by have := y.reduced; rw [hc] at this; exact this
    refine sa_ok hT.un hT.sa (k + 2) a x.den c y.den (by omega) x.den_pos y.den_pos (by exact_mod_cast lt) hg hg2 (by omega) bx2 (by omega) by2 fun p q' s => ?_
    exact Dr.here (q _ _ (s.up x.den_pos))
structure LSimpLib (T : Str → Option Fc) : Prop where
  fr : T "_law_frac" = some ⟨2, 5, c__law_frac⟩
  ls : T "_law_simplest" = some ⟨2, 5, c__law_simplest⟩
theorem In.bound {a b c d k n M : Int} (hb : 0 < b) (hd : 0 < d) (i : In a b c d k n) (hM : 0 ≤ M) (h1 : -M ≤ a * n) (h2 : c * n ≤ M) : -M ≤ k ∧ k ≤ M := by
  obtain ⟨i1, i2⟩ := i
  constructor
  · apply Int.not_lt.mp
    intro z
    have : k * b ≤ k * 1 := Int.mul_le_mul_of_nonpos_left (by omega) (by omega)
    omega
  · apply Int.not_lt.mp
    intro z
    have : k * 1 ≤ k * d := Int.mul_le_mul_of_nonneg_left (by omega) (by omega)
    omega
theorem lsimplest_ok (hT : LSimpLib T) {k : Nat} {x y : Rat} {h : Hep} {Q : VQ} {E : XQ} (bx : Bd 32 x) (bY : Bd 32 y) (q0 : Q .non h) (q : ∀ m n, LSm x.num x.den y.num y.den m n → n < 400 → Q (fr (Rat.divInt m n)) h) : Calls T (k + 2) "_law_simplest" [fr x, fr y] h Q E := by
  refine Calls_eq [some (fr x), some (fr y), none, none, none] hT.ls rfl rfl ?_
  have bx1 := bx.1
  have bx2 := bx.2
  have by1 := bY.1
  have by2 := bY.2
  have xd : (0 : Int) < x.den := by have := x.den_pos; omega
  have yd : (0 : Int) < y.den := by have := y.den_pos; omega
  refine ⟨fun m env g => g = h ∧ ∃ (n : Nat) (z3 z4 : Option Val), env = [some (fr x), some (fr y), some (.int n), z3, z4] ∧ m = 400 - n ∧ 1 ≤ n ∧ n ≤ 400 ∧ ∀ n' k' : Int, 0 < n' → n' < n → ¬ In x.num x.den y.num y.den k' n',
    ⟨_, rfl, 1, none, none, rfl, rfl, by decide, by decide, fun n' k' a b => by omega⟩, ?_⟩
  rintro m env g ⟨rfl, n, z3, z4, rfl, rfl, n1, n2, ls⟩
  by_cases n4 : (n : Int) < 400
  · refine ifT (decide_eq_true n4) ?_
    have bn : ((n : Int)).natAbs < 2 ^ 32 := by omega
    have m1 := mul_bd bx1 bn
    have m2 := mul_bd by1 bn
    refine ⟨mul_ok (n := 32) (by decide) (by decide) bx1 bn, divg_ok (n := 32) (by omega) (by simpa using bx2) (by decide) (by decide), ?_⟩
    refine ⟨mul_ok (n := 32) (by decide) (by decide) (by rw [Int.natAbs_neg]; exact by1) bn, divg_ok (n := 32) (by omega) (by simpa using by2) (by decide) (by decide), ?_⟩
    have lo : ∀ k' : Int, (x.num * n).fdiv x.den + 1 ≤ k' ↔ x.num * n < k' * x.den := fun k' => by
      rw [Int.fdiv_eq_ediv_of_nonneg _ (by omega), ← Int.ediv_lt_iff_lt_mul xd]
      omega
    have hi : ∀ k' : Int, k' ≤ -((-y.num * n).fdiv y.den) - 1 ↔ k' * y.den < y.num * n := fun k' => by
      rw [Int.fdiv_eq_ediv_of_nonneg _ (by omega)]
      have : -y.num * n / y.den < -k' ↔ -y.num * n < -k' * y.den := Int.ediv_lt_iff_lt_mul yd
      have e1 : -y.num * n = -(y.num * n) := Int.neg_mul _ _
      have e2 : -k' * y.den = -(k' * y.den) := Int.neg_mul _ _
      omega
    have nn : (0 : Int) < n := by omega
    have key : ∀ m : Int, (x.num * n).fdiv x.den + 1 ≤ m → m ≤ -((-y.num * n).fdiv y.den) - 1 → (∀ k', (x.num * n).fdiv x.den + 1 ≤ k' → k' ≤ -((-y.num * n).fdiv y.den) - 1 → m.natAbs ≤ k'.natAbs) → Calls T (k + 1) "_law_frac" [.int m, .int n] g (fun v h1 => Dr h1 (Q v)) (fun v h1 => Dr h1 (E v)) := fun m h1 h2 h3 => by
      have i : In x.num x.den y.num y.den m n := ⟨(lo m).mp h1, (hi m).mp h2⟩
      have bd := i.bound (M := 2 ^ 64) xd yd (by decide) (by omega) (by omega)
      refine lfrac_ok hT.fr (n := 70) (by omega) (by decide) (by decide) (by omega) (by omega) ?_
      exact Dr.here (q m n ⟨nn, i, fun n' k' a b => ls n' k' a b, fun k' ik => h3 k' ((lo k').mpr ik.1) ((hi k').mpr ik.2)⟩ n4)
    by_cases lh : (x.num * n).fdiv x.den + 1 ≤ -((-y.num * n).fdiv y.den) - 1
    · refine ifT (decide_eq_true lh) ?_
      by_cases c1 : (x.num * n).fdiv x.den + 1 ≤ 0
      · refine ifT (decide_eq_true c1) ?_
        by_cases c2 : 0 ≤ -((-y.num * n).fdiv y.den) - 1
        · refine ifT (decide_eq_true c2) ?_
          exact key 0 c1 c2 fun k' _ _ => by simp
        · refine ifF (decide_eq_false c2) ?_
          refine ifF (decide_eq_false (by omega)) ?_
          exact key _ lh (Int.le_refl _) fun k' _ _ => by omega
      · refine ifF (decide_eq_false c1) ?_
        refine ifF (by rfl) ?_
        refine ifT (decide_eq_true (by omega)) ?_
        exact key _ (Int.le_refl _) lh fun k' _ _ => by omega
    · refine ifF (decide_eq_false lh) ?_
      refine ⟨400 - (n + 1), by omega, rfl, n + 1, _, _, rfl, rfl, by omega, by omega, fun n' k' a b => ?_⟩
      by_cases e : n' = n
      · subst e
        intro i
        have k1 := (lo k').mpr i.1
        have k2 := (hi k').mpr i.2
        omega
      · exact ls n' k' a (by omega)
  · refine ifF (decide_eq_false n4) ?_
    exact Dr.here q0
end
end KM
/-! K3F: k03, the nearest: its arithmetic. -/
namespace KM
open PySem PySem.Spec PyProof.Rows L2
def far (x y : Rat) : Rat := if 0 ≤ x - y then x - y else -(x - y)
theorem far_le {x y : Rat} (h : y ≤ x) : far x y = x - y := by unfold far; rw [if_pos (by grind)]
theorem far_ge {x y : Rat} (h : x ≤ y) : far x y = y - x := by
  unfold far
  split
  · grind
  · grind
def stepN (f : Rat) (L : List Rat) (c : Rat) : List Rat := match L with
  | [] => [c]
  | x :: _ => if far c f < far x f then [c] else if c ∉ L ∧ far c f = far x f then L ++ [c] else L
structure InvN (f : Rat) (seen : Rat → Prop) (L : List Rat) : Prop where
  sn : ∀ x ∈ L, seen x
  nd : L.Nodup
  le : ∀ x ∈ L, ∀ s, seen s → far x f ≤ far s f
  eq : ∀ x ∈ L, ∀ s, seen s → far s f = far x f → s ∈ L
  ne : ∀ s, seen s → L ≠ []
theorem InvN.step {f c : Rat} {seen : Rat → Prop} {L : List Rat} (i : InvN f seen L) : InvN f (fun s => seen s ∨ s = c) (stepN f L c) := by
  obtain ⟨sn, nd, le, eq, ne⟩ := i
  cases L with
  | nil =>
    have no : ∀ s, ¬ seen s := fun s h => ne s h rfl
    refine ⟨?_, ?_, ?_, ?_, ?_⟩
    · intro x hx; exact .inr (by simpa [stepN] using hx)
    · simp [stepN]
    · intro x hx s hs
      rw [show x = c by simpa [stepN] using hx]
      rcases hs with h | rfl
      · exact (no s h).elim
      · exact Rat.le_refl
    · intro x hx s hs e
      rcases hs with h | rfl
      · exact (no s h).elim
      · simp [stepN]
    · intro s _ z; simp [stepN] at z
  | cons y ys =>
    have ly := le y List.mem_cons_self
    unfold stepN
    dsimp only
    split
    next hlt =>
      refine ⟨fun x hx => .inr (by simpa using hx), by simp, ?_, ?_, fun s _ z => by simp at z⟩
      · intro x hx s hs
        rw [show x = c by simpa using hx]
        rcases hs with h | rfl
        · have := ly s h; grind
        · exact Rat.le_refl
      · intro x hx s hs e
        rw [show x = c by simpa using hx] at e
        rcases hs with h | rfl
        · have := ly s h; exfalso; grind
        · simp
    next hlt =>
      have same : ∀ x ∈ y :: ys, far x f = far y f := fun x hx => by
        have h1 := le x hx y (sn y List.mem_cons_self)
        have h2 := ly x (sn x hx)
        grind
      split
      next hc =>
        obtain ⟨h1, h2⟩ := hc
        have all : ∀ x ∈ y :: ys ++ [c], far x f = far y f := fun x hx => by
          rcases List.mem_append.mp hx with h | h
          · exact same x h
          · rw [show x = c by simpa using h]; exact h2
        refine ⟨fun x hx => ?_, ?_, fun x hx s hs => ?_, fun x hx s hs e => ?_, fun s _ z => by simp at z⟩
        · rcases List.mem_append.mp hx with h | h
          · exact .inl (sn x h)
          · exact .inr (by simpa using h)
        · rw [List.nodup_append]
          refine ⟨nd, by simp, fun a ha b hb => ?_⟩
          rw [show b = c by simpa using hb]
          rintro rfl
          exact h1 ha
        · rw [all x hx]
          rcases hs with h | rfl
          · exact ly s h
          · rw [h2]; exact Rat.le_refl
        · rcases hs with h | rfl
          · refine List.mem_append_left _ (eq y List.mem_cons_self s h ?_)
            rw [e, all x hx]
          · exact List.mem_append_right _ (by simp)
      next hc =>
        refine ⟨fun x hx => .inl (sn x hx), nd, fun x hx s hs => ?_, fun x hx s hs e => ?_, fun s _ z => by simp at z⟩
        · rcases hs with h | rfl
          · exact le x hx s h
          · rw [same x hx]; grind
        · rcases hs with h | rfl
          · exact eq x hx s h e
          · rw [same x hx] at e
            apply Decidable.byContradiction
            intro n
            exact hc ⟨n, e⟩
def lowN (f : Rat) (n : Int) : Rat := Rat.divInt ((f.num * n).fdiv f.den) n
def hiN (f : Rat) (n : Int) : Rat := Rat.divInt ((f.num * n).fdiv f.den + 1) n
def nearL (f : Rat) : Nat → Int → List Rat → List Rat
  | 0, _, L => L
  | k + 1, n, L => nearL f k (n + 1) (stepN f (stepN f L (lowN f n)) (hiN f n))
theorem InvN.congr {f : Rat} {s s' : Rat → Prop} {L : List Rat} (h : ∀ x, s x ↔ s' x) (i : InvN f s L) : InvN f s' L := by
  have : s = s' := funext fun x => propext (h x)
  rw [← this]; exact i
theorem nearL_inv (f : Rat) : ∀ (k : Nat) (n : Int) (L : List Rat), InvN f (fun s => ∃ j, 1 ≤ j ∧ j < n ∧ (s = lowN f j ∨ s = hiN f j)) L → 1 ≤ n →
    InvN f (fun s => ∃ j, 1 ≤ j ∧ j < n + k ∧ (s = lowN f j ∨ s = hiN f j)) (nearL f k n L)
  | 0, n, L, i, hn => by simpa [nearL] using i
  | k + 1, n, L, i, hn => by
    have := nearL_inv f k (n + 1) _ ((i.step (c := lowN f n)).step (c := hiN f n) |>.congr fun x => ?_) (by omega)
    · have e : n + 1 + (k : Int) = n + ((k + 1 : Nat) : Int) := by omega
      rw [e] at this
      exact this
    · constructor
      · rintro ((⟨j, a, b, c⟩ | h) | h)
        · exact ⟨j, a, by omega, c⟩
        · exact ⟨n, hn, by omega, .inl h⟩
        · exact ⟨n, hn, by omega, .inr h⟩
      · rintro ⟨j, a, b, c⟩
        by_cases e : j = n
        · subst e
          rcases c with c | c
          · exact .inl (.inr c)
          · exact .inr c
        · exact .inl (.inl ⟨j, a, by omega, c⟩)
def seenN (f : Rat) (m : Int) (s : Rat) : Prop := ∃ j, 1 ≤ j ∧ j ≤ m ∧ (s = lowN f j ∨ s = hiN f j)
theorem nearL_all (f : Rat) (m : Nat) : InvN f (seenN f m) (nearL f m 1 []) := by
  refine (nearL_inv f m 1 [] ⟨by simp, by simp, by simp, by simp, fun s h => ?_⟩ (by decide)).congr fun x => ?_
  · obtain ⟨j, a, b, _⟩ := h; omega
  · constructor
    · rintro ⟨j, a, b, c⟩; exact ⟨j, a, by omega, c⟩
    · rintro ⟨j, a, b, c⟩; exact ⟨j, a, by omega, c⟩
/-- in their order -/
def ordN (L : List Rat) : List Rat := match L with
  | a :: b :: _ => if a < b then L else L.reverse
  | _ => L
theorem one_of {f t : Rat} {seen : Rat → Prop} {L : List Rat} (i : InvN f seen L) (ht : seen t) (h : ∀ s, seen s → s ≠ t → far t f < far s f) : ordN L = [t] := by
  have all : ∀ x ∈ L, x = t := fun x hx => by
    apply Decidable.byContradiction
    intro n
    have := h x (i.sn x hx) n
    have := i.le x hx t ht
    grind
  match L, i.nd, i.ne t ht, all with
  | [], _, z, _ => exact (z rfl).elim
  | [a], _, _, al => rw [al a (by simp)]; rfl
  | a :: b :: r, nd, _, al =>
    have e1 := al a (by simp)
    have e2 := al b (by simp)
    subst e1
    subst e2
    simp at nd
theorem two_of {f t u : Rat} {seen : Rat → Prop} {L : List Rat} (i : InvN f seen L) (ht : seen t) (hu : seen u) (tu : t < u) (e : far t f = far u f) (h : ∀ s, seen s → s ≠ t → s ≠ u → far t f < far s f) : ordN L = [t, u] := by
  have all : ∀ x ∈ L, x = t ∨ x = u := fun x hx => by
    apply Decidable.byContradiction
    intro n
    have := h x (i.sn x hx) (fun z => n (.inl z)) (fun z => n (.inr z))
    have := i.le x hx t ht
    grind
  have mt : t ∈ L ∧ u ∈ L := by
    cases hL : L with
    | nil => exact (i.ne t ht hL).elim
    | cons a r =>
      have ha : a ∈ L := by rw [hL]; simp
      rw [← hL]
      rcases all a ha with z | z
      · subst z; exact ⟨ha, i.eq a ha u hu e.symm⟩
      · subst z; exact ⟨i.eq a ha t ht e, ha⟩
  have ntu : t ≠ u := by rintro rfl; exact Rat.lt_irrefl tu
  match L, i.nd, mt, all with
  | [], _, mt, _ => simp at mt
  | [a], _, mt, _ =>
    have e1 : t = a := by simpa using mt.1
    have e2 : u = a := by simpa using mt.2
    exact (ntu (e1.trans e2.symm)).elim
  | [a, b], nd, mt, al =>
    have nab : a ≠ b := by simpa using nd
    unfold ordN
    dsimp only
    rcases al a (by simp) with z | z <;> rcases al b (by simp) with z2 | z2 <;> subst z <;> subst z2
    · exact (nab rfl).elim
    · rw [if_pos tu]
    · rw [if_neg (by grind)]; rfl
    · exact (nab rfl).elim
  | a :: b :: c :: r, nd, mt, al =>
    exfalso
    have h1 := al a (by simp)
    have h2 := al b (by simp)
    have h3 := al c (by simp)
    simp only [List.nodup_cons, List.mem_cons, not_or] at nd
    grind
end KM
/-! K3G: k03, the nearest: between two ends. -/
namespace KM
open PySem PySem.Spec PyProof.Rows L2
theorem fr_co {a b : Int} (hb : 0 < b) (g : Int.gcd a b = 1) : fr (Rat.divInt a b) = pr a b := by
  rw [divInt_fr (by omega), g, Int.sign_eq_one_of_pos hb, Int.one_mul, Int.natAbs_of_nonneg (by omega)]
  show pr (a / ((1 : Nat) : Int)) (b / ((1 : Nat) : Int)) = _
  rw [show ((1 : Nat) : Int) = 1 from rfl, Int.ediv_one, Int.ediv_one]
theorem num_mul {a b : Int} (hb : b ≠ 0) : (Rat.divInt a b).num * b = a * (Rat.divInt a b).den :=
  (Rat.divInt_eq_divInt_iff (den_ne _) hb).mp (Rat.num_divInt_den _)
theorem divInt_lt {a b : Int} (hb : 0 < b) (y : Rat) : Rat.divInt a b < y ↔ a * y.den < y.num * b := by
  rw [Rat.lt_iff]
  have e := num_mul (a := a) (b := b) (by omega)
  generalize Rat.divInt a b = x at e ⊢
  have xd : (0 : Int) < x.den := by have := x.den_pos; omega
  rw [← Int.mul_lt_mul_right hb, ← Int.mul_lt_mul_right xd (b := a * y.den)]
  have : x.num * ↑y.den * b = a * y.den * x.den := by grind
  rw [this, show y.num * ↑x.den * b = y.num * b * x.den by grind]
theorem lt_divInt {a b : Int} (hb : 0 < b) (y : Rat) : y < Rat.divInt a b ↔ y.num * b < a * y.den := by
  rw [Rat.lt_iff]
  have e := num_mul (a := a) (b := b) (by omega)
  generalize Rat.divInt a b = x at e ⊢
  have xd : (0 : Int) < x.den := by have := x.den_pos; omega
  rw [← Int.mul_lt_mul_right hb, ← Int.mul_lt_mul_right xd (b := y.num * b)]
  have : x.num * ↑y.den * b = a * y.den * x.den := by grind
  rw [this, show y.num * ↑x.den * b = y.num * b * x.den by grind]
theorem den_le {a b : Int} (hb : 0 < b) : ((Rat.divInt a b).den : Int) ≤ b := by
  rw [Rat.den_divInt, if_neg (by omega)]
  have := Nat.div_le_self b.natAbs (b.gcd a)
  omega
structure EndN (f : Rat) (l0 l1 h0 h1 m : Int) : Prop where
  lo : l0 * f.den < f.num * l1
  hi : f.num * h1 < h0 * f.den
  dt : h0 * l1 = l0 * h1 + 1
  l1a : 1 ≤ l1
  l1b : l1 ≤ m
  h1a : 1 ≤ h1
  h1b : h1 ≤ m
theorem EndN.gl {f : Rat} {l0 l1 h0 h1 m : Int} (e : EndN f l0 l1 h0 h1 m) : Int.gcd l0 l1 = 1 := by
  have h : ((Int.gcd l0 l1 : Nat) : Int) ∣ 1 := by
    have k1 : ((Int.gcd l0 l1 : Nat) : Int) ∣ l0 * h1 := Int.dvd_trans (Int.gcd_dvd_left ..) (Int.dvd_mul_right ..)
    have k2 : ((Int.gcd l0 l1 : Nat) : Int) ∣ h0 * l1 := Int.dvd_trans (Int.gcd_dvd_right ..) (Int.dvd_mul_left ..)
    have := Int.dvd_sub k2 k1
    rw [e.dt, show l0 * h1 + 1 - l0 * h1 = 1 by omega] at this
    exact this
  have := Int.natAbs_dvd_natAbs.mpr h
  simpa using this
theorem EndN.gh {f : Rat} {l0 l1 h0 h1 m : Int} (e : EndN f l0 l1 h0 h1 m) : Int.gcd h0 h1 = 1 := by
  have h : ((Int.gcd h0 h1 : Nat) : Int) ∣ 1 := by
    have k1 : ((Int.gcd h0 h1 : Nat) : Int) ∣ l0 * h1 := Int.dvd_trans (Int.gcd_dvd_right ..) (Int.dvd_mul_left ..)
    have k2 : ((Int.gcd h0 h1 : Nat) : Int) ∣ h0 * l1 := Int.dvd_trans (Int.gcd_dvd_left ..) (Int.dvd_mul_right ..)
    have := Int.dvd_sub k2 k1
    rw [e.dt, show l0 * h1 + 1 - l0 * h1 = 1 by omega] at this
    exact this
  have := Int.natAbs_dvd_natAbs.mpr h
  simpa using this
/-- no fraction with so little below lies between -/
theorem EndN.none {f : Rat} {l0 l1 h0 h1 m a n : Int} (e : EndN f l0 l1 h0 h1 m) (hm : m < l1 + h1) (hn : n ≤ m) (x1 : l0 * n < a * l1) (x2 : a * h1 < h0 * n) : False := by
  have k1 : l1 * (h0 * n - a * h1) + h1 * (a * l1 - l0 * n) = n := by
    have : l1 * (h0 * n - a * h1) + h1 * (a * l1 - l0 * n) = (h0 * l1) * n - l0 * h1 * n := by grind
    rw [this, e.dt]; grind
  have k2 : l1 * 1 ≤ l1 * (h0 * n - a * h1) := Int.mul_le_mul_of_nonneg_left (by omega) (by have := e.l1a; omega)
  have k3 : h1 * 1 ≤ h1 * (a * l1 - l0 * n) := Int.mul_le_mul_of_nonneg_left (by omega) (by have := e.h1a; omega)
  omega
theorem EndN.apart {f : Rat} {l0 l1 h0 h1 m : Int} (e : EndN f l0 l1 h0 h1 m) (hm : m < l1 + h1) {s : Rat} (hs : (s.den : Int) ≤ m) : s ≤ Rat.divInt l0 l1 ∨ Rat.divInt h0 h1 ≤ s := by
  apply Decidable.byContradiction
  intro n
  rw [not_or, Rat.not_le, Rat.not_le] at n
  have l1a := e.l1a
  have h1a := e.h1a
  exact e.none hm hs ((divInt_lt (by omega) s).mp n.1) ((lt_divInt (by omega) s).mp n.2)
theorem EndN.seen_lo {f : Rat} {l0 l1 h0 h1 m : Int} (e : EndN f l0 l1 h0 h1 m) (hm : m < l1 + h1) : seenN f m (Rat.divInt l0 l1) := by
  obtain ⟨lo, hi, dt, l1a, l1b, h1a, h1b⟩ := e
  have fd : (0 : Int) < f.den := by have := f.den_pos; omega
  refine ⟨l1, l1a, l1b, .inl ?_⟩
  unfold lowN
  have : (f.num * l1).fdiv f.den = l0 := by
    rw [Int.fdiv_eq_ediv_of_nonneg _ (by omega)]
    have k1 : l0 ≤ f.num * l1 / f.den := (Int.le_ediv_iff_mul_le fd).mpr (by omega)
    have k2 : f.num * l1 / f.den < l0 + 1 := by
      rw [Int.ediv_lt_iff_lt_mul fd]
      apply Int.lt_of_mul_lt_mul_right (a := h1) _ (by omega)
      have z1 := Int.mul_lt_mul_of_pos_right hi (show 0 < l1 by omega)
      have z2 : (l0 + 1) * f.den * h1 = (l0 * h1 + 1) * f.den + (h1 - 1) * f.den := by grind
      have z3 : 0 ≤ (h1 - 1) * f.den := Int.mul_nonneg (by omega) (by omega)
      rw [z2, ← dt]
      have z4 : f.num * l1 * h1 = f.num * h1 * l1 := by grind
      have z5 : h0 * f.den * l1 = h0 * l1 * f.den := by grind
      omega
    omega
  rw [this]
theorem EndN.seen_hi {f : Rat} {l0 l1 h0 h1 m : Int} (e : EndN f l0 l1 h0 h1 m) (hm : m < l1 + h1) : seenN f m (Rat.divInt h0 h1) := by
  obtain ⟨lo, hi, dt, l1a, l1b, h1a, h1b⟩ := e
  have fd : (0 : Int) < f.den := by have := f.den_pos; omega
  refine ⟨h1, h1a, h1b, .inr ?_⟩
  unfold hiN
  have : (f.num * h1).fdiv f.den = h0 - 1 := by
    rw [Int.fdiv_eq_ediv_of_nonneg _ (by omega)]
    have k1 : f.num * h1 / f.den < h0 := (Int.ediv_lt_iff_lt_mul fd).mpr (by omega)
    have k2 : h0 - 1 ≤ f.num * h1 / f.den := by
      rw [Int.le_ediv_iff_mul_le fd]
      apply Int.le_of_mul_le_mul_right (a := l1) _ (by omega)
      have z1 := Int.mul_lt_mul_of_pos_right lo (show 0 < h1 by omega)
      have z2 : (h0 - 1) * f.den * l1 = (h0 * l1) * f.den - l1 * f.den := by grind
      have z3 : 0 ≤ (l1 - 1) * f.den := Int.mul_nonneg (by omega) (by omega)
      rw [z2, dt]
      have z4 : l0 * f.den * h1 = l0 * h1 * f.den := by grind
      have z5 : (l0 * h1 + 1) * f.den - l1 * f.den = l0 * h1 * f.den - (l1 - 1) * f.den := by grind
      have z6 : f.num * h1 * l1 = f.num * l1 * h1 := by grind
      omega
    omega
  rw [this, Int.sub_add_cancel]
theorem seen_den {f s : Rat} {m : Int} (h : seenN f m s) : (s.den : Int) ≤ m := by
  obtain ⟨j, a, b, rfl | rfl⟩ := h
  · exact Int.le_trans (den_le (by omega)) b
  · exact Int.le_trans (den_le (by omega)) b
/-- what is nearest, with few below -/
theorem near_few {f : Rat} {m : Nat} (h : f.den ≤ m) : ordN (nearL f m 1 []) = [f] := by
  have fd : (0 : Int) < f.den := by have := f.den_pos; omega
  refine one_of (nearL_all f m) ⟨f.den, by omega, by omega, .inl ?_⟩ fun s _ ns => ?_
  · unfold lowN
    rw [Int.mul_fdiv_cancel _ (by omega), Rat.num_divInt_den]
  · rw [far_le Rat.le_refl]
    rcases (show s < f ∨ f < s by grind) with z | z
    · rw [far_ge (Rat.le_of_lt z)]; grind
    · rw [far_le (Rat.le_of_lt z)]; grind
theorem near_ends {f : Rat} {l0 l1 h0 h1 : Int} {m : Nat} (e : EndN f l0 l1 h0 h1 m) (hm : m < l1 + h1) : ordN (nearL f m 1 []) =
    if f - Rat.divInt l0 l1 = Rat.divInt h0 h1 - f then [Rat.divInt l0 l1, Rat.divInt h0 h1] else if f - Rat.divInt l0 l1 < Rat.divInt h0 h1 - f then [Rat.divInt l0 l1] else [Rat.divInt h0 h1] := by
  have ap : ∀ s, seenN f m s → s ≤ Rat.divInt l0 l1 ∨ Rat.divInt h0 h1 ≤ s := fun s h => e.apart hm (seen_den h)
  have s1 := e.seen_lo hm
  have s2 := e.seen_hi hm
  have l1a := e.l1a
  have h1a := e.h1a
  have k1 : Rat.divInt l0 l1 < f := (divInt_lt (by omega) f).mpr e.lo
  have k2 : f < Rat.divInt h0 h1 := (lt_divInt (by omega) f).mpr e.hi
  generalize Rat.divInt l0 l1 = lo at *
  generalize Rat.divInt h0 h1 = hi at *
  have f1 : far lo f = f - lo := far_ge (Rat.le_of_lt k1)
  have f2 : far hi f = hi - f := far_le (Rat.le_of_lt k2)
  have fs1 : ∀ s, s ≤ lo → far s f = f - s := fun s h => far_ge (by grind)
  have fs2 : ∀ s, hi ≤ s → far s f = s - f := fun s h => far_le (by grind)
  split
  next q =>
    refine two_of (nearL_all f m) s1 s2 (by grind) (by rw [f1, f2, q]) fun s hs n1 n2 => ?_
    rcases ap s hs with z | z
    · rw [fs1 s z, f1]; grind
    · rw [fs2 s z, f1]; grind
  next q =>
    split
    next q2 =>
      refine one_of (nearL_all f m) s1 fun s hs n1 => ?_
      rcases ap s hs with z | z
      · rw [fs1 s z, f1]; grind
      · rw [fs2 s z, f1]; grind
    next q2 =>
      refine one_of (nearL_all f m) s2 fun s hs n1 => ?_
      rcases ap s hs with z | z
      · rw [fs1 s z, f2]; grind
      · rw [fs2 s z, f2]; grind
end KM
/-! K3H: k03, the walk of nearest. -/
namespace KM
open PySem PySem.Spec PyProof.Rows L2
structure NearLib (T : Str → Option Fc) : Prop extends NeedLib T where
  un : T "is_under" = some ⟨2, 2, c_is_under⟩
  red : T "reduced" = some ⟨2, 3, c_reduced⟩
  mi : T "minus" = some ⟨2, 2, c_minus⟩
  ne : T "nearest" = some ⟨2, 8, c_nearest⟩
theorem EndN.small {f : Rat} {l0 l1 h0 h1 m : Int} {B : Int} (e : EndN f l0 l1 h0 h1 m) (b1 : -B ≤ f.num * l1) (b2 : f.num * l1 ≤ B) (b3 : -B ≤ f.num * h1) (b4 : f.num * h1 ≤ B) (b0 : 0 ≤ B) : -B - 1 ≤ l0 ∧ l0 ≤ B + 1 ∧ -B - 1 ≤ h0 ∧ h0 ≤ B + 1 := by
  obtain ⟨lo, hi, dt, l1a, l1b, h1a, h1b⟩ := e
  have fd : (0 : Int) < f.den := by have := f.den_pos; omega
  have up : ∀ x : Int, x * f.den < B + f.den → x ≤ B + 1 := fun x hx => by
    apply Int.not_lt.mp
    intro z
    have : (B + 1) * f.den < x * f.den := Int.mul_lt_mul_of_pos_right z fd
    have : B * 1 ≤ B * f.den := Int.mul_le_mul_of_nonneg_left (by omega) b0
    have : (B + 1) * f.den = B * f.den + f.den := by grind
    omega
  have dn : ∀ x : Int, -B - f.den < x * f.den → -B - 1 ≤ x := fun x hx => by
    have := up (-x) (by have : -x * f.den = -(x * f.den) := Int.neg_mul _ _
                        omega)
    omega
  have z1 := Int.mul_lt_mul_of_pos_right hi (show 0 < l1 by omega)
  have z2 := Int.mul_lt_mul_of_pos_right lo (show 0 < h1 by omega)
  have e1 : h0 * f.den * l1 = (l0 * h1 + 1) * f.den := by rw [← dt]; grind
  have e2 : l0 * f.den * h1 = (h0 * l1 - 1) * f.den := by rw [dt]; grind
  have k1 : f.num * l1 - f.den < l0 * f.den := by
    apply Int.not_le.mp
    intro z
    have a1 : l0 * f.den - f.num * l1 ≤ -f.den := by omega
    have a2 : h1 * (l0 * f.den - f.num * l1) ≤ 1 * (l0 * f.den - f.num * l1) := Int.mul_le_mul_of_nonpos_right (by omega) (by omega)
    have a3 : h1 * (l0 * f.den - f.num * l1) = l0 * f.den * h1 - f.num * l1 * h1 := by grind
    have a4 : f.num * h1 * l1 = f.num * l1 * h1 := by grind
    have a5 : (l0 * h1 + 1) * f.den = l0 * f.den * h1 + f.den := by grind
    omega
  have k2 : h0 * f.den < f.num * h1 + f.den := by
    apply Int.not_le.mp
    intro z
    have a1 : f.den ≤ h0 * f.den - f.num * h1 := by omega
    have a2 : 1 * (h0 * f.den - f.num * h1) ≤ l1 * (h0 * f.den - f.num * h1) := Int.mul_le_mul_of_nonneg_right (by omega) (by omega)
    have a3 : l1 * (h0 * f.den - f.num * h1) = h0 * f.den * l1 - f.num * h1 * l1 := by grind
    have a4 : f.num * h1 * l1 = f.num * l1 * h1 := by grind
    have a5 : (h0 * l1 - 1) * f.den = h0 * f.den * l1 - f.den := by grind
    omega
  exact ⟨dn _ (by omega), up _ (by omega), dn _ (by omega), up _ (by omega)⟩
/-- narrowed -/
theorem EndN.left {f : Rat} {l0 l1 h0 h1 m : Int} (e : EndN f l0 l1 h0 h1 m) (hm : l1 + h1 ≤ m) (h : f.num * (l1 + h1) < (l0 + h0) * f.den) : EndN f l0 l1 (l0 + h0) (l1 + h1) m := by
  obtain ⟨lo, hi, dt, l1a, l1b, h1a, h1b⟩ := e
  exact ⟨lo, h, by grind, l1a, l1b, by omega, hm⟩
theorem EndN.right {f : Rat} {l0 l1 h0 h1 m : Int} (e : EndN f l0 l1 h0 h1 m) (hm : l1 + h1 ≤ m) (hq : m < f.den) (h : ¬ f.num * (l1 + h1) < (l0 + h0) * f.den) : EndN f (l0 + h0) (l1 + h1) h0 h1 m := by
  obtain ⟨lo, hi, dt, l1a, l1b, h1a, h1b⟩ := e
  refine ⟨?_, hi, by grind, by omega, hm, h1a, h1b⟩
  have ne : (l0 + h0) * f.den ≠ f.num * (l1 + h1) := fun z => by
    have k1 : (f.den : Int) ∣ f.num * (l1 + h1) := ⟨l0 + h0, by rw [← z, Int.mul_comm]⟩
    have k2 : (f.den : Int).natAbs ∣ f.num.natAbs * (l1 + h1).natAbs := by rw [← Int.natAbs_mul]; exact Int.natAbs_dvd_natAbs.mpr k1
    have k3 : f.den ∣ (l1 + h1).natAbs := (Nat.Coprime.dvd_of_dvd_mul_left (Nat.Coprime.symm f.reduced) k2)
    have := Nat.le_of_dvd (by omega) k3
    omega
  omega
theorem EndN.start {f : Rat} {m : Int} (hm : 1 ≤ m) (hq : m < f.den) : EndN f (f.num.fdiv f.den) 1 (f.num.fdiv f.den + 1) 1 m := by
  have fd : (0 : Int) < f.den := by have := f.den_pos; omega
  rw [Int.fdiv_eq_ediv_of_nonneg _ (by omega)]
  have k1 : f.num / f.den * f.den ≤ f.num := Int.ediv_mul_le _ (by omega)
  have k2 : f.num < (f.num / f.den + 1) * f.den := Int.lt_ediv_add_one_mul_self _ fd
  refine ⟨?_, by omega, by omega, by decide, hm, by decide, hm⟩
  have ne : f.num / f.den * f.den ≠ f.num := fun z => by
    have k1 : (f.den : Int) ∣ f.num := ⟨f.num / f.den, by rw [Int.mul_comm]; exact z.symm⟩
    have k2 : f.den ∣ f.num.natAbs := by simpa using Int.natAbs_dvd_natAbs.mpr k1
    have k3 : Nat.gcd f.num.natAbs f.den = f.den := Nat.gcd_eq_right k2
    have := f.reduced
    rw [Nat.Coprime, k3] at this
    omega
  omega
section
variable {T : Str → Option Fc}
theorem Dr.newL {h : Hep} {xs : List Val} {Q : VQ} (q : newL h xs Q) : KM.newL h xs fun v h1 => Dr h1 (Q v) := newL_in fun p hp => Dr.here (newL_at q p hp)
theorem nearest_ok (hT : NearLib T) {k : Nat} {v : Val} {d : D} {f : Rat} {m : Nat} {h : Hep} {Q : VQ} {E : XQ} (rd : Rd h d v) (e : d.tp = dr f) (bf : Bd 20 f) (m0 : 1 ≤ m) (m1 : m < 2 ^ 11)
    (q : newL h ((ordN (nearL f m 1 [])).map fr) Q) : Calls T (k + 6) "nearest" [v, .int m] h Q E := by
  have R : RedLib T := ⟨hT.cd, hT.red⟩
  have bf1 := bf.1
  have bf2 := bf.2
  have fd : (0 : Int) < f.den := by have := f.den_pos; omega
  refine Calls_eq [some v, some (.int m), none, none, none, none, none, none] hT.ne rfl rfl ?_
  refine need_ok hT.toNeedLib rd e ?_
  refine is_whole_ok hT.iw (d := .int m) rfl ?_
  refine ifF (decide_eq_false (by omega)) ?_
  by_cases c : (f.den : Int) ≤ m
  · refine ifT (decide_eq_true c) ?_
    rw [near_few (by omega)] at q
    exact Dr.newL q
  · refine ifF (decide_eq_false c) ?_
    have dv : CDivG f.den := divg_ok (n := 20) (by omega) (by simpa using bf2) (by decide) (by decide)
    refine ⟨dv, dv, ?_⟩
    refine ⟨fun u env g => g = h ∧ ∃ (l0 l1 h0 h1 : Int) (z5 : Option Val), env = [some v, some (.int m), some (fr f), some (pr l0 l1), some (pr h0 h1), z5, none, none] ∧ EndN f l0 l1 h0 h1 m ∧ u = (2 * m + 2 - l1 - h1).toNat,
      ⟨_, rfl, _, _, _, _, none, rfl, EndN.start (by omega) (by omega), rfl⟩, ?_⟩
    rintro u env g ⟨rfl, l0, l1, h0, h1, z5, rfl, en, rfl⟩
    have ml : ∀ x : Int, 1 ≤ x → x ≤ m → -(2 ^ 31) ≤ f.num * x ∧ f.num * x ≤ 2 ^ 31 := fun x x0 x1 => by
      have := mul_bd (n := 20) bf1 (b := x) (by omega)
      have z : f.num.natAbs * x.natAbs ≤ 2 ^ 20 * 2 ^ 11 := Nat.mul_le_mul (by omega) (by omega)
      rw [← Int.natAbs_mul] at z
      omega
    have l1a := en.l1a
    have l1b := en.l1b
    have h1a := en.h1a
    have h1b := en.h1b
    have sm := en.small (B := 2 ^ 31) (ml l1 en.l1a en.l1b).1 (ml l1 en.l1a en.l1b).2 (ml h1 en.h1a en.h1b).1 (ml h1 en.h1a en.h1b).2 (by decide)
    by_cases c2 : l1 + h1 ≤ m
    · refine ifT (decide_eq_true c2) ?_
      refine under_raw hT.un (n := 64) (by decide) (by decide) (by omega) (by omega) (by omega) (by omega) ?_
      by_cases c3 : f.num * (l1 + h1) < (l0 + h0) * f.den
      · refine ifT (decide_eq_true c3) ?_
        exact ⟨_, by omega, rfl, l0, l1, l0 + h0, l1 + h1, _, rfl, en.left c2 c3, rfl⟩
      · refine ifF (decide_eq_false c3) ?_
        exact ⟨_, by omega, rfl, l0 + h0, l1 + h1, h0, h1, _, rfl, en.right c2 (by omega) c3, rfl⟩
    · refine ifF (decide_eq_false c2) ?_
      rw [near_ends en (by omega)] at q
      have e1 := fr_co (a := l0) (b := l1) (by omega) en.gl
      have e2 := fr_co (a := h0) (b := h1) (by omega) en.gh
      rw [← e1, ← e2]
      have b1 : Bd 34 (Rat.divInt l0 l1) := Bd.divInt (n := 33) (by omega) (by omega)
      have b2 : Bd 34 (Rat.divInt h0 h1) := Bd.divInt (n := 33) (by omega) (by omega)
      have bf' : Bd 34 f := bf.mono (by decide)
      refine minus_ok R hT.mi (n := 34) (by decide) (by decide) bf' b1 ?_
      refine minus_ok R hT.mi (n := 34) (by decide) (by decide) b2 bf' ?_
      refine on_fr ?_
      by_cases c4 : f - Rat.divInt l0 l1 = Rat.divInt h0 h1 - f
      · rw [if_pos c4] at q
        refine ifT (by rw [eqv_fr]; exact decide_eq_true c4) ?_
        exact Dr.newL q
      · rw [if_neg c4] at q
        refine ifF (by rw [eqv_fr]; exact decide_eq_false c4) ?_
        refine under_ok hT.un (n := 70) (by decide) (by decide) (bf'.sub b1) (b2.sub bf') ?_
        by_cases c5 : f - Rat.divInt l0 l1 < Rat.divInt h0 h1 - f
        · rw [if_pos c5] at q
          refine ifT (decide_eq_true c5) ?_
          exact Dr.newL q
        · rw [if_neg c5] at q
          refine ifF (decide_eq_false c5) ?_
          exact Dr.newL q
end
end KM
/-! K3I: k03, the law's look for the nearest. -/
namespace KM
open PySem PySem.Spec PyProof.Rows L2
def c_nbody : Sxs := .cons (.asg (.nm 5) (.call "_law_frac" (.cons (.var 4) (.cons (.var 3) .nil)))) (.cons (.ife (.or (.cmp .Eq (.var 2) (.lst .nil)) (.call "_law_under" (.cons (.call "_law_far" (.cons (.var 5) (.cons (.var 0) .nil))) (.cons (.call "_law_far" (.cons (.ix (.var 2) (.int 0)) (.cons (.var 0) .nil))) .nil)))) (.cons (.asg (.nm 2) (.lst (.cons (.var 5) .nil))) .nil) (.cons (.ife (.and (.cmp .NotIn (.var 5) (.var 2)) (.cmp .Eq (.call "_law_far" (.cons (.var 5) (.cons (.var 0) .nil))) (.call "_law_far" (.cons (.ix (.var 2) (.int 0)) (.cons (.var 0) .nil))))) (.cons (.expr (.mth .append (.var 2) (.cons (.var 5) .nil))) .nil) .nil) .nil)) .nil)
structure LNearLib (T : Str → Option Fc) : Prop where
  fr : T "_law_frac" = some ⟨2, 5, c__law_frac⟩
  mi : T "_law_minus" = some ⟨2, 2, c__law_minus⟩
  un : T "_law_under" = some ⟨2, 2, c__law_under⟩
  ng : T "_law_q_neg" = some ⟨1, 1, c__law_q_neg⟩
  fa : T "_law_far" = some ⟨2, 3, c__law_far⟩
  ne : T "_law_nearest" = some ⟨2, 6, c__law_nearest⟩
theorem num_nonneg {x : Rat} : 0 ≤ x.num ↔ 0 ≤ x := Rat.num_nonneg
theorem Bd.far {n : Nat} {x y : Rat} (hx : Bd n x) (hy : Bd n y) : Bd (n + n + 2) (far x y) := by
  unfold KM.far
  split
  · exact hx.sub hy
  · exact (hx.sub hy).neg
theorem Sub.setNew {h g : Hep} (s : Sub h g) {p : Addr} {o : Ob} (n : h p = none) : Sub h (hset g p o) := fun a ob e => by
  have z : a ≠ p := fun y => by subst y; rw [e] at n; cases n
  rw [hset_ne z]; exact s a ob e
theorem Dr.news {h g : Hep} {xs : List Val} {Q : VQ} {p : Addr} (q : KM.newL h xs Q) (s : Sub h g) (hp : h p = none) (e : g p = some (.lst xs)) : Dr g (Q (.ref p)) := ⟨_, fun a o z => by
  by_cases y : a = p
  · subst y; rw [hset_same] at z; cases z; exact e
  · rw [hset_ne y] at z; exact s a o z, newL_at q p hp⟩
section
variable {T : Str → Option Fc}
theorem lfar_ok (hT : LNearLib T) {k n : Nat} {x y : Rat} {h : Hep} {Q : VQ} {E : XQ} (h0 : 0 < n) (h1 : n ≤ 3000) (hx : Bd n x) (hy : Bd n y) (q : Q (fr (far x y)) h) : Calls T (k + 3) "_law_far" [fr x, fr y] h Q E := by
  refine Calls_eq [some (fr x), some (fr y), none] hT.fa rfl rfl ?_
  refine lminus_ok hT.fr hT.mi h0 h1 hx hy ?_
  unfold far at q
  by_cases c : 0 ≤ x - y
  · rw [if_pos c] at q
    refine ifT (decide_eq_true (num_nonneg.mpr c)) ?_
    exact Dr.here q
  · rw [if_neg c] at q
    refine ifF (decide_eq_false (fun z => c (num_nonneg.mp z))) ?_
    refine lneg_ok hT.ng ?_
    exact Dr.here q
/-- where the law stands in its look -/
def StN (f : Rat) (m : Nat) (h : Hep) (L : List Rat) (z3 z4 : Option Val) (env : Env) (g : Hep) : Prop :=
  ∃ (p : Addr) (z5 : Option Val), env = [some (fr f), some (.int m), some (.ref p), z3, z4, z5] ∧ g p = some (.lst (L.map fr)) ∧ h p = none ∧ Sub h g
theorem nbody_ok (hT : LNearLib T) {k : Nat} {f : Rat} {m : Nat} {h : Hep} {L : List Rat} {a n : Int} {D : KD} {E : XE'} {env : Env} {g : Hep} (bf : Bd 40 f) (bL : ∀ x ∈ L, Bd 40 x) (hn : 0 < n) (ba : a.natAbs < 2 ^ 39) (bn : n.natAbs < 2 ^ 39) (hl : L.length ≤ 1000)
    (st : StN f m h L (some (.int n)) (some (.int a)) env g) (q : ∀ env' g', StN f m h (stepN f L (Rat.divInt a n)) (some (.int n)) (some (.int a)) env' g' → D.nx env' g') : wSs (Calls T (k + 4)) c_nbody env g D E := by
  obtain ⟨p, z5, rfl, hp, hn0, sb⟩ := st
  have bc : Bd 40 (Rat.divInt a n) := Bd.divInt ba bn
  refine lfrac_ok hT.fr (n := 39) (by omega) (by decide) (by decide) ba bn ?_
  generalize Rat.divInt a n = c at *
  refine newL_in fun p2 np2 => ?_
  have hp2 : (hset g p2 (.lst [])) p = some (.lst (L.map fr)) := by
    rw [hset_ne (fun e => by subst e; rw [hp] at np2; cases np2)]; exact hp
  have sb2 : Sub h (hset g p2 (.lst [])) := sb.trans ((Sub.refl g).new np2)
  have r0 : Rd (hset g p2 (.lst [])) (.lst []) (.ref p2) := ⟨p2, [], rfl, hset_same, rfl⟩
  generalize hset g p2 (.lst []) = g2 at *
  refine on2 (a := .lst (L.map dr)) (b := .lst []) (rd_frs hp2) r0 (by simp only [KM.D.nb]; exact nbs_drs L) rfl (by have := deps_drs L; simp only [KM.D.dep]; omega) (by decide) ?_
  cases L with
  | nil =>
    refine ifT (by rfl) ?_
    refine newL_in fun p3 np3 => ?_
    refine q _ _ ⟨p3, _, rfl, hset_same, ?_, sb2.trans ((Sub.refl _).new np3)⟩
    cases e : h p3 with
    | none => rfl
    | some o => rw [sb2 _ _ e] at np3; cases np3
  | cons x xs =>
    have bx := bL x List.mem_cons_self
    have hx : atI ((x :: xs).map fr) 0 = some (fr x) := atI_nat (j := 0) rfl
    refine ifF (by rfl) ?_
    refine lfar_ok hT (n := 40) (by decide) (by decide) bc bf ?_
    refine opIx_list hp2 hx ?_
    refine lfar_ok hT (n := 40) (by decide) (by decide) bx bf ?_
    refine lunder_ok hT.un (n := 82) (by decide) (by decide) (bc.far bf) (bx.far bf) ?_
    by_cases c1 : far c f < far x f
    · refine ifT (decide_eq_true c1) ?_
      refine newL_in fun p3 np3 => ?_
      refine q _ _ ⟨p3, _, rfl, ?_, ?_, sb2.trans ((Sub.refl _).new np3)⟩
      · rw [hset_same]; unfold stepN; dsimp only; rw [if_pos c1]; rfl
      · cases e : h p3 with
        | none => rfl
        | some o => rw [sb2 _ _ e] at np3; cases np3
    · refine ifF (decide_eq_false c1) ?_
      refine on_frs hp2 ?_
      by_cases c2 : c ∈ x :: xs
      · refine ifF (by show (!_) = false; rw [anyv_drs, decide_eq_true c2]; rfl) ?_
        refine q _ _ ⟨p, _, rfl, ?_, hn0, sb2⟩
        unfold stepN; dsimp only; rw [if_neg c1, if_neg (fun z => z.1 c2)]; exact hp2
      · refine ifT (by show (!_) = true; rw [anyv_drs, decide_eq_false c2]; rfl) ?_
        refine lfar_ok hT (n := 40) (by decide) (by decide) bc bf ?_
        refine opIx_list hp2 hx ?_
        refine lfar_ok hT (n := 40) (by decide) (by decide) bx bf ?_
        refine on_fr ?_
        by_cases c3 : far c f = far x f
        · refine ifT (by rw [eqv_fr]; exact decide_eq_true c3) ?_
          refine ⟨onL_in hp2 trivial, onL_in hp2 ⟨?_, ?_⟩⟩
          · show ((x :: xs).map fr).length < 1000000
            rw [List.length_map]; omega
          · refine q _ _ ⟨p, _, rfl, ?_, hn0, sb2.setNew hn0⟩
            rw [hset_same]; unfold stepN; dsimp only; rw [if_neg c1, if_pos ⟨c2, c3⟩, List.map_append]; rfl
        · refine ifF (by rw [eqv_fr]; exact decide_eq_false c3) ?_
          refine q _ _ ⟨p, _, rfl, ?_, hn0, sb2⟩
          unfold stepN; dsimp only; rw [if_neg c1, if_neg (fun z => c3 z.2)]; exact hp2
theorem stepN_len (f c : Rat) (L : List Rat) : (stepN f L c).length ≤ L.length + 1 := by
  unfold stepN
  split
  · simp
  · split
    · simp
    · split
      · simp
      · simp
theorem stepN_mem {f c x : Rat} {L : List Rat} (h : x ∈ stepN f L c) : x ∈ L ∨ x = c := by
  unfold stepN at h
  split at h
  · simpa using h
  · split at h
    · exact .inr (by simpa using h)
    · split at h
      · rcases List.mem_append.mp h with z | z
        · exact .inl z
        · exact .inr (by simpa using z)
      · exact .inl h
def c_nouter : Sxs := .cons (.forr (.nm 4) (.seq (.tup (.cons (.bin .FloorDiv (.bin .Mult (.ix (.var 0) (.int 0)) (.var 3)) (.ix (.var 0) (.int 1))) (.cons (.bin .Add (.bin .FloorDiv (.bin .Mult (.ix (.var 0) (.int 0)) (.var 3)) (.ix (.var 0) (.int 1))) (.int 1)) .nil)))) c_nbody) .nil
theorem nouter_ok (hT : LNearLib T) {k : Nat} {f : Rat} {m : Nat} {h : Hep} (bf : Bd 20 f) : ∀ (j : Nat) (n : Int) (L : List Rat) (z3 z4 : Option Val) {D : KD} {E : XE'} {env : Env} {g : Hep}, 0 < n → n + j ≤ 2 ^ 11 → (∀ x ∈ L, Bd 40 x) → L.length + 2 * j ≤ 1000 → StN f m h L z3 z4 env g →
    (∀ z3 z4 env' g', StN f m h (nearL f j n L) z3 z4 env' g' → D.nx env' g') → forW (wSs (Calls T (k + 4)) c_nouter) (bindT (.nm 3)) [] D E (rngV n j) env g
  | 0, n, L, z3, z4, D, E, env, g, n0, nj, bL, hl, st, q => ⟨trivial, q _ _ _ _ st⟩
  | j + 1, n, L, z3, z4, D, E, env, g, n0, nj, bL, hl, ⟨p, z5, e, hp, hn, sb⟩, q => by
    subst e
    have bf1 := bf.1
    have bf2 := bf.2
    have bn : n.natAbs < 2 ^ 11 := by omega
    have pn := pow_lt_mul bf1 bn
    rw [← Int.natAbs_mul] at pn
    have dv : CDivG f.den := divg_ok (n := 20) (den_ne f) (by simpa using bf2) (by decide) (by decide)
    have mu : CMulW f.num n := mul_ok (n := 20) (by decide) (by decide) bf1 (by omega)
    have ba : ((f.num * n).fdiv f.den).natAbs < 2 ^ 31 := by
      rw [fdiv_nat]
      exact Nat.lt_of_le_of_lt (natAbs_ediv_le _ _) pn
    refine ⟨trivial, ?_⟩
    refine ⟨mu, dv, mu, dv, ?_⟩
    refine ⟨trivial, ?_⟩
    refine nbody_ok hT (n := n) (a := (f.num * n).fdiv f.den) (bf.mono (by decide)) bL n0 (by omega) (by omega) (by omega) ⟨p, z5, rfl, hp, hn, sb⟩ fun env' g' st' => ?_
    obtain ⟨p', z5', rfl, hp', hn', sb'⟩ := st'
    have bc : Bd 40 (Rat.divInt ((f.num * n).fdiv f.den) n) := Bd.divInt (n := 39) (by omega) (by omega)
    have bc2 : Bd 40 (Rat.divInt ((f.num * n).fdiv f.den + 1) n) := Bd.divInt (n := 39) (by omega) (by omega)
    have bL' : ∀ x ∈ stepN f L (Rat.divInt ((f.num * n).fdiv f.den) n), Bd 40 x := fun x hx => by
      rcases stepN_mem hx with z | rfl
      · exact bL x z
      · exact bc
    have l1 := stepN_len f (Rat.divInt ((f.num * n).fdiv f.den) n) L
    refine ⟨trivial, ?_⟩
    refine nbody_ok hT (n := n) (a := (f.num * n).fdiv f.den + 1) (bf.mono (by decide)) bL' n0 (by omega) (by omega) (by omega) ⟨p', z5', rfl, hp', hn', sb'⟩ fun env'' g'' st'' => ?_
    have l2 := stepN_len f (Rat.divInt ((f.num * n).fdiv f.den + 1) n) (stepN f L (Rat.divInt ((f.num * n).fdiv f.den) n))
    refine ⟨trivial, ?_⟩
    refine nouter_ok hT bf j (n + 1) _ _ _ (by omega) (by omega) (fun x hx => ?_) (by omega) st'' q
    rcases stepN_mem hx with z | rfl
    · exact bL' x z
    · exact bc2
theorem nearL_mem {f x : Rat} : ∀ (j : Nat) (n : Int) (L : List Rat), x ∈ nearL f j n L → x ∈ L ∨ ∃ i, n ≤ i ∧ i < n + j ∧ (x = lowN f i ∨ x = hiN f i)
  | 0, n, L, h => .inl h
  | j + 1, n, L, h => by
    rcases nearL_mem j (n + 1) _ h with z | ⟨i, a, b, c⟩
    · rcases stepN_mem z with z | z
      · rcases stepN_mem z with z | z
        · exact .inl z
        · exact .inr ⟨n, by omega, by omega, .inl z⟩
      · exact .inr ⟨n, by omega, by omega, .inr z⟩
    · exact .inr ⟨i, by omega, by omega, c⟩
theorem lnearest_ok (hT : LNearLib T) {k : Nat} {f : Rat} {m : Nat} {h : Hep} {Q : VQ} {E : XQ} (bf : Bd 20 f) (m0 : 1 ≤ m) (m1 : m ≤ 400) (q : newL h ((ordN (nearL f m 1 [])).map fr) Q) : Calls T (k + 5) "_law_nearest" [fr f, .int m] h Q E := by
  refine Calls_eq [some (fr f), some (.int m), none, none, none, none] hT.ne rfl rfl ?_
  refine newL_in fun p np => ?_
  refine ⟨⟨by decide, by decide⟩, ⟨by omega, by omega⟩, ?_⟩
  have e : ((m : Int) + 1 - 1).toNat = m := by omega
  show forW _ _ _ _ _ (rngV 1 ((m : Int) + 1 - 1).toNat) _ _
  rw [e]
  refine nouter_ok hT bf m 1 [] none none (by decide) (by omega) (by simp) (by simp; omega) ⟨p, none, rfl, hset_same, np, (Sub.refl h).new np⟩ fun z3 z4 env' g' st => ?_
  obtain ⟨p', z5, rfl, hp, hn, sb⟩ := st
  have bds : ∀ x ∈ nearL f m 1 [], Bd 40 x := fun x hx => by
    have bf1 := bf.1
    have bf2 := bf.2
    rcases nearL_mem m 1 [] hx with z | ⟨i, a, b, c⟩
    · simp at z
    · have bn : i.natAbs < 2 ^ 11 := by omega
      have pn := pow_lt_mul bf1 bn
      rw [← Int.natAbs_mul] at pn
      have ba : ((f.num * i).fdiv f.den).natAbs < 2 ^ 31 := by
        rw [fdiv_nat]
        exact Nat.lt_of_le_of_lt (natAbs_ediv_le _ _) pn
      rcases c with rfl | rfl
      · exact Bd.divInt (n := 39) (by omega) (by omega)
      · exact Bd.divInt (n := 39) (by omega) (by omega)
  generalize nearL f m 1 [] = L at *
  refine onL_in hp ?_
  by_cases c0 : ((L.map fr).length : Int) < 2
  · refine ifT (decide_eq_true c0) ?_
    have : ordN L = L := by
      rw [List.length_map] at c0
      match L, c0 with
      | [], _ => rfl
      | [a], _ => rfl
      | a :: b :: r, c0 => simp at c0; omega
    rw [this] at q
    exact Dr.news q sb hn hp
  refine ifF (decide_eq_false c0) ?_
  match L, bds, c0 with
  | [], _, c0 => simp at c0
  | [a], _, c0 => simp at c0
  | a :: b :: r, bds, c0 =>
    have h0 : atI ((a :: b :: r).map fr) 0 = some (fr a) := atI_nat (j := 0) rfl
    have h1 : atI ((a :: b :: r).map fr) 1 = some (fr b) := atI_nat (j := 1) rfl
    refine opIx_list hp h0 ?_
    refine opIx_list hp h1 ?_
    refine lunder_ok hT.un (n := 40) (by decide) (by decide) (bds a (by simp)) (bds b (by simp)) ?_
    unfold ordN at q
    dsimp only at q
    by_cases c : a < b
    · rw [if_pos c] at q
      refine ifT (decide_eq_true c) ?_
      exact Dr.news q sb hn hp
    · rw [if_neg c, List.map_reverse] at q
      refine ifF (decide_eq_false c) ?_
      refine onL_in hp ?_
      refine newL_in fun p3 np3 => ?_
      refine Dr.news q (sb.trans ((Sub.refl _).new np3)) ?_ hset_same
      cases e : h p3 with
      | none => rfl
      | some o => rw [sb _ _ e] at np3; cases np3
end
end KM
/-! K3J: k03, the law's turns. -/
namespace KM
open PySem PySem.Spec PyProof.Rows L2
structure Lib3 (T : Str → Option Fc) : Prop where
  sm : T "_law_stream" = some ⟨1, 1, c__law_stream⟩
  pk : T "_law_pick" = some ⟨2, 2, c__law_pick⟩
  dw : T "_law_drawn" = some ⟨2, 3, c__law_drawn⟩
  pl : T "_law_plus" = some ⟨2, 2, c__law_plus⟩
  lp : LPathLib T
  si : SimpLib T
  ls : LSimpLib T
  ne : NearLib T
  ln : LNearLib T
section
variable {T : Str → Option Fc}
theorem mem_small {xs : List Int} {i : Nat} {x : Val} (h : (xs.map Val.int)[i]? = some x) : ∃ b, x = .int b ∧ b ∈ xs := by
  have := List.mem_of_getElem? h
  obtain ⟨b, hb, rfl⟩ := List.mem_map.mp this
  exact ⟨b, rfl, hb⟩
theorem ldrawn_ok (hT : Lib3 T) {k : Nat} {a : Addr} {h g : Hep} {b : Nat} {Q : VQ} {E : XQ} (st : St a h (b + 2) g)
    (q : ∀ x h' g', Sub h h' → St a h' b g' → Bd 7 x → x.den ≤ 7 → Q (fr x) g') : Calls T (k + 3) "_law_drawn" [.ref a, .int 3] g Q E := by
  refine Calls_eq [some (.ref a), some (.int 3), none] hT.dw rfl rfl ?_
  refine newL_in fun p np => ?_
  obtain ⟨st1, hp⟩ := st.new (o := .lst (([1, 1, 1, 2, 3, 4, 5, 7] : List Int).map Val.int)) np
  have s1 : Sub h (hset h p (.lst (([1, 1, 1, 2, 3, 4, 5, 7] : List Int).map Val.int))) := (Sub.refl h).new hp
  refine pickS hT.lp.dr hT.pk (b := b + 1) st1 hset_same (by decide) (by decide) fun i x g2 e st2 => ?_
  obtain ⟨w, rfl, hw⟩ := mem_small e
  have w1 : 1 ≤ w ∧ w ≤ 7 := by
    simp only [List.mem_cons, List.not_mem_nil, or_false] at hw
    omega
  refine ⟨mul_ok (n := 64) (by decide) (by decide) (by decide) (by decide), mul_ok (n := 64) (by decide) (by decide) (by decide) (by omega), ?_⟩
  refine drawS hT.lp.dr (b := b) st2 (by show 0 < 2 * 3 * w + 1; omega) (by show 2 * 3 * w + 1 < _; omega) fun d g3 st3 d0 d1 => ?_
  refine ⟨mul_ok (n := 64) (by decide) (by decide) (by decide) (by omega), ?_⟩
  have d1 : d < 2 * 3 * w + 1 := d1
  refine lfrac_ok hT.ls.fr (n := 6) (by omega) (by decide) (by decide) (by omega) (by omega) ?_
  refine Dr.here (q _ _ _ s1 st3 (Bd.divInt (n := 6) (by omega) (by omega)) ?_)
  have := den_le (a := d - 3 * w) (b := w) (by omega)
  omega
theorem lpathS (hT : LPathLib T) {k : Nat} {a : Addr} {x : Rat} {u b : Nat} {h g : Hep} {Q : VQ} {E : XQ} (st : St a h (b + 1) g) (ea : x.num = u) (a0 : 0 < u) (la : u < 100000) (lb : x.den < 100000)
    (q : ∀ h' g', Sub h h' → St a h' b g' → Q (.bl true) g') : Calls T (k + 6) "_law_path_right" [.ref a, fr x] g Q E := by
  obtain ⟨S, rfl, ok, rfl⟩ := st
  exact lpath_ok hT ok ea a0 la lb fun h' S' s sm ok' => q h' _ s ⟨S', sm.1, ok', rfl⟩
theorem nb_frs (L : List Rat) : (D.lst (L.map dr)).nb = true := by simp only [D.nb]; exact nbs_drs L
theorem wids_drs : ∀ (L : List Rat), D.wids (L.map dr) ≤ 2
  | [] => by simp [D.wids]
  | x :: xs => by simp only [List.map_cons, D.wids, wid_dr]; have := wids_drs xs; omega
end
end KM
/-! K3K: k03, a turn of the law. -/
namespace KM
open PySem PySem.Spec PyProof.Rows L2
def c_turn : Sxs := .cons (.asg (.nm 3) (.bin .Add (.int 1) (.call "_law_draw" (.cons (.var 1) (.cons (.int 90) .nil))))) (.cons (.par [4, 5] (.cons (.call "_law_frac" (.cons (.bin .Sub (.call "_law_draw" (.cons (.var 1) (.cons (.bin .Mult (.int 9) (.var 3)) .nil))) (.bin .Mult (.int 4) (.var 3))) (.cons (.var 3) .nil))) (.cons (.bin .Add (.int 1) (.call "_law_draw" (.cons (.var 1) (.cons (.call "_law_pick" (.cons (.var 1) (.cons (.lst (.cons (.int 3) (.cons (.int 12) (.cons (.int 40) .nil)))) .nil))) .nil)))) .nil))) (.cons (.asg (.nm 6) (.call "_law_nearest" (.cons (.var 4) (.cons (.var 5) .nil)))) (.cons (.asg (.nm 7) (.call "nearest" (.cons (.call "_law_loose" (.cons (.var 1) (.cons (.var 4) .nil))) (.cons (.var 5) .nil)))) (.cons (.ife (.not (.call "_law_same" (.cons (.lst (.cons (.var 7) (.cons (.kall "nearest" [1, 0] (.cons (.var 5) (.cons (.var 4) .nil))) .nil))) (.cons (.lst (.cons (.var 6) (.cons (.var 6) .nil))) .nil)))) (.cons (.ret (.bl false)) .nil) .nil) (.cons (.expr (.mth .append (.var 7) (.cons (.str "late") .nil))) (.cons (.ife (.not (.call "_law_same" (.cons (.call "nearest" (.cons (.var 4) (.cons (.var 5) .nil))) (.cons (.var 6) .nil)))) (.cons (.ret (.bl false)) .nil) .nil) (.cons (.asg (.nm 8) (.call "_law_drawn" (.cons (.var 1) (.cons (.int 3) .nil)))) (.cons (.asg (.nm 9) (.call "_law_plus" (.cons (.var 8) (.cons (.call "_law_frac" (.cons (.bin .Add (.int 1) (.call "_law_draw" (.cons (.var 1) (.cons (.int 3) .nil)))) (.cons (.bin .Add (.int 1) (.call "_law_draw" (.cons (.var 1) (.cons (.int 60) .nil)))) .nil))) .nil)))) (.cons (.asg (.nm 6) (.call "_law_simplest" (.cons (.var 8) (.cons (.var 9) .nil)))) (.cons (.ife (.and (.cmp .IsNot (.var 6) .non) (.not (.call "_law_same" (.cons (.lst (.cons (.call "simplest" (.cons (.call "_law_loose" (.cons (.var 1) (.cons (.var 8) .nil))) (.cons (.var 9) .nil))) (.cons (.kall "simplest" [1, 0] (.cons (.call "_law_loose" (.cons (.var 1) (.cons (.var 9) .nil))) (.cons (.var 8) .nil))) .nil))) (.cons (.lst (.cons (.var 6) (.cons (.var 6) .nil))) .nil))))) (.cons (.ret (.bl false)) .nil) .nil) (.cons (.ife (.not (.call "_law_path_right" (.cons (.var 1) (.cons (.call "_law_frac" (.cons (.bin .Add (.int 1) (.call "_law_draw" (.cons (.var 1) (.cons (.int 60) .nil)))) (.cons (.bin .Add (.int 1) (.call "_law_draw" (.cons (.var 1) (.cons (.int 60) .nil)))) .nil))) .nil)))) (.cons (.ret (.bl false)) .nil) .nil) .nil)))))))))))
def c_last : Sxs := .cons (.asg (.nm 7) (.lst (.cons (.call "nearest" (.cons (.tup (.cons (.int 1) (.cons (.int 2) .nil))) (.cons (.int 1) .nil))) (.cons (.call "nearest" (.cons (.tup (.cons (.int 22) (.cons (.int 7) .nil))) (.cons (.int 3) .nil))) (.cons (.call "nearest" (.cons (.tup (.cons (.int 355) (.cons (.int 113) .nil))) (.cons (.int 100) .nil))) (.cons (.call "simplest" (.cons (.tup (.cons (.int 1) (.cons (.int 3) .nil))) (.cons (.tup (.cons (.int 1) (.cons (.int 2) .nil))) .nil))) (.cons (.call "simplest" (.cons (.tup (.cons (.neg (.int 1)) (.cons (.int 2) .nil))) (.cons (.tup (.cons (.int 1) (.cons (.int 2) .nil))) .nil))) .nil))))))) (.cons (.expr (.mth .extend (.var 7) (.cons (.lst (.cons (.call "simplest" (.cons (.tup (.cons (.int 0) (.cons (.int 1) .nil))) (.cons (.tup (.cons (.int 1) (.cons (.int 9) .nil))) .nil))) (.cons (.call "simplest" (.cons (.tup (.cons (.neg (.int 2)) (.cons (.int 1) .nil))) (.cons (.tup (.cons (.neg (.int 1)) (.cons (.int 1) .nil))) .nil))) (.cons (.call "path_to" (.cons (.tup (.cons (.int 1) (.cons (.int 1) .nil))) .nil)) (.cons (.call "nearest" (.cons (.tup (.cons (.int 7) (.cons (.int 3) .nil))) (.cons (.int 1000) .nil))) .nil))))) .nil))) (.cons (.ret (.call "_law_same" (.cons (.var 7) (.cons (.lst (.cons (.lst (.cons (.tup (.cons (.int 0) (.cons (.int 1) .nil))) (.cons (.tup (.cons (.int 1) (.cons (.int 1) .nil))) .nil))) (.cons (.lst (.cons (.tup (.cons (.int 3) (.cons (.int 1) .nil))) .nil)) (.cons (.lst (.cons (.tup (.cons (.int 311) (.cons (.int 99) .nil))) .nil)) (.cons (.tup (.cons (.int 2) (.cons (.int 5) .nil))) (.cons (.tup (.cons (.int 0) (.cons (.int 1) .nil))) (.cons (.tup (.cons (.int 1) (.cons (.int 10) .nil))) (.cons (.tup (.cons (.neg (.int 3)) (.cons (.int 2) .nil))) (.cons (.lst .nil) (.cons (.lst (.cons (.tup (.cons (.int 7) (.cons (.int 3) .nil))) .nil)) .nil)))))))))) .nil)))) .nil))
theorem St.newL {a : Addr} {h g : Hep} {n : Nat} {xs : List Val} {Q : VQ} (st : St a h n g) (q : ∀ p h' g', Sub h h' → Sub g g' → St a h' n g' → h' p = some (.lst xs) → h p = none → Q (.ref p) g') : KM.newL g xs Q := newL_in fun p np => by
  obtain ⟨st1, hp⟩ := st.new (o := .lst xs) np
  exact q p _ _ ((Sub.refl h).new hp) ((Sub.refl g).new np) st1 hset_same hp
section
variable {T : Str → Option Fc}
theorem same2 (hS : T "_law_same" = some ⟨2, 4, c__law_same⟩) {n : Nat} {d : D} {v w : Val} {h : Hep} {Q : VQ} {E : XQ} (hn : d.dep < n) (hw : d.wid < 1000000) (rd : Rd h d v) (rw' : Rd h d w) (q : Q (.bl true) h) : Calls T n "_law_same" [v, w] h Q E :=
  same_ok hS n d d v w h Q E hn hw rd rw' (by rw [D.beq_refl]; exact q)
theorem rd_lst2 {h : Hep} {p : Addr} {v w : Val} {d e : D} (hp : h p = some (.lst [v, w])) (a : Rd h d v) (b : Rd h e w) : Rd h (.lst [d, e]) (.ref p) := ⟨p, _, rfl, hp, Rds.cons a (Rds.cons b rfl)⟩
theorem frs_dep (L : List Rat) : (D.lst (L.map dr)).dep ≤ 2 := by have := deps_drs L; simp only [D.dep]; omega
theorem ordN_len (L : List Rat) : (ordN L).length = L.length := by
  unfold ordN
  split
  · split
    · rfl
    · simp
  · rfl
theorem nearL_len (f : Rat) : ∀ (j : Nat) (n : Int) (L : List Rat), (nearL f j n L).length ≤ L.length + 2 * j
  | 0, n, L => by simp [nearL]
  | j + 1, n, L => by
    have := nearL_len f j (n + 1) (stepN f (stepN f L (lowN f n)) (hiN f n))
    have := stepN_len f (hiN f n) (stepN f L (lowN f n))
    have := stepN_len f (lowN f n) L
    simp only [nearL]
    omega
theorem turn_ok (hT : Lib3 T) {k : Nat} {a : Addr} {b : Nat} {h g : Hep} {D0 : KD} {E : XE'} {z0 z2 z3 z4 z5 z6 z7 z8 z9 : Option Val} (st : St a h (b + 20) g)
    (q : ∀ h' g' z3 z4 z5 z6 z7 z8 z9, Sub h h' → St a h' b g' → D0.nx [z0, some (.ref a), z2, z3, z4, z5, z6, z7, z8, z9] g') : wSs (Calls T (k + 40)) c_turn [z0, some (.ref a), z2, z3, z4, z5, z6, z7, z8, z9] g D0 E := by
  refine drawS hT.lp.dr (b := b + 19) st (by decide) (by decide) fun d1 g1 st1 d1a d1b => ?_
  obtain ⟨w, hw⟩ : ∃ w : Nat, 1 + d1 = w := ⟨(1 + d1).toNat, by omega⟩
  refine add_to hw ?_
  have w0 : 1 ≤ w ∧ w ≤ 90 := by omega
  refine ⟨mul_ok (n := 64) (by decide) (by decide) (by decide) (by omega), ?_⟩
  refine drawS hT.lp.dr (b := b + 18) st1 (by omega) (by omega) fun d2 g2 st2 d2a d2b => ?_
  refine ⟨mul_ok (n := 64) (by decide) (by decide) (by decide) (by omega), ?_⟩
  refine lfrac_ok hT.ls.fr (n := 9) (by omega) (by decide) (by decide) (by omega) (by omega) ?_
  have bf : Bd 20 (Rat.divInt (d2 - 4 * w) w) := (Bd.divInt (n := 9) (by omega) (by omega)).mono (by decide)
  generalize Rat.divInt (d2 - 4 * w) w = f at bf ⊢
  refine st2.newL fun p0 h3 g3 s3 _ st3 hp0 nhp0 => ?_
  refine pickS hT.lp.dr hT.pk (b := b + 17) (xs := ([3, 12, 40] : List Int).map Val.int) st3 hp0 (by decide) (by decide) fun i x g4 e st4 => ?_
  obtain ⟨t, rfl, ht⟩ := mem_small e
  have t1 : 3 ≤ t ∧ t ≤ 40 := by
    simp only [List.mem_cons, List.not_mem_nil, or_false] at ht
    omega
  refine drawS hT.lp.dr (b := b + 16) st4 (by omega) (by omega) fun d3 g5 st5 d3a d3b => ?_
  obtain ⟨m, hm⟩ : ∃ m : Nat, 1 + d3 = m := ⟨(1 + d3).toNat, by omega⟩
  refine add_to hm ?_
  have m0 : 1 ≤ m ∧ m ≤ 40 := by omega
  refine lnearest_ok hT.ln bf m0.1 (by omega) ?_
  have lenL : (ordN (nearL f m 1 [])).length ≤ 80 := by
    rw [ordN_len]
    have := nearL_len f m 1 []
    simp at this
    omega
  have near : ∀ {k v d g Q E}, Rd g d v → d.tp = dr f → newL g ((ordN (nearL f m 1 [])).map fr) Q → Calls T (k + 6) "nearest" [v, .int m] g Q E := fun rd e q => nearest_ok hT.ne rd e bf m0.1 (by omega) q
  generalize ordN (nearL f m 1 []) = L at lenL near ⊢
  clear bf
  have wL := wids_drs L
  have dL := deps_drs L
  refine st5.newL fun p1 h6 g6 s6 _ st6 hp1 nhp1 => ?_
  refine looseS hT.lp.dr hT.lp.lo (b := b + 15) (d := dr f) (st6.le (by rw [cnt_dr]; omega)) (by rw [dep_dr]; omega) (by rw [wid_dr]; decide) (rd_fr _ f) fun v' d' h7 g7 s7 st7 rd7 e7 => ?_
  refine near (rd7.sub st7.sub) e7 ?_
  refine st7.newL fun p2 h8 g8 s8 _ st8 hp2 nhp2 => ?_
  refine near (rd_fr _ f) rfl ?_
  refine st8.newL fun p3 h9 g9 s9 _ st9 hp3 nhp3 => ?_
  refine st9.newL fun p4 h10 g10 s10 _ st10 hp4 nhp4 => ?_
  refine st10.newL fun p5 h11 g11 s11 _ st11 hp5 nhp5 => ?_
  have r1 : Rd h11 (.lst (L.map dr)) (.ref p1) := (rd_frs hp1).sub (s7.trans (s8.trans (s9.trans (s10.trans s11))))
  have r2 : Rd h11 (.lst (L.map dr)) (.ref p2) := (rd_frs hp2).sub (s9.trans (s10.trans s11))
  have r3 : Rd h11 (.lst (L.map dr)) (.ref p3) := (rd_frs hp3).sub (s10.trans s11)
  refine same2 hT.lp.sa (d := .lst [.lst (L.map dr), .lst (L.map dr)]) (by simp only [D.dep, D.deps]; omega) (by simp only [D.wid, D.wids, List.length_cons, List.length_nil, List.length_map]; omega)
    (Rd.sub st11.sub (rd_lst2 (s11 _ _ hp4) r2 r3)) (Rd.sub st11.sub (rd_lst2 hp5 r1 r1)) ?_
  have q2 : h11 p2 = some (.lst (L.map fr)) := s11 _ _ (s10 _ _ (s9 _ _ hp2))
  have q1 : h11 p1 = some (.lst (L.map fr)) := s11 _ _ (s10 _ _ (s9 _ _ (s8 _ _ (s7 _ _ hp1))))
  refine ⟨onL_in (st11.sub _ _ q2) trivial, onL_in (st11.sub _ _ q2) ⟨?_, ?_⟩⟩
  · show (L.map fr).length < 1000000
    rw [List.length_map]; omega
  have st12 := st11.set (o := .lst (L.map fr ++ [.str "late"])) q2
  -- the list due, if it is not the one told
  have ne12 : p2 ≠ p1 := fun e => by
    subst e
    rw [s7 _ _ hp1] at nhp2
    cases nhp2
  have s12 : Sub h (hset h11 p2 (.lst (L.map fr ++ [.str "late"]))) := (s3.trans (s6.trans (s7.trans (s8.trans (s9.trans (s10.trans s11)))))).setNew (by
    cases e : h p2 with
    | none => rfl
    | some o => rw [(s3.trans (s6.trans s7)) _ _ e] at nhp2; cases nhp2)
  have q1' : (hset h11 p2 (.lst (L.map fr ++ [.str "late"]))) p1 = some (.lst (L.map fr)) := by rw [hset_ne (Ne.symm ne12)]; exact q1
  generalize hset h11 p2 (.lst (L.map fr ++ [.str "late"])) = h12 at st12 q1' s12 ⊢
  generalize hset g11 p2 (.lst (L.map fr ++ [.str "late"])) = g12 at st12 ⊢
  refine near (rd_fr _ f) rfl ?_
  refine st12.newL fun p6 h13 g13 s13 _ st13 hp6 nhp6 => ?_
  refine same2 hT.lp.sa (d := .lst (L.map dr)) (by simp only [D.dep]; omega) (by simp only [D.wid, List.length_map]; omega)
    (Rd.sub st13.sub (rd_frs hp6)) (Rd.sub st13.sub ((rd_frs q1').sub s13)) ?_
  clear near q1 q2 r1 r2 r3
  refine ldrawn_ok (b := b + 13) hT (st13.le (by omega)) fun x h14 g14 s14 st14 bx xd => ?_
  refine drawS hT.lp.dr (b := b + 12) st14 (by decide) (by decide) fun d4 g15 st15 d4a d4b => ?_
  refine drawS hT.lp.dr (b := b + 11) st15 (by decide) (by decide) fun d5 g16 st16 d5a d5b => ?_
  refine lfrac_ok hT.ls.fr (n := 6) (by omega) (by decide) (by decide) (by omega) (by omega) ?_
  have bu : Bd 7 (Rat.divInt (1 + d4) (1 + d5)) := Bd.divInt (n := 6) (by omega) (by omega)
  have hu : x < x + Rat.divInt (1 + d4) (1 + d5) := by
    have : 0 < Rat.divInt (1 + d4) (1 + d5) := (lt_divInt (by omega) 0).mpr (by show (0 : Int) * _ < _ * 1; omega)
    grind
  have by' := bx.add bu
  refine lplus_ok hT.ls.fr hT.pl (n := 7) (by decide) (by decide) bx bu ?_
  generalize x + Rat.divInt (1 + d4) (1 + d5) = y at hu by' ⊢
  clear bu
  have s014 := s12.trans (s13.trans s14)
  have path : ∀ {h' g' z6}, Sub h h' → St a h' (b + 4) g' → wSs (Calls T (k + 40)) (.cons (.ife (.not (.call "_law_path_right" (.cons (.var 1) (.cons (.call "_law_frac" (.cons (.bin .Add (.int 1) (.call "_law_draw" (.cons (.var 1) (.cons (.int 60) .nil)))) (.cons (.bin .Add (.int 1) (.call "_law_draw" (.cons (.var 1) (.cons (.int 60) .nil)))) .nil))) .nil)))) (.cons (.ret (.bl false)) .nil) .nil) .nil) [z0, some (.ref a), z2, some (.int w), some (fr f), some (.int m), z6, some (.ref p2), some (fr x), some (fr y)] g' D0 E := by
    intro h' g' z6 sb st
    refine drawS hT.lp.dr (b := b + 3) st (by decide) (by decide) fun e1 g1 st1 e1a e1b => ?_
    refine drawS hT.lp.dr (b := b + 2) st1 (by decide) (by decide) fun e2 g2 st2 e2a e2b => ?_
    refine lfrac_ok hT.ls.fr (n := 6) (by omega) (by decide) (by decide) (by omega) (by omega) ?_
    have bz : Bd 7 (Rat.divInt (1 + e1) (1 + e2)) := Bd.divInt (n := 6) (by omega) (by omega)
    have pz : 0 < (Rat.divInt (1 + e1) (1 + e2)).num := by
      have := num_mul (a := 1 + e1) (b := 1 + e2) (by omega)
      have d0 := (Rat.divInt (1 + e1) (1 + e2)).den_pos
      generalize Rat.divInt (1 + e1) (1 + e2) = z at this d0 ⊢
      have k : 0 < (1 + e1) * (z.den : Int) := Int.mul_pos (by omega) (by omega)
      rw [← this] at k
      exact Int.pos_of_mul_pos_left k (by omega)
    generalize Rat.divInt (1 + e1) (1 + e2) = z at bz pz ⊢
    have bz1 := bz.1
    have bz2 := bz.2
    refine lpathS hT.lp (u := z.num.toNat) (b := b + 1) st2 (by omega) (by omega) (by omega) (by omega) fun h3 g3 s3 st3 => ?_
    exact q _ _ _ _ _ _ _ _ _ (sb.trans s3) (st3.le (by omega))
  refine lsimplest_ok hT.ls (bx.mono (by decide)) (by'.mono (by decide)) ?_ fun u n lsm n400 => ?_
  · exact path s014 (st16.le (by omega))
  · refine looseS hT.lp.dr hT.lp.lo (b := b + 10) (d := dr x) (st16.le (by rw [cnt_dr]; omega)) (by rw [dep_dr]; omega) (by rw [wid_dr]; decide) (rd_fr _ x) fun v1 e1 h17 g17 s17 st17 rd17 e17 => ?_
    have x0 := x.den_pos
    have eqs : ∀ s t, SmI x.num x.den y.num y.den s t → pr s t = fr (Rat.divInt u n) := fun s t sm => by
      obtain ⟨rfl, rfl⟩ := lsm.eq (by omega) (by have := y.den_pos; omega) sm
      exact (fr_co sm.q0 sm.gcd).symm
    refine simplest_ok (k := k + 35) hT.si (rd17.sub st17.sub) e17 (rd_fr _ y) rfl hu (bx.mono (by decide)) (by'.mono (by decide)) (by omega) fun s t sm => ?_
    rw [eqs s t sm]
    refine looseS hT.lp.dr hT.lp.lo (b := b + 9) (d := dr y) (st17.le (by rw [cnt_dr]; omega)) (by rw [dep_dr]; omega) (by rw [wid_dr]; decide) (rd_fr _ y) fun v2 e2 h18 g18 s18 st18 rd18 e18 => ?_
    refine simplest_ok (k := k + 35) hT.si (rd_fr _ x) rfl (rd18.sub st18.sub) e18 hu (bx.mono (by decide)) (by'.mono (by decide)) (by omega) fun s t sm => ?_
    rw [eqs s t sm]
    refine st18.newL fun p7 h19 g19 s19 _ st19 hp7 _ => ?_
    refine st19.newL fun p8 h20 g20 s20 _ st20 hp8 _ => ?_
    refine same2 hT.lp.sa (d := .lst [dr (Rat.divInt u n), dr (Rat.divInt u n)]) (by simp only [D.dep, D.deps, dep_dr]; omega) (by simp only [D.wid, D.wids, wid_dr, List.length_cons, List.length_nil]; omega)
      (Rd.sub st20.sub (rd_lst2 (s20 _ _ hp7) (rd_fr _ _) (rd_fr _ _))) (Rd.sub st20.sub (rd_lst2 hp8 (rd_fr _ _) (rd_fr _ _))) ?_
    exact path (s014.trans (s17.trans (s18.trans (s19.trans s20)))) (st20.le (by omega))
end
end KM
/-! K3L: k03, the law. -/
namespace KM
open PySem PySem.Spec PyProof.Rows L2
def c_law3 : Sxs := .cons (.asg (.nm 1) (.call "_law_stream" (.cons (.var 0) .nil))) (.cons (.forr (.nm 2) (.rng1 (.int 8)) c_turn) c_last)
theorem newL_sub {g : Hep} {xs : List Val} {Q : VQ} (q : ∀ p g', Sub g g' → g' p = some (.lst xs) → g p = none → Q (.ref p) g') : KM.newL g xs Q := newL_in fun p np => q p _ ((Sub.refl g).new np) hset_same np
theorem near_a : ordN (nearL (Rat.divInt 1 2) 1 1 []) = [Rat.divInt 0 1, Rat.divInt 1 1] := by decide +kernel
theorem near_b : ordN (nearL (Rat.divInt 22 7) 3 1 []) = [Rat.divInt 3 1] := by decide +kernel
theorem near_c : ordN (nearL (Rat.divInt 355 113) 100 1 []) = [Rat.divInt 311 99] := by decide +kernel
theorem near_d : ordN (nearL (Rat.divInt 7 3) 1000 1 []) = [Rat.divInt 7 3] := near_few (by decide +kernel)
theorem lsm_a : LSm 1 3 1 2 2 5 := ⟨by decide, ⟨by decide, by decide⟩, fun n k h0 h1 ⟨i, j⟩ => by
  have : n = 1 ∨ n = 2 ∨ n = 3 ∨ n = 4 := by omega
  rcases this with rfl | rfl | rfl | rfl <;> omega, fun k ⟨i, j⟩ => by omega⟩
theorem lsm_b : LSm (-1) 2 1 2 0 1 := ⟨by decide, ⟨by decide, by decide⟩, fun n k h0 h1 _ => by omega, fun k _ => by simp⟩
theorem lsm_c : LSm 0 1 1 9 1 10 := ⟨by decide, ⟨by decide, by decide⟩, fun n k h0 h1 ⟨i, j⟩ => by
  have : n = 1 ∨ n = 2 ∨ n = 3 ∨ n = 4 ∨ n = 5 ∨ n = 6 ∨ n = 7 ∨ n = 8 ∨ n = 9 := by omega
  rcases this with rfl | rfl | rfl | rfl | rfl | rfl | rfl | rfl | rfl <;> omega, fun k ⟨i, j⟩ => by omega⟩
theorem lsm_d : LSm (-2) 1 (-1) 1 (-3) 2 := ⟨by decide, ⟨by decide, by decide⟩, fun n k h0 h1 ⟨i, j⟩ => by
  have : n = 1 := by omega
  subst this
  omega, fun k ⟨i, j⟩ => by omega⟩
section
variable {T : Str → Option Fc}
theorem loop_ok (hT : Lib3 T) {k : Nat} {a : Addr} {b : Nat} {D0 : KD} {E : XE'} {z0 : Option Val} : ∀ (j : Nat) (lo : Int) {h g : Hep} {z2 z3 z4 z5 z6 z7 z8 z9 : Option Val}, St a h (b + 20 * j) g →
    (∀ h' g' z2 z3 z4 z5 z6 z7 z8 z9, St a h' b g' → D0.nx [z0, some (.ref a), z2, z3, z4, z5, z6, z7, z8, z9] g') → forW (wSs (Calls T (k + 40)) c_turn) (bindT (.nm 2)) [] D0 E (rngV lo j) [z0, some (.ref a), z2, z3, z4, z5, z6, z7, z8, z9] g
  | 0, lo, h, g, z2, z3, z4, z5, z6, z7, z8, z9, st, q => ⟨trivial, q _ _ _ _ _ _ _ _ _ _ st⟩
  | j + 1, lo, h, g, z2, z3, z4, z5, z6, z7, z8, z9, st, q => by
    refine ⟨trivial, ?_⟩
    refine turn_ok hT (b := b + 20 * j) (st.le (by omega)) fun h' g' z3 z4 z5 z6 z7 z8 z9 s st' => ?_
    exact loop_ok hT j (lo + 1) st' q
theorem smp_at {x y : Rat} {a b c d u n : Int} (l : LSm a b c d u n) (hb : 0 < b) (hd : 0 < d) (h1 : x.num = a) (h2 : x.den = b) (h3 : y.num = c) (h4 : y.den = d) : ∀ s t, SmI x.num x.den y.num y.den s t → pr s t = pr u n := fun s t sm => by
  rw [h1, h2, h3, h4] at sm
  obtain ⟨rfl, rfl⟩ := l.eq hb hd sm
  rfl
theorem tp_dp {f : Rat} {a b : Int} (h : f.num = a ∧ (f.den : Int) = b) : (dp a b).tp = dr f := by
  obtain ⟨h1, h2⟩ := h
  unfold dp dr
  rw [← h1, ← h2]
  rfl
theorem simplest_at (hT : Lib3 T) {k : Nat} {a b c d u n : Int} {h : Hep} {Q : VQ} {E : XQ} (l : LSm a b c d u n) (hb : 0 < b) (hd : 0 < d) (h1 : (Rat.divInt a b).num = a ∧ ((Rat.divInt a b).den : Int) = b) (h2 : (Rat.divInt c d).num = c ∧ ((Rat.divInt c d).den : Int) = d)
    (lt : Rat.divInt a b < Rat.divInt c d) (sm : a.natAbs < 100 ∧ b < 10 ∧ c.natAbs < 100 ∧ d < 10) (q : Q (pr u n) h) : Calls T (k + 40) "simplest" [pr a b, pr c d] h Q E := by
  have bd : ∀ a b : Int, a.natAbs < 2 ^ 31 → b.natAbs < 2 ^ 31 → Bd 32 (Rat.divInt a b) := fun a b h h' => Bd.divInt h h'
  refine simplest_ok (k := k + 35) hT.si (rd_pr _ a b) (tp_dp h1) (rd_pr _ c d) (tp_dp h2) lt (bd _ _ (by omega) (by omega)) (bd _ _ (by omega) (by omega)) (by omega) fun s t sm => ?_
  rw [smp_at l hb hd h1.1 h1.2 h2.1 h2.2 s t sm]
  exact q
theorem nearest_at (hT : Lib3 T) {k : Nat} {a b : Int} {m : Nat} {L : List Rat} {h : Hep} {Q : VQ} {E : XQ} (h1 : (Rat.divInt a b).num = a ∧ ((Rat.divInt a b).den : Int) = b) (sm : a.natAbs < 1000 ∧ b.natAbs < 1000 ∧ 1 ≤ m ∧ m < 2 ^ 11) (hL : ordN (nearL (Rat.divInt a b) m 1 []) = L) (q : newL h (L.map fr) Q) : Calls T (k + 40) "nearest" [pr a b, .int m] h Q E := by
  subst hL
  exact nearest_ok (k := k + 34) hT.ne (rd_pr _ a b) (tp_dp h1) (Bd.divInt (n := 19) (by omega) (by omega)) sm.2.2.1 sm.2.2.2 q
theorem last_ok (hT : Lib3 T) {k : Nat} {g : Hep} {Q : VQ} {E : XE'} {z0 z1 z2 z3 z4 z5 z6 z7 z8 z9 : Option Val} (q : ∀ g, Q (.bl true) g) : wSs (Calls T (k + 40)) c_last [z0, z1, z2, z3, z4, z5, z6, z7, z8, z9] g { nx := fun _ h1 => Dr h1 (Q .non), rt := fun v h1 => Dr h1 (Q v), bk := fun _ _ => False, ct := fun _ _ => False } E := by
  refine nearest_at hT (a := 1) (b := 2) (m := 1) (by decide +kernel) (by decide) near_a ?_
  refine newL_sub fun p1 g1 s1 hp1 _ => ?_
  refine nearest_at hT (a := 22) (b := 7) (m := 3) (by decide +kernel) (by decide) near_b ?_
  refine newL_sub fun p2 g2 s2 hp2 _ => ?_
  refine nearest_at hT (a := 355) (b := 113) (m := 100) (by decide +kernel) (by decide) near_c ?_
  refine newL_sub fun p3 g3 s3 hp3 _ => ?_
  refine simplest_at hT lsm_a (by decide) (by decide) (by decide +kernel) (by decide +kernel) (by decide +kernel) (by decide) ?_
  refine simplest_at hT lsm_b (by decide) (by decide) (by decide +kernel) (by decide +kernel) (by decide +kernel) (by decide) ?_
  refine newL_sub fun p4 g4 s4 hp4 n4 => ?_
  refine ⟨onL_in hp4 trivial, ?_⟩
  refine simplest_at hT lsm_c (by decide) (by decide) (by decide +kernel) (by decide +kernel) (by decide +kernel) (by decide) ?_
  refine simplest_at hT lsm_d (by decide) (by decide) (by decide +kernel) (by decide +kernel) (by decide +kernel) (by decide) ?_
  refine path_ok (k := k + 35) (x := Rat.divInt 1 1) (a := 1) hT.lp.toPathLib (rd_pr _ 1 1) (tp_dp (by decide +kernel)) (by decide +kernel) (by decide) (by decide) (by decide +kernel) fun t ht => ?_
  rw [Tn.det ht (Tn.here 1)]
  refine newL_sub fun p5 g5 s5 hp5 n5 => ?_
  refine nearest_at hT (a := 7) (b := 3) (m := 1000) (by decide +kernel) (by decide) near_d ?_
  refine newL_sub fun p6 g6 s6 hp6 n6 => ?_
  refine newL_sub fun p7 g7 s7 hp7 nhp7 => ?_
  have h4 := s7 _ _ (s6 _ _ (s5 _ _ hp4))
  refine onL_in h4 (onL_in hp7 ⟨by show 5 + 4 < 1000000; decide, ?_⟩)
  have keep : ∀ (p : Addr) (o o' : Ob), g7 p = some o → p ≠ p4 → (hset g7 p4 o') p = some o := fun p o o' e ne => by rw [hset_ne ne]; exact e
  have k1 := keep p1 _ (.lst ([.ref p1, .ref p2, .ref p3, pr 2 5, pr 0 1] ++ [pr 1 10, pr (-3) 2, .ref p5, .ref p6])) (s7 _ _ (s6 _ _ (s5 _ _ (s4 _ _ (s3 _ _ (s2 _ _ hp1)))))) (fun e => by subst e; rw [s3 _ _ (s2 _ _ hp1)] at n4; cases n4)
  have k2 := keep p2 _ (.lst ([.ref p1, .ref p2, .ref p3, pr 2 5, pr 0 1] ++ [pr 1 10, pr (-3) 2, .ref p5, .ref p6])) (s7 _ _ (s6 _ _ (s5 _ _ (s4 _ _ (s3 _ _ hp2))))) (fun e => by subst e; rw [s3 _ _ hp2] at n4; cases n4)
  have k3 := keep p3 _ (.lst ([.ref p1, .ref p2, .ref p3, pr 2 5, pr 0 1] ++ [pr 1 10, pr (-3) 2, .ref p5, .ref p6])) (s7 _ _ (s6 _ _ (s5 _ _ (s4 _ _ hp3)))) (fun e => by subst e; rw [hp3] at n4; cases n4)
  have k5 := keep p5 _ (.lst ([.ref p1, .ref p2, .ref p3, pr 2 5, pr 0 1] ++ [pr 1 10, pr (-3) 2, .ref p5, .ref p6])) (s7 _ _ (s6 _ _ hp5)) (fun e => by subst e; rw [hp4] at n5; cases n5)
  have k6 := keep p6 _ (.lst ([.ref p1, .ref p2, .ref p3, pr 2 5, pr 0 1] ++ [pr 1 10, pr (-3) 2, .ref p5, .ref p6])) (s7 _ _ hp6) (fun e => by subst e; rw [s5 _ _ hp4] at n6; cases n6)
  have k4 : (hset g7 p4 (.lst ([.ref p1, .ref p2, .ref p3, pr 2 5, pr 0 1] ++ [pr 1 10, pr (-3) 2, .ref p5, .ref p6]))) p4 = _ := hset_same
  refine newL_sub fun p8 g8 s8 hp8 _ => ?_
  refine newL_sub fun p9 g9 s9 hp9 _ => ?_
  refine newL_sub fun p10 g10 s10 hp10 _ => ?_
  refine newL_sub fun p11 g11 s11 hp11 _ => ?_
  refine newL_sub fun p12 g12 s12 hp12 _ => ?_
  refine newL_sub fun p13 g13 s13 hp13 _ => ?_
  have t8 := s9.trans (s10.trans (s11.trans (s12.trans s13)))
  have t7 := s8.trans t8
  have two : ∀ {g : Hep} {p : Addr} {a b c d : Int}, g p = some (.lst [pr a b, pr c d]) → Rd g (.lst [dp a b, dp c d]) (.ref p) := fun hp => ⟨_, _, rfl, hp, Rds.cons (rd_pr _ _ _) (Rds.cons (rd_pr _ _ _) rfl)⟩
  have one : ∀ {g : Hep} {p : Addr} {a b : Int}, g p = some (.lst [pr a b]) → Rd g (.lst [dp a b]) (.ref p) := fun hp => ⟨_, _, rfl, hp, Rds.cons (rd_pr _ _ _) rfl⟩
  have non : ∀ {g : Hep} {p : Addr}, g p = some (.lst []) → Rd g (.lst []) (.ref p) := fun hp => ⟨_, _, rfl, hp, rfl⟩
  have frs : ∀ {a b : Int}, (0 < b ∧ Int.gcd a b = 1) → fr (Rat.divInt a b) = pr a b := fun h => fr_co h.1 h.2
  have e1 : [Rat.divInt 0 1, Rat.divInt 1 1].map fr = [pr 0 1, pr 1 1] := by
    rw [List.map_cons, List.map_cons, List.map_nil, frs (by decide), frs (by decide)]
  have e2 : ∀ {a b : Int}, (0 < b ∧ Int.gcd a b = 1) → [Rat.divInt a b].map fr = [pr a b] := fun h => by
    rw [List.map_cons, List.map_nil, frs h]
  rw [e1] at k1
  rw [e2 (by decide)] at k2 k3 k6
  refine same2 hT.lp.sa (d := .lst [.lst [dp 0 1, dp 1 1], .lst [dp 3 1], .lst [dp 311 99], dp 2 5, dp 0 1, dp 1 10, dp (-3) 2, .lst [], .lst [dp 7 3]]) ?_ ?_ ?_ ?_ ?_
  · have : (D.lst [.lst [dp 0 1, dp 1 1], .lst [dp 3 1], .lst [dp 311 99], dp 2 5, dp 0 1, dp 1 10, dp (-3) 2, .lst [], .lst [dp 7 3]]).dep = 3 := by decide +kernel
    omega
  · decide +kernel
  · refine Rd.sub t7 ⟨p4, _, rfl, k4, ?_⟩
    exact Rds.cons (two k1) (Rds.cons (one k2) (Rds.cons (one k3) (Rds.cons (rd_pr _ _ _) (Rds.cons (rd_pr _ _ _) (Rds.cons (rd_pr _ _ _) (Rds.cons (rd_pr _ _ _) (Rds.cons (non k5) (Rds.cons (one k6) rfl))))))))
  · refine ⟨p13, _, rfl, hp13, ?_⟩
    exact Rds.cons (Rd.sub t8 (two hp8)) (Rds.cons (Rd.sub (s10.trans (s11.trans (s12.trans s13))) (one hp9)) (Rds.cons (Rd.sub (s11.trans (s12.trans s13)) (one hp10)) (Rds.cons (rd_pr _ _ _) (Rds.cons (rd_pr _ _ _) (Rds.cons (rd_pr _ _ _) (Rds.cons (rd_pr _ _ _) (Rds.cons (Rd.sub (s12.trans s13) (non hp11)) (Rds.cons (Rd.sub s13 (one hp12)) rfl))))))))
  · exact Dr.here (q _)
theorem law3_ok (hT : Lib3 T) (hL : T "law" = some ⟨1, 10, c_law3⟩) (ns : List Int) (h : ns.length ≤ 63) : Calls T 200 "law" [.rom (ns.map Val.int)] (fun _ => none) (fun v _ => v = .bl true) (fun _ _ => False) := by
  refine Calls_eq [some (.rom (ns.map Val.int)), none, none, none, none, none, none, none, none, none] hL rfl rfl ?_
  refine stream_ok hT.sm h fun a g st => ?_
  refine ⟨⟨by decide, by decide⟩, ?_⟩
  refine loop_ok (k := 159) hT (b := 0) 8 0 (st.le (by decide)) fun h' g' z2 z3 z4 z5 z6 z7 z8 z9 st' => ?_
  exact last_ok (k := 159) hT fun _ => rfl
end
end KM
namespace KM.L
open PySem PySem.Spec PyProof.Rows L2 KM
def topS (i : Nat) : Stmt := PySem.Challenge.pw_knowsmore_k03_whole_near_and_simple.main.body.getD i (.Pass ⟨0, 0, 0, 0⟩)
def fns : List Str := ["is_list", "is_whole", "is_row", "common_divisor", "reduced", "minus", "is_under", "kept_fraction", "need_two", "need_fraction", "nearest", "simplest_above", "simplest", "path_to", "_law_stream", "_law_draw", "_law_pick", "_law_same", "_law_loose", "_law_frac", "_law_plus", "_law_minus", "_law_under", "_law_drawn", "_law_q_neg", "_law_far", "_law_nearest", "_law_simplest", "_law_path_right", "law"]
def kcs : List KC := [⟨"path_to", ["fraction"], [0]⟩, ⟨"nearest", ["most", "fraction"], [1, 0]⟩, ⟨"simplest", ["other", "one"], [1, 0]⟩]
def c_is_list : Sxs := .cons (.ret (.bi .isi (.cons (.var 0) (.cons (.tup (.cons (.ty "list") (.cons (.ty "tuple") .nil))) .nil)))) .nil
def c_is_whole : Sxs := .cons (.ret (.and (.bi .isi (.cons (.var 0) (.cons (.ty "int") .nil))) (.not (.bi .isi (.cons (.var 0) (.cons (.ty "bool") .nil)))))) .nil
def c_is_row : Sxs := .cons (.ret (.and (.call "is_list" (.cons (.var 0) .nil)) (.cmp .Eq (.bi .len (.cons (.var 0) .nil)) (.var 1)))) .nil
def c_common_divisor : Sxs := .cons (.par [0, 1] (.cons (.bi .abs (.cons (.var 0) .nil)) (.cons (.bi .abs (.cons (.var 1) .nil)) .nil))) (.cons (.whil (.var 1) (.cons (.par [0, 1] (.cons (.var 1) (.cons (.bin .Mod (.var 0) (.var 1)) .nil))) .nil)) (.cons (.ret (.var 0)) .nil))
def c_reduced : Sxs := .cons (.asg (.nm 2) (.call "common_divisor" (.cons (.var 0) (.cons (.var 1) .nil)))) (.cons (.ife (.cmp .Lt (.var 1) (.int 0)) (.cons (.asg (.nm 2) (.neg (.var 2))) .nil) .nil) (.cons (.ret (.tup (.cons (.bin .FloorDiv (.var 0) (.var 2)) (.cons (.bin .FloorDiv (.var 1) (.var 2)) .nil)))) .nil))
def c_minus : Sxs := .cons (.ret (.call "reduced" (.cons (.bin .Sub (.bin .Mult (.ix (.var 0) (.int 0)) (.ix (.var 1) (.int 1))) (.bin .Mult (.ix (.var 1) (.int 0)) (.ix (.var 0) (.int 1)))) (.cons (.bin .Mult (.ix (.var 0) (.int 1)) (.ix (.var 1) (.int 1))) .nil)))) .nil
def c_is_under : Sxs := .cons (.ret (.cmp .Lt (.bin .Mult (.ix (.var 0) (.int 0)) (.ix (.var 1) (.int 1))) (.bin .Mult (.ix (.var 1) (.int 0)) (.ix (.var 0) (.int 1))))) .nil
def c_kept_fraction : Sxs := .cons (.ife (.or (.not (.call "is_row" (.cons (.var 0) (.cons (.int 2) .nil)))) (.or (.not (.call "is_whole" (.cons (.ix (.var 0) (.int 0)) .nil))) (.not (.call "is_whole" (.cons (.ix (.var 0) (.int 1)) .nil))))) (.cons (.ret .non) .nil) .nil) (.cons (.ife (.or (.cmp .Lt (.ix (.var 0) (.int 1)) (.int 1)) (.cmp .NotEq (.call "common_divisor" (.cons (.ix (.var 0) (.int 0)) (.cons (.ix (.var 0) (.int 1)) .nil))) (.int 1))) (.cons (.ret .non) .nil) .nil) (.cons (.ret (.tup (.cons (.ix (.var 0) (.int 0)) (.cons (.ix (.var 0) (.int 1)) .nil)))) .nil))
def c_need_two : Sxs := .cons (.par [2, 3] (.cons (.call "kept_fraction" (.cons (.var 0) .nil)) (.cons (.call "kept_fraction" (.cons (.var 1) .nil)) .nil))) (.cons (.ife (.cmp .Is (.var 2) .non) (.cons .bad .nil) .nil) (.cons (.ife (.cmp .Is (.var 3) .non) (.cons .bad .nil) .nil) (.cons (.ret (.tup (.cons (.var 2) (.cons (.var 3) .nil)))) .nil)))
def c_need_fraction : Sxs := .cons (.asg (.nm 1) (.call "kept_fraction" (.cons (.var 0) .nil))) (.cons (.ife (.cmp .Is (.var 1) .non) (.cons .bad .nil) .nil) (.cons (.ret (.var 1)) .nil))
def c_nearest : Sxs := .cons (.asg (.nm 2) (.call "need_fraction" (.cons (.var 0) .nil))) (.cons (.ife (.or (.not (.call "is_whole" (.cons (.var 1) .nil))) (.cmp .Lt (.var 1) (.int 1))) (.cons .bad .nil) .nil) (.cons (.ife (.cmp .LtE (.ix (.var 2) (.int 1)) (.var 1)) (.cons (.ret (.lst (.cons (.var 2) .nil))) .nil) .nil) (.cons (.par [3, 4] (.cons (.tup (.cons (.bin .FloorDiv (.ix (.var 2) (.int 0)) (.ix (.var 2) (.int 1))) (.cons (.int 1) .nil))) (.cons (.tup (.cons (.bin .Add (.bin .FloorDiv (.ix (.var 2) (.int 0)) (.ix (.var 2) (.int 1))) (.int 1)) (.cons (.int 1) .nil))) .nil))) (.cons (.whil (.cmp .LtE (.bin .Add (.ix (.var 3) (.int 1)) (.ix (.var 4) (.int 1))) (.var 1)) (.cons (.asg (.nm 5) (.tup (.cons (.bin .Add (.ix (.var 3) (.int 0)) (.ix (.var 4) (.int 0))) (.cons (.bin .Add (.ix (.var 3) (.int 1)) (.ix (.var 4) (.int 1))) .nil)))) (.cons (.asg (.tc (.nm 3) (.tc (.nm 4) .tn)) (.ife (.call "is_under" (.cons (.var 2) (.cons (.var 5) .nil))) (.tup (.cons (.var 3) (.cons (.var 5) .nil))) (.tup (.cons (.var 5) (.cons (.var 4) .nil))))) .nil))) (.cons (.par [6, 7] (.cons (.call "minus" (.cons (.var 2) (.cons (.var 3) .nil))) (.cons (.call "minus" (.cons (.var 4) (.cons (.var 2) .nil))) .nil))) (.cons (.ife (.cmp .Eq (.var 6) (.var 7)) (.cons (.ret (.lst (.cons (.var 3) (.cons (.var 4) .nil)))) .nil) .nil) (.cons (.ret (.ife (.call "is_under" (.cons (.var 6) (.cons (.var 7) .nil))) (.lst (.cons (.var 3) .nil)) (.lst (.cons (.var 4) .nil)))) .nil)))))))
def c_simplest_above : Sxs := .cons (.asg (.nm 2) (.bin .FloorDiv (.ix (.var 0) (.int 0)) (.ix (.var 0) (.int 1)))) (.cons (.ife (.call "is_under" (.cons (.tup (.cons (.bin .Add (.var 2) (.int 1)) (.cons (.int 1) .nil))) (.cons (.var 1) .nil))) (.cons (.ret (.tup (.cons (.bin .Add (.var 2) (.int 1)) (.cons (.int 1) .nil)))) .nil) .nil) (.cons (.asg (.nm 3) (.bin .Sub (.ix (.var 1) (.int 0)) (.bin .Mult (.var 2) (.ix (.var 1) (.int 1))))) (.cons (.ife (.cmp .Eq (.var 0) (.tup (.cons (.var 2) (.cons (.int 1) .nil)))) (.cons (.asg (.nm 4) (.bin .Add (.bin .FloorDiv (.ix (.var 1) (.int 1)) (.var 3)) (.int 1))) (.cons (.ret (.tup (.cons (.bin .Add (.bin .Mult (.var 2) (.var 4)) (.int 1)) (.cons (.var 4) .nil)))) .nil)) .nil) (.cons (.asg (.tc (.nm 5) (.tc (.nm 4) .tn)) (.call "simplest_above" (.cons (.tup (.cons (.ix (.var 1) (.int 1)) (.cons (.var 3) .nil))) (.cons (.tup (.cons (.ix (.var 0) (.int 1)) (.cons (.bin .Sub (.ix (.var 0) (.int 0)) (.bin .Mult (.var 2) (.ix (.var 0) (.int 1)))) .nil))) .nil)))) (.cons (.ret (.tup (.cons (.bin .Add (.bin .Mult (.var 2) (.var 5)) (.var 4)) (.cons (.var 5) .nil)))) .nil)))))
def c_simplest : Sxs := .cons (.asg (.tc (.nm 2) (.tc (.nm 3) .tn)) (.call "need_two" (.cons (.var 0) (.cons (.var 1) .nil)))) (.cons (.ife (.not (.call "is_under" (.cons (.var 2) (.cons (.var 3) .nil)))) (.cons .bad .nil) .nil) (.cons (.ife (.chn .Lt .Lt (.ix (.var 2) (.int 0)) (.int 0) (.ix (.var 3) (.int 0))) (.cons (.ret (.tup (.cons (.int 0) (.cons (.int 1) .nil)))) .nil) .nil) (.cons (.ife (.cmp .GtE (.ix (.var 2) (.int 0)) (.int 0)) (.cons (.ret (.call "simplest_above" (.cons (.var 2) (.cons (.var 3) .nil)))) .nil) .nil) (.cons (.asg (.tc (.nm 4) (.tc (.nm 5) .tn)) (.call "simplest_above" (.cons (.tup (.cons (.neg (.ix (.var 3) (.int 0))) (.cons (.ix (.var 3) (.int 1)) .nil))) (.cons (.tup (.cons (.neg (.ix (.var 2) (.int 0))) (.cons (.ix (.var 2) (.int 1)) .nil))) .nil)))) (.cons (.ret (.tup (.cons (.neg (.var 4)) (.cons (.var 5) .nil)))) .nil)))))
def c_path_to : Sxs := .cons (.asg (.nm 1) (.call "need_fraction" (.cons (.var 0) .nil))) (.cons (.ife (.cmp .Lt (.ix (.var 1) (.int 0)) (.int 1)) (.cons .bad .nil) .nil) (.cons (.par [2, 3, 4] (.cons (.tup (.cons (.int 0) (.cons (.int 1) .nil))) (.cons (.tup (.cons (.int 1) (.cons (.int 0) .nil))) (.cons (.lst .nil) .nil)))) (.cons (.asg (.nm 5) (.tup (.cons (.int 1) (.cons (.int 1) .nil)))) (.cons (.whil (.cmp .NotEq (.var 5) (.var 1)) (.cons (.ife (.call "is_under" (.cons (.var 1) (.cons (.var 5) .nil))) (.cons (.expr (.mth .append (.var 4) (.cons (.str "left") .nil))) (.cons (.asg (.nm 3) (.var 5)) .nil)) (.cons (.expr (.mth .append (.var 4) (.cons (.str "right") .nil))) (.cons (.asg (.nm 2) (.var 5)) .nil))) (.cons (.asg (.nm 5) (.tup (.cons (.bin .Add (.ix (.var 2) (.int 0)) (.ix (.var 3) (.int 0))) (.cons (.bin .Add (.ix (.var 2) (.int 1)) (.ix (.var 3) (.int 1))) .nil)))) .nil))) (.cons (.ret (.var 4)) .nil)))))
def c__law_stream : Sxs := .cons (.ret (.lst (.cons (.bi .list (.cons (.var 0) .nil)) (.cons (.int 0) (.cons (.int 0) (.cons (.int 17) .nil)))))) .nil
def c__law_draw : Sxs := .cons (.setix (.var 0) (.int 2) (.bin .Add (.ix (.var 0) (.int 2)) (.int 1))) (.cons (.whil (.and (.cmp .Eq (.ix (.var 0) (.int 1)) (.int 0)) (.cmp .NotEq (.ix (.var 0) (.int 0)) (.lst .nil))) (.cons (.asg (.nm 2) (.bi .abs (.cons (.mth .pop (.ix (.var 0) (.int 0)) (.cons (.int 0) .nil)) .nil))) (.cons (.setix (.var 0) (.int 3) (.bin .Mod (.bi .int (.cons (.bin .Add (.bin .Add (.bin .Mult (.ix (.var 0) (.int 3)) (.int 8191)) (.var 2)) (.int 3)) .nil)) (.int 2147483647))) (.cons (.setix (.var 0) (.int 1) (.ife (.cmp .GtE (.var 2) (.bin .Pow (.int 10) (.int 18))) (.var 2) (.int 0))) .nil)))) (.cons (.ife (.cmp .Gt (.ix (.var 0) (.int 1)) (.int 0)) (.cons (.asg (.nm 3) (.bin .Mod (.bi .int (.cons (.ix (.var 0) (.int 1)) .nil)) (.var 1))) (.cons (.setix (.var 0) (.int 1) (.bin .FloorDiv (.ix (.var 0) (.int 1)) (.var 1))) (.cons (.ret (.var 3)) .nil))) .nil) (.cons (.asg (.nm 4) (.bin .Mod (.bi .int (.cons (.bin .Pow (.bin .Add (.bin .Add (.ix (.var 0) (.int 3)) (.bin .Mult (.int 7919) (.ix (.var 0) (.int 2)))) (.int 104729)) (.int 5)) .nil)) (.int 2147483629))) (.cons (.ret (.bin .Mod (.bin .Mod (.bi .int (.cons (.bin .Pow (.bin .Add (.bin .Add (.bin .Mult (.var 4) (.int 48271)) (.bin .Mult (.int 30011) (.ix (.var 0) (.int 2)))) (.int 29)) (.int 3)) .nil)) (.int 1000000007)) (.var 1))) .nil))))
def c__law_pick : Sxs := .cons (.ret (.ix (.var 1) (.call "_law_draw" (.cons (.var 0) (.cons (.bi .len (.cons (.var 1) .nil)) .nil))))) .nil
def c__law_same : Sxs := .cons (.ife (.bi .isi (.cons (.var 1) (.cons (.tup (.cons (.ty "list") (.cons (.ty "tuple") .nil))) .nil))) (.cons (.ife (.or (.cmp .NotEq (.bi .isi (.cons (.var 0) (.cons (.ty "list") .nil))) (.bi .isi (.cons (.var 1) (.cons (.ty "list") .nil)))) (.cmp .NotEq (.bi .isi (.cons (.var 0) (.cons (.ty "tuple") .nil))) (.bi .isi (.cons (.var 1) (.cons (.ty "tuple") .nil))))) (.cons (.ret (.bl false)) .nil) .nil) (.cons (.ret (.and (.cmp .Eq (.bi .len (.cons (.var 0) .nil)) (.bi .len (.cons (.var 1) .nil))) (.bi .all (.cons (.lc (.call "_law_same" (.cons (.var 2) (.cons (.var 3) .nil))) (.tc (.nm 2) (.tc (.nm 3) .tn)) (.zip (.var 0) (.var 1)) .nil [2, 3]) .nil)))) .nil)) .nil) (.cons (.ife (.bi .isi (.cons (.var 1) (.cons (.ty "dict") .nil))) (.cons (.ret (.and (.bi .isi (.cons (.var 0) (.cons (.ty "dict") .nil))) (.call "_law_same" (.cons (.bi .list (.cons .bad .nil)) (.cons (.bi .list (.cons .bad .nil)) .nil))))) .nil) .nil) (.cons (.ife (.or (.bi .isi (.cons (.var 1) (.cons (.ty "bool") .nil))) (.bi .isi (.cons (.var 0) (.cons (.ty "bool") .nil)))) (.cons (.ret (.and (.bi .isi (.cons (.var 1) (.cons (.ty "bool") .nil))) (.and (.bi .isi (.cons (.var 0) (.cons (.ty "bool") .nil))) (.cmp .Eq (.var 0) (.var 1))))) .nil) .nil) (.cons (.ife (.or (.cmp .Is (.var 1) .non) (.cmp .Is (.var 0) .non)) (.cons (.ret (.and (.cmp .Is (.var 1) .non) (.cmp .Is (.var 0) .non))) .nil) .nil) (.cons (.ife (.or (.cmp .NotEq (.bi .isi (.cons (.var 1) (.cons (.ty "int") .nil))) (.bi .isi (.cons (.var 0) (.cons (.ty "int") .nil)))) (.cmp .NotEq (.bi .isi (.cons (.var 1) (.cons (.ty "str") .nil))) (.bi .isi (.cons (.var 0) (.cons (.ty "str") .nil))))) (.cons (.ret (.bl false)) .nil) .nil) (.cons (.ret (.and (.not (.bi .isi (.cons (.var 0) (.cons (.tup (.cons (.ty "list") (.cons (.ty "tuple") (.cons (.ty "dict") .nil)))) .nil)))) (.cmp .Eq (.var 0) (.var 1)))) .nil)))))
def c__law_loose : Sxs := .cons (.ife (.not (.bi .isi (.cons (.var 1) (.cons (.tup (.cons (.ty "list") (.cons (.ty "tuple") .nil))) .nil)))) (.cons (.ret (.var 1)) .nil) .nil) (.cons (.asg (.nm 2) (.lc (.call "_law_loose" (.cons (.var 0) (.cons (.var 3) .nil))) (.nm 3) (.seq (.var 1)) .nil [3])) (.cons (.ret (.ife (.cmp .Eq (.call "_law_draw" (.cons (.var 0) (.cons (.int 2) .nil))) (.int 0)) (.bi .tuple (.cons (.var 2) .nil)) (.var 2))) .nil))
def c__law_frac : Sxs := .cons (.par [2, 3] (.cons (.bi .abs (.cons (.var 0) .nil)) (.cons (.bi .abs (.cons (.var 1) .nil)) .nil))) (.cons (.whil (.cmp .Gt (.var 3) (.int 0)) (.cons (.par [2, 3] (.cons (.var 3) (.cons (.bin .Mod (.bi .int (.cons (.var 2) .nil)) (.var 3)) .nil))) .nil)) (.cons (.asg (.nm 4) (.ife (.cmp .Gt (.var 1) (.int 0)) (.int 1) (.neg (.int 1)))) (.cons (.ret (.tup (.cons (.bin .FloorDiv (.bin .Mult (.var 4) (.var 0)) (.var 2)) (.cons (.bin .FloorDiv (.bin .Mult (.var 4) (.var 1)) (.var 2)) .nil)))) .nil)))
def c__law_plus : Sxs := .cons (.ret (.call "_law_frac" (.cons (.bin .Add (.bin .Mult (.ix (.var 0) (.int 0)) (.ix (.var 1) (.int 1))) (.bin .Mult (.ix (.var 1) (.int 0)) (.ix (.var 0) (.int 1)))) (.cons (.bin .Mult (.ix (.var 0) (.int 1)) (.ix (.var 1) (.int 1))) .nil)))) .nil
def c__law_minus : Sxs := .cons (.ret (.call "_law_frac" (.cons (.bin .Sub (.bin .Mult (.ix (.var 0) (.int 0)) (.ix (.var 1) (.int 1))) (.bin .Mult (.ix (.var 1) (.int 0)) (.ix (.var 0) (.int 1)))) (.cons (.bin .Mult (.ix (.var 0) (.int 1)) (.ix (.var 1) (.int 1))) .nil)))) .nil
def c__law_under : Sxs := .cons (.ret (.cmp .Lt (.bin .Mult (.ix (.var 0) (.int 0)) (.ix (.var 1) (.int 1))) (.bin .Mult (.ix (.var 1) (.int 0)) (.ix (.var 0) (.int 1))))) .nil
def c__law_drawn : Sxs := .cons (.asg (.nm 2) (.call "_law_pick" (.cons (.var 0) (.cons (.lst (.cons (.int 1) (.cons (.int 1) (.cons (.int 1) (.cons (.int 2) (.cons (.int 3) (.cons (.int 4) (.cons (.int 5) (.cons (.int 7) .nil))))))))) .nil)))) (.cons (.ret (.call "_law_frac" (.cons (.bin .Sub (.call "_law_draw" (.cons (.var 0) (.cons (.bin .Add (.bin .Mult (.bin .Mult (.int 2) (.var 1)) (.var 2)) (.int 1)) .nil))) (.bin .Mult (.var 1) (.var 2))) (.cons (.var 2) .nil)))) .nil)
def c__law_q_neg : Sxs := .cons (.ret (.tup (.cons (.neg (.ix (.var 0) (.int 0))) (.cons (.ix (.var 0) (.int 1)) .nil)))) .nil
def c__law_far : Sxs := .cons (.asg (.nm 2) (.call "_law_minus" (.cons (.var 0) (.cons (.var 1) .nil)))) (.cons (.ret (.ife (.cmp .GtE (.ix (.var 2) (.int 0)) (.int 0)) (.var 2) (.call "_law_q_neg" (.cons (.var 2) .nil)))) .nil)
def c__law_nearest : Sxs := .cons (.asg (.nm 2) (.lst .nil)) (.cons (.forr (.nm 3) (.rng2 (.int 1) (.bin .Add (.var 1) (.int 1))) (.cons (.forr (.nm 4) (.seq (.tup (.cons (.bin .FloorDiv (.bin .Mult (.ix (.var 0) (.int 0)) (.var 3)) (.ix (.var 0) (.int 1))) (.cons (.bin .Add (.bin .FloorDiv (.bin .Mult (.ix (.var 0) (.int 0)) (.var 3)) (.ix (.var 0) (.int 1))) (.int 1)) .nil)))) (.cons (.asg (.nm 5) (.call "_law_frac" (.cons (.var 4) (.cons (.var 3) .nil)))) (.cons (.ife (.or (.cmp .Eq (.var 2) (.lst .nil)) (.call "_law_under" (.cons (.call "_law_far" (.cons (.var 5) (.cons (.var 0) .nil))) (.cons (.call "_law_far" (.cons (.ix (.var 2) (.int 0)) (.cons (.var 0) .nil))) .nil)))) (.cons (.asg (.nm 2) (.lst (.cons (.var 5) .nil))) .nil) (.cons (.ife (.and (.cmp .NotIn (.var 5) (.var 2)) (.cmp .Eq (.call "_law_far" (.cons (.var 5) (.cons (.var 0) .nil))) (.call "_law_far" (.cons (.ix (.var 2) (.int 0)) (.cons (.var 0) .nil))))) (.cons (.expr (.mth .append (.var 2) (.cons (.var 5) .nil))) .nil) .nil) .nil)) .nil))) .nil)) (.cons (.ret (.ife (.or (.cmp .Lt (.bi .len (.cons (.var 2) .nil)) (.int 2)) (.call "_law_under" (.cons (.ix (.var 2) (.int 0)) (.cons (.ix (.var 2) (.int 1)) .nil)))) (.var 2) (.rev (.var 2)))) .nil))
def c__law_simplest : Sxs := .cons (.asg (.nm 2) (.int 1)) (.cons (.whil (.cmp .Lt (.var 2) (.int 400)) (.cons (.asg (.nm 3) (.bin .Add (.bin .FloorDiv (.bin .Mult (.ix (.var 0) (.int 0)) (.var 2)) (.ix (.var 0) (.int 1))) (.int 1))) (.cons (.asg (.nm 4) (.bin .Sub (.neg (.bin .FloorDiv (.bin .Mult (.neg (.ix (.var 1) (.int 0))) (.var 2)) (.ix (.var 1) (.int 1)))) (.int 1))) (.cons (.ife (.cmp .LtE (.var 3) (.var 4)) (.cons (.ret (.call "_law_frac" (.cons (.ife (.chn .LtE .LtE (.var 3) (.int 0) (.var 4)) (.int 0) (.ife (.cmp .Gt (.var 3) (.int 0)) (.var 3) (.var 4))) (.cons (.var 2) .nil)))) .nil) .nil) (.cons (.asg (.nm 2) (.bin .Add (.var 2) (.int 1))) .nil))))) (.cons (.ret .non) .nil))
def c__law_path_right : Sxs := .cons (.asg (.nm 2) (.call "path_to" (.cons (.call "_law_loose" (.cons (.var 0) (.cons (.var 1) .nil))) .nil))) (.cons (.par [3, 4, 5] (.cons (.tup (.cons (.int 0) (.cons (.int 1) .nil))) (.cons (.tup (.cons (.int 1) (.cons (.int 0) .nil))) (.cons (.lst .nil) .nil)))) (.cons (.whil (.cmp .Lt (.bi .len (.cons (.var 5) .nil)) (.int 400)) (.cons (.asg (.nm 6) (.tup (.cons (.bin .Add (.ix (.var 3) (.int 0)) (.ix (.var 4) (.int 0))) (.cons (.bin .Add (.ix (.var 3) (.int 1)) (.ix (.var 4) (.int 1))) .nil)))) (.cons (.ife (.cmp .NotEq (.bin .Sub (.bin .Mult (.ix (.var 4) (.int 0)) (.ix (.var 3) (.int 1))) (.bin .Mult (.ix (.var 3) (.int 0)) (.ix (.var 4) (.int 1)))) (.int 1)) (.cons (.ret (.bl false)) .nil) .nil) (.cons (.ife (.cmp .Eq (.var 6) (.var 1)) (.cons (.ret (.call "_law_same" (.cons (.lst (.cons (.var 2) (.cons (.kall "path_to" [0] (.cons (.var 1) .nil)) .nil))) (.cons (.lst (.cons (.var 5) (.cons (.var 5) .nil))) .nil)))) .nil) .nil) (.cons (.asg (.nm 7) (.cmp .Lt (.bin .Mult (.ix (.var 1) (.int 0)) (.ix (.var 6) (.int 1))) (.bin .Mult (.ix (.var 6) (.int 0)) (.ix (.var 1) (.int 1))))) (.cons (.asg (.tc (.nm 3) (.tc (.nm 4) .tn)) (.ife (.var 7) (.tup (.cons (.var 3) (.cons (.var 6) .nil))) (.tup (.cons (.var 6) (.cons (.var 4) .nil))))) (.cons (.expr (.mth .append (.var 5) (.cons (.ife (.var 7) (.str "left") (.str "right")) .nil))) .nil))))))) (.cons (.ret (.bl true)) .nil)))
def c_law : Sxs := .cons (.asg (.nm 1) (.call "_law_stream" (.cons (.var 0) .nil))) (.cons (.forr (.nm 2) (.rng1 (.int 8)) (.cons (.asg (.nm 3) (.bin .Add (.int 1) (.call "_law_draw" (.cons (.var 1) (.cons (.int 90) .nil))))) (.cons (.par [4, 5] (.cons (.call "_law_frac" (.cons (.bin .Sub (.call "_law_draw" (.cons (.var 1) (.cons (.bin .Mult (.int 9) (.var 3)) .nil))) (.bin .Mult (.int 4) (.var 3))) (.cons (.var 3) .nil))) (.cons (.bin .Add (.int 1) (.call "_law_draw" (.cons (.var 1) (.cons (.call "_law_pick" (.cons (.var 1) (.cons (.lst (.cons (.int 3) (.cons (.int 12) (.cons (.int 40) .nil)))) .nil))) .nil)))) .nil))) (.cons (.asg (.nm 6) (.call "_law_nearest" (.cons (.var 4) (.cons (.var 5) .nil)))) (.cons (.asg (.nm 7) (.call "nearest" (.cons (.call "_law_loose" (.cons (.var 1) (.cons (.var 4) .nil))) (.cons (.var 5) .nil)))) (.cons (.ife (.not (.call "_law_same" (.cons (.lst (.cons (.var 7) (.cons (.kall "nearest" [1, 0] (.cons (.var 5) (.cons (.var 4) .nil))) .nil))) (.cons (.lst (.cons (.var 6) (.cons (.var 6) .nil))) .nil)))) (.cons (.ret (.bl false)) .nil) .nil) (.cons (.expr (.mth .append (.var 7) (.cons (.str "late") .nil))) (.cons (.ife (.not (.call "_law_same" (.cons (.call "nearest" (.cons (.var 4) (.cons (.var 5) .nil))) (.cons (.var 6) .nil)))) (.cons (.ret (.bl false)) .nil) .nil) (.cons (.asg (.nm 8) (.call "_law_drawn" (.cons (.var 1) (.cons (.int 3) .nil)))) (.cons (.asg (.nm 9) (.call "_law_plus" (.cons (.var 8) (.cons (.call "_law_frac" (.cons (.bin .Add (.int 1) (.call "_law_draw" (.cons (.var 1) (.cons (.int 3) .nil)))) (.cons (.bin .Add (.int 1) (.call "_law_draw" (.cons (.var 1) (.cons (.int 60) .nil)))) .nil))) .nil)))) (.cons (.asg (.nm 6) (.call "_law_simplest" (.cons (.var 8) (.cons (.var 9) .nil)))) (.cons (.ife (.and (.cmp .IsNot (.var 6) .non) (.not (.call "_law_same" (.cons (.lst (.cons (.call "simplest" (.cons (.call "_law_loose" (.cons (.var 1) (.cons (.var 8) .nil))) (.cons (.var 9) .nil))) (.cons (.kall "simplest" [1, 0] (.cons (.call "_law_loose" (.cons (.var 1) (.cons (.var 9) .nil))) (.cons (.var 8) .nil))) .nil))) (.cons (.lst (.cons (.var 6) (.cons (.var 6) .nil))) .nil))))) (.cons (.ret (.bl false)) .nil) .nil) (.cons (.ife (.not (.call "_law_path_right" (.cons (.var 1) (.cons (.call "_law_frac" (.cons (.bin .Add (.int 1) (.call "_law_draw" (.cons (.var 1) (.cons (.int 60) .nil)))) (.cons (.bin .Add (.int 1) (.call "_law_draw" (.cons (.var 1) (.cons (.int 60) .nil)))) .nil))) .nil)))) (.cons (.ret (.bl false)) .nil) .nil) .nil))))))))))))) (.cons (.asg (.nm 7) (.lst (.cons (.call "nearest" (.cons (.tup (.cons (.int 1) (.cons (.int 2) .nil))) (.cons (.int 1) .nil))) (.cons (.call "nearest" (.cons (.tup (.cons (.int 22) (.cons (.int 7) .nil))) (.cons (.int 3) .nil))) (.cons (.call "nearest" (.cons (.tup (.cons (.int 355) (.cons (.int 113) .nil))) (.cons (.int 100) .nil))) (.cons (.call "simplest" (.cons (.tup (.cons (.int 1) (.cons (.int 3) .nil))) (.cons (.tup (.cons (.int 1) (.cons (.int 2) .nil))) .nil))) (.cons (.call "simplest" (.cons (.tup (.cons (.neg (.int 1)) (.cons (.int 2) .nil))) (.cons (.tup (.cons (.int 1) (.cons (.int 2) .nil))) .nil))) .nil))))))) (.cons (.expr (.mth .extend (.var 7) (.cons (.lst (.cons (.call "simplest" (.cons (.tup (.cons (.int 0) (.cons (.int 1) .nil))) (.cons (.tup (.cons (.int 1) (.cons (.int 9) .nil))) .nil))) (.cons (.call "simplest" (.cons (.tup (.cons (.neg (.int 2)) (.cons (.int 1) .nil))) (.cons (.tup (.cons (.neg (.int 1)) (.cons (.int 1) .nil))) .nil))) (.cons (.call "path_to" (.cons (.tup (.cons (.int 1) (.cons (.int 1) .nil))) .nil)) (.cons (.call "nearest" (.cons (.tup (.cons (.int 7) (.cons (.int 3) .nil))) (.cons (.int 1000) .nil))) .nil))))) .nil))) (.cons (.ret (.call "_law_same" (.cons (.var 7) (.cons (.lst (.cons (.lst (.cons (.tup (.cons (.int 0) (.cons (.int 1) .nil))) (.cons (.tup (.cons (.int 1) (.cons (.int 1) .nil))) .nil))) (.cons (.lst (.cons (.tup (.cons (.int 3) (.cons (.int 1) .nil))) .nil)) (.cons (.lst (.cons (.tup (.cons (.int 311) (.cons (.int 99) .nil))) .nil)) (.cons (.tup (.cons (.int 2) (.cons (.int 5) .nil))) (.cons (.tup (.cons (.int 0) (.cons (.int 1) .nil))) (.cons (.tup (.cons (.int 1) (.cons (.int 10) .nil))) (.cons (.tup (.cons (.neg (.int 3)) (.cons (.int 2) .nil))) (.cons (.lst .nil) (.cons (.lst (.cons (.tup (.cons (.int 7) (.cons (.int 3) .nil))) .nil)) .nil)))))))))) .nil)))) .nil))))
def ec_is_list : Ent := ⟨"is_list", topS 1, ["thing"], ["thing"], c_is_list⟩
def ec_is_whole : Ent := ⟨"is_whole", topS 2, ["thing"], ["thing"], c_is_whole⟩
def ec_is_row : Ent := ⟨"is_row", topS 3, ["thing", "many"], ["thing", "many"], c_is_row⟩
def ec_common_divisor : Ent := ⟨"common_divisor", topS 11, ["one", "other"], ["one", "other"], c_common_divisor⟩
def ec_reduced : Ent := ⟨"reduced", topS 12, ["above", "below", "divisor"], ["above", "below"], c_reduced⟩
def ec_minus : Ent := ⟨"minus", topS 13, ["one", "other"], ["one", "other"], c_minus⟩
def ec_is_under : Ent := ⟨"is_under", topS 14, ["one", "other"], ["one", "other"], c_is_under⟩
def ec_kept_fraction : Ent := ⟨"kept_fraction", topS 15, ["thing"], ["thing"], c_kept_fraction⟩
def ec_need_two : Ent := ⟨"need_two", topS 16, ["one", "other", "first", "second"], ["one", "other"], c_need_two⟩
def ec_need_fraction : Ent := ⟨"need_fraction", topS 18, ["fraction", "found"], ["fraction"], c_need_fraction⟩
def ec_nearest : Ent := ⟨"nearest", topS 19, ["fraction", "most", "kept", "low", "high", "middle", "ahead", "behind"], ["fraction", "most"], c_nearest⟩
def ec_simplest_above : Ent := ⟨"simplest_above", topS 20, ["one", "other", "whole", "part", "below", "above"], ["one", "other"], c_simplest_above⟩
def ec_simplest : Ent := ⟨"simplest", topS 21, ["one", "other", "first", "second", "above", "below"], ["one", "other"], c_simplest⟩
def ec_path_to : Ent := ⟨"path_to", topS 22, ["fraction", "kept", "low", "high", "found", "middle"], ["fraction"], c_path_to⟩
def ec__law_stream : Ent := ⟨"_law_stream", topS 24, ["script"], ["script"], c__law_stream⟩
def ec__law_draw : Ent := ⟨"_law_draw", topS 25, ["stream", "many", "cell", "digit", "mixed"], ["stream", "many"], c__law_draw⟩
def ec__law_pick : Ent := ⟨"_law_pick", topS 26, ["stream", "things"], ["stream", "things"], c__law_pick⟩
def ec__law_same : Ent := ⟨"_law_same", topS 27, ["found", "due", "mine", "theirs"], ["found", "due"], c__law_same⟩
def ec__law_loose : Ent := ⟨"_law_loose", topS 28, ["stream", "thing", "some", "part"], ["stream", "thing"], c__law_loose⟩
def ec__law_frac : Ent := ⟨"_law_frac", topS 29, ["above", "below", "one", "other", "sign"], ["above", "below"], c__law_frac⟩
def ec__law_plus : Ent := ⟨"_law_plus", topS 30, ["one", "other"], ["one", "other"], c__law_plus⟩
def ec__law_minus : Ent := ⟨"_law_minus", topS 31, ["one", "other"], ["one", "other"], c__law_minus⟩
def ec__law_under : Ent := ⟨"_law_under", topS 32, ["one", "other"], ["one", "other"], c__law_under⟩
def ec__law_drawn : Ent := ⟨"_law_drawn", topS 33, ["stream", "most", "below"], ["stream", "most"], c__law_drawn⟩
def ec__law_q_neg : Ent := ⟨"_law_q_neg", topS 34, ["one"], ["one"], c__law_q_neg⟩
def ec__law_far : Ent := ⟨"_law_far", topS 35, ["one", "other", "gap"], ["one", "other"], c__law_far⟩
def ec__law_nearest : Ent := ⟨"_law_nearest", topS 36, ["fraction", "most", "found", "below", "above", "one"], ["fraction", "most"], c__law_nearest⟩
def ec__law_simplest : Ent := ⟨"_law_simplest", topS 37, ["one", "other", "below", "low", "high"], ["one", "other"], c__law_simplest⟩
def ec__law_path_right : Ent := ⟨"_law_path_right", topS 38, ["stream", "fraction", "told", "low", "high", "found", "middle", "is_left"], ["stream", "fraction"], c__law_path_right⟩
def ec_law : Ent := ⟨"law", topS 39, ["script", "stream", "turn", "below", "fraction", "most", "due", "found", "one", "other"], ["script"], c_law⟩
def tb : List Ent := [ec_is_list, ec_is_whole, ec_is_row, ec_common_divisor, ec_reduced, ec_minus, ec_is_under, ec_kept_fraction, ec_need_two, ec_need_fraction, ec_nearest, ec_simplest_above, ec_simplest, ec_path_to, ec__law_stream, ec__law_draw, ec__law_pick, ec__law_same, ec__law_loose, ec__law_frac, ec__law_plus, ec__law_minus, ec__law_under, ec__law_drawn, ec__law_q_neg, ec__law_far, ec__law_nearest, ec__law_simplest, ec__law_path_right, ec_law]
theorem kc_is_list : EntOk (tb.map (·.f)) kcs (tblOf tb) ec_is_list := ⟨by kernel_rfl, by decide +kernel, by kernel_rfl, fun _ _ _ _ _ _ us hl => match us, hl with | [_], _ => rfl⟩
theorem kc_is_whole : EntOk (tb.map (·.f)) kcs (tblOf tb) ec_is_whole := ⟨by kernel_rfl, by decide +kernel, by kernel_rfl, fun _ _ _ _ _ _ us hl => match us, hl with | [_], _ => rfl⟩
theorem kc_is_row : EntOk (tb.map (·.f)) kcs (tblOf tb) ec_is_row := ⟨by kernel_rfl, by decide +kernel, by kernel_rfl, fun _ _ _ _ _ _ us hl => match us, hl with | [_, _], _ => rfl⟩
theorem kc_common_divisor : EntOk (tb.map (·.f)) kcs (tblOf tb) ec_common_divisor := ⟨by kernel_rfl, by decide +kernel, by kernel_rfl, fun _ _ _ _ _ _ us hl => match us, hl with | [_, _], _ => rfl⟩
theorem kc_reduced : EntOk (tb.map (·.f)) kcs (tblOf tb) ec_reduced := ⟨by kernel_rfl, by decide +kernel, by kernel_rfl, fun _ _ _ _ _ _ us hl => match us, hl with | [_, _], _ => rfl⟩
theorem kc_minus : EntOk (tb.map (·.f)) kcs (tblOf tb) ec_minus := ⟨by kernel_rfl, by decide +kernel, by kernel_rfl, fun _ _ _ _ _ _ us hl => match us, hl with | [_, _], _ => rfl⟩
theorem kc_is_under : EntOk (tb.map (·.f)) kcs (tblOf tb) ec_is_under := ⟨by kernel_rfl, by decide +kernel, by kernel_rfl, fun _ _ _ _ _ _ us hl => match us, hl with | [_, _], _ => rfl⟩
theorem kc_kept_fraction : EntOk (tb.map (·.f)) kcs (tblOf tb) ec_kept_fraction := ⟨by kernel_rfl, by decide +kernel, by kernel_rfl, fun _ _ _ _ _ _ us hl => match us, hl with | [_], _ => rfl⟩
theorem kc_need_two : EntOk (tb.map (·.f)) kcs (tblOf tb) ec_need_two := ⟨by kernel_rfl, by decide +kernel, by kernel_rfl, fun _ _ _ _ _ _ us hl => match us, hl with | [_, _], _ => rfl⟩
theorem kc_need_fraction : EntOk (tb.map (·.f)) kcs (tblOf tb) ec_need_fraction := ⟨by kernel_rfl, by decide +kernel, by kernel_rfl, fun _ _ _ _ _ _ us hl => match us, hl with | [_], _ => rfl⟩
theorem kc_nearest : EntOk (tb.map (·.f)) kcs (tblOf tb) ec_nearest := ⟨by kernel_rfl, by decide +kernel, by kernel_rfl, fun _ _ _ _ _ _ us hl => match us, hl with | [_, _], _ => rfl⟩
theorem kc_simplest_above : EntOk (tb.map (·.f)) kcs (tblOf tb) ec_simplest_above := ⟨by kernel_rfl, by decide +kernel, by kernel_rfl, fun _ _ _ _ _ _ us hl => match us, hl with | [_, _], _ => rfl⟩
theorem kc_simplest : EntOk (tb.map (·.f)) kcs (tblOf tb) ec_simplest := ⟨by kernel_rfl, by decide +kernel, by kernel_rfl, fun _ _ _ _ _ _ us hl => match us, hl with | [_, _], _ => rfl⟩
theorem kc_path_to : EntOk (tb.map (·.f)) kcs (tblOf tb) ec_path_to := ⟨by kernel_rfl, by decide +kernel, by kernel_rfl, fun _ _ _ _ _ _ us hl => match us, hl with | [_], _ => rfl⟩
theorem kc__law_stream : EntOk (tb.map (·.f)) kcs (tblOf tb) ec__law_stream := ⟨by kernel_rfl, by decide +kernel, by kernel_rfl, fun _ _ _ _ _ _ us hl => match us, hl with | [_], _ => rfl⟩
theorem kc__law_draw : EntOk (tb.map (·.f)) kcs (tblOf tb) ec__law_draw := ⟨by kernel_rfl, by decide +kernel, by kernel_rfl, fun _ _ _ _ _ _ us hl => match us, hl with | [_, _], _ => rfl⟩
theorem kc__law_pick : EntOk (tb.map (·.f)) kcs (tblOf tb) ec__law_pick := ⟨by kernel_rfl, by decide +kernel, by kernel_rfl, fun _ _ _ _ _ _ us hl => match us, hl with | [_, _], _ => rfl⟩
theorem kc__law_same : EntOk (tb.map (·.f)) kcs (tblOf tb) ec__law_same := ⟨by kernel_rfl, by decide +kernel, by kernel_rfl, fun _ _ _ _ _ _ us hl => match us, hl with | [_, _], _ => rfl⟩
theorem kc__law_loose : EntOk (tb.map (·.f)) kcs (tblOf tb) ec__law_loose := ⟨by kernel_rfl, by decide +kernel, by kernel_rfl, fun _ _ _ _ _ _ us hl => match us, hl with | [_, _], _ => rfl⟩
theorem kc__law_frac : EntOk (tb.map (·.f)) kcs (tblOf tb) ec__law_frac := ⟨by kernel_rfl, by decide +kernel, by kernel_rfl, fun _ _ _ _ _ _ us hl => match us, hl with | [_, _], _ => rfl⟩
theorem kc__law_plus : EntOk (tb.map (·.f)) kcs (tblOf tb) ec__law_plus := ⟨by kernel_rfl, by decide +kernel, by kernel_rfl, fun _ _ _ _ _ _ us hl => match us, hl with | [_, _], _ => rfl⟩
theorem kc__law_minus : EntOk (tb.map (·.f)) kcs (tblOf tb) ec__law_minus := ⟨by kernel_rfl, by decide +kernel, by kernel_rfl, fun _ _ _ _ _ _ us hl => match us, hl with | [_, _], _ => rfl⟩
theorem kc__law_under : EntOk (tb.map (·.f)) kcs (tblOf tb) ec__law_under := ⟨by kernel_rfl, by decide +kernel, by kernel_rfl, fun _ _ _ _ _ _ us hl => match us, hl with | [_, _], _ => rfl⟩
theorem kc__law_drawn : EntOk (tb.map (·.f)) kcs (tblOf tb) ec__law_drawn := ⟨by kernel_rfl, by decide +kernel, by kernel_rfl, fun _ _ _ _ _ _ us hl => match us, hl with | [_, _], _ => rfl⟩
theorem kc__law_q_neg : EntOk (tb.map (·.f)) kcs (tblOf tb) ec__law_q_neg := ⟨by kernel_rfl, by decide +kernel, by kernel_rfl, fun _ _ _ _ _ _ us hl => match us, hl with | [_], _ => rfl⟩
theorem kc__law_far : EntOk (tb.map (·.f)) kcs (tblOf tb) ec__law_far := ⟨by kernel_rfl, by decide +kernel, by kernel_rfl, fun _ _ _ _ _ _ us hl => match us, hl with | [_, _], _ => rfl⟩
theorem kc__law_nearest : EntOk (tb.map (·.f)) kcs (tblOf tb) ec__law_nearest := ⟨by kernel_rfl, by decide +kernel, by kernel_rfl, fun _ _ _ _ _ _ us hl => match us, hl with | [_, _], _ => rfl⟩
theorem kc__law_simplest : EntOk (tb.map (·.f)) kcs (tblOf tb) ec__law_simplest := ⟨by kernel_rfl, by decide +kernel, by kernel_rfl, fun _ _ _ _ _ _ us hl => match us, hl with | [_, _], _ => rfl⟩
theorem kc__law_path_right : EntOk (tb.map (·.f)) kcs (tblOf tb) ec__law_path_right := ⟨by kernel_rfl, by decide +kernel, by kernel_rfl, fun _ _ _ _ _ _ us hl => match us, hl with | [_, _], _ => rfl⟩
theorem kc_law : EntOk (tb.map (·.f)) kcs (tblOf tb) ec_law := ⟨by kernel_rfl, by decide +kernel, by kernel_rfl, fun _ _ _ _ _ _ us hl => match us, hl with | [_], _ => rfl⟩
theorem tb_ok : AllP (EntOk (tb.map (·.f)) kcs (tblOf tb)) tb := ⟨kc_is_list, kc_is_whole, kc_is_row, kc_common_divisor, kc_reduced, kc_minus, kc_is_under, kc_kept_fraction, kc_need_two, kc_need_fraction, kc_nearest, kc_simplest_above, kc_simplest, kc_path_to, kc__law_stream, kc__law_draw, kc__law_pick, kc__law_same, kc__law_loose, kc__law_frac, kc__law_plus, kc__law_minus, kc__law_under, kc__law_drawn, kc__law_q_neg, kc__law_far, kc__law_nearest, kc__law_simplest, kc__law_path_right, kc_law, trivial⟩
theorem kk0 : KcOk tb ⟨"path_to", ["fraction"], [0]⟩ := ⟨ec_path_to, by simp [tb], rfl, fun _ _ _ _ _ _ us hl => match us, hl with | [_], _ => rfl⟩
theorem kk1 : KcOk tb ⟨"nearest", ["most", "fraction"], [1, 0]⟩ := ⟨ec_nearest, by simp [tb], rfl, fun _ _ _ _ _ _ us hl => match us, hl with | [_, _], _ => rfl⟩
theorem kk2 : KcOk tb ⟨"simplest", ["other", "one"], [1, 0]⟩ := ⟨ec_simplest, by simp [tb], rfl, fun _ _ _ _ _ _ us hl => match us, hl with | [_, _], _ => rfl⟩
theorem kcs_ok : AllP (KcOk tb) kcs := ⟨kk0, kk1, kk2, trivial⟩
end KM.L
namespace KM.L
open PySem PySem.Spec PyProof.Rows L2 KM
abbrev R : PySem.W.OpenRow := PySem.W.OpenLaw.row PySem.Challenge.rw_knowsmore_k03_whole_near_and_simple
abbrev hk : PySem.W.Hook := He.hookD 4 (faOf tb) (fnOf tb)
def ob (s : PySem.W.SharedT) : He.AlD := He.obsDG 4 (faOf tb) (fnOf tb) (HandSHeadRun.getT s)
theorem ob_eq (s : PySem.W.SharedT) : ob s = hk.obs s.abs := He.obsDG_eq (HandSHeadRun.getT_eq s)
def loose : List PySem.Str := (["is_list", "is_whole", "is_row", "KnowError", "BadOne", "BadOther", "BadFraction", "BadMost", "common_divisor", "reduced", "minus", "is_under", "kept_fraction", "need_two", "need_fraction", "nearest", "simplest_above", "simplest", "path_to", "_law_stream", "_law_draw", "_law_pick", "_law_same", "_law_loose"] : List PySem.Str) ++ (["_law_frac", "_law_plus", "_law_minus", "_law_under", "_law_drawn", "_law_q_neg", "_law_far", "_law_nearest", "_law_simplest", "_law_path_right"] : List PySem.Str)
theorem run (w : World) : HandSHeadRun.RunEq R (PySem.W.view R.prog [39]) hk ob 6000 loose w := by
  intro os
  kernel_rfl
end KM.L
/-! K3Z: k03, the end. Not built alone: tools/join.py puts it behind the table. -/
namespace KM.L
open PySem PySem.Spec PyProof.Rows L2 KM
theorem need3 : NeedLib (tblOf tb) := ⟨⟨rfl, rfl, rfl, rfl, rfl⟩, rfl⟩
theorem lib3 : Lib3 (tblOf tb) := ⟨rfl, rfl, rfl, rfl, ⟨⟨need3, rfl, rfl⟩, rfl, rfl, rfl, rfl⟩, ⟨need3.toKeptLib, rfl, rfl, rfl, rfl⟩, ⟨rfl, rfl⟩, ⟨need3, rfl, rfl, rfl, rfl⟩, ⟨rfl, rfl, rfl, rfl, rfl, rfl⟩⟩
theorem law_ok (ns : List Int) (h : ns.length ≤ 63) : Calls (tblOf tb) 200 "law" [.rom (ns.map Val.int)] (fun _ => none) (fun v _ => v = .bl true) (fun _ _ => False) := law3_ok lib3 rfl ns h
end KM.L
namespace KM.L
theorem row_ok : PySem.Challenge.rw_knowsmore_k03_whole_near_and_simple.Holds := by
  w_on; o_law
  refine HandSHeadRun.head_any (r := R) (q := PySem.W.view R.prog [39]) (H := hk) (ob := ob) (M := 6000) (loose := loose) (d := HandSHeadRun.topDef R.prog 39) (kwd := []) ob_eq
    (by kernel_rfl) (fun s => by kernel_rfl) run (by kernel_rfl) (by kernel_rfl) (by kernel_rfl) (by rfl) (by first | assumption | decide +kernel) (by decide +kernel) ⟨rfl, rfl, rfl, rfl, rfl, by decide +kernel⟩ ?hw ?hc
  case hw => w_witness2
  case hc =>
    exact KM.walk_tb (l := PySem.Challenge.rw_knowsmore_k03_whole_near_and_simple) (k := 200) (m := 4) (x := "script") (tb := tb) (kcs := kcs) (e0 := ec_law) rfl (by kernel_rfl) ⟨rfl, by decide, by decide⟩ (by simp [tb]) (by kernel_rfl) rfl
      (KM.AllP.mem tb_ok) (KM.AllP.mem kcs_ok) law_ok
end KM.L
theorem PySem.Challenge.cw_knowsmore_k03_whole_near_and_simple_holds : PySem.Challenge.rw_knowsmore_k03_whole_near_and_simple.Holds := by
  exact KM.L.row_ok
