import PyProof.Rows.All
import Wide.All
import OpenK.AllK
import Wide.FinOn
import HandS.ForMost
import HandS.ForExc
import HandS.IsInst
import HandS.Wide
import HandS.Flow
import HandS.Deep
import HandS.Style
import HandS.Defaults
import HandS.CallSlots
import HandS.Lambda
import HandS.DictTup
import HandS.Zip
import HandS.Iter
import PyProof.EnumFor
import PyProof.EnumMake
import PyProof.Rows.EnumRows
import HandS.ExcInit
import HandS.HeadHook1
import HandS.ExcOwn
import HandS.More
import HandS.Head0
import HandS.Head1
import HandS.Head2
import HandS.HeadEnd
import HandS.HeadHook2
import HandS.HeadHook3
import HandS.HeadHook4
import HandS.EndBits
import HandS.EndTab
import KE.KNestM
import KE.KStateDown
import PySem.Challenge.RW_knowsmore_k39_whole_how_much_leaks
set_option Elab.async false
set_option linter.all false
set_option maxRecDepth 100000
set_option maxHeartbeats 4000000
/-! KMA: values with plain tuples, partial views of the heap, how they lie over the hand layer's heap. -/
namespace KM
open PySem PySem.Spec PyProof.Rows L2

/-- a lambda that captures nothing: the name of its code in the table, its qualified name, its text -/
structure Lam where
  nm : Str
  q : Str
  params : Arguments
  body : Expr
  scope : Scope
/-- a value: a tuple is plain data, a list (or another thing that changes) stands at an address -/
inductive Val where
  | non | bl (b : Bool) | int (i : Int) | str (x : Str) | tup (xs : List Val) | rom (xs : List Val) | ref (a : Addr) | ty (n : String) | dct | lam (f : Lam)
  deriving Inhabited

/-- what stands at an address of the view -/
inductive Ob where
  | lst (xs : List Val)
  /-- a table of code objects of this name -/
  | tab (q : Str)

abbrev Hep := Addr → Option Ob
def hset (h : Hep) (a : Addr) (o : Ob) : Hep := fun b => if b = a then some o else h b
theorem hset_same {h : Hep} {a : Addr} {o : Ob} : hset h a o a = some o := by unfold hset; rw [if_pos rfl]
theorem hset_ne {h : Hep} {a b : Addr} {o : Ob} (q : b ≠ a) : hset h a o b = h b := by unfold hset; rw [if_neg q]

/-- a list that nobody writes -/
def RomL (K : PySem.W.Frag) (H : Hp) (a : Addr) (us : List V) : Prop :=
  (∃ o, H a = some (.frz o (.lst us))) ∨
    ∃ (o : Obj) (its : Array Value) (n : Nat), K.lookup a = some o ∧ o.cls = .type "list" ∧ o.dict = none ∧ o.data = .seq its n ∧ its.size ≤ sizeLine ∧ Vals us its.toList
theorem RomL.sq {K : PySem.W.Frag} {H : Hp} {a : Addr} {us : List V} (t : RomL K H a us) : SqL K H a us := by
  rcases t with ⟨o, t⟩ | t
  · exact .inl (.inr ⟨o, t⟩)
  · exact .inr t

/-- the function object of a lambda -/
def FunO (f : Lam) (p c' : Addr) : HO := .ext fun h => ∃ pm ctv, h.get? p = some (PySem.W.kla_obj "<lambda>" f.q f.params f.body f.scope [] pm c' ctv)
theorem funO_lst {f : Lam} {p c' : Addr} (us : List V) : FunO f p c' ≠ .lst us := fun z => by
  unfold FunO at z
  cases z
theorem funO_tbl {f : Lam} {p c' : Addr} (us : Array Value) : FunO f p c' ≠ .tbl us := fun z => by
  unfold FunO at z
  cases z
theorem codeO_lst {c : Addr} {q : Str} (us : List V) : LamX.CodeO c q ≠ .lst us := fun z => by
  unfold LamX.CodeO at z
  cases z
mutual
def RV (K : PySem.W.Frag) (H : Hp) : Val → V → Prop
  | .non, u => u = V.non
  | .bl b, u => u = V.bl b
  | .int i, u => u = V.int i
  | .str x, u => u = V.str x
  | .ty n, u => u = V.ty n
  | .dct, u => ∃ p, u = V.ref p ∧ H p = some (.dK [])
  | .lam f, u => ∃ p c', u = V.ref p ∧ H p = some (FunO f p c') ∧ H c' = some (LamX.CodeO c' f.q)
  | .ref a, u => u = V.ref a
  | .tup xs, u => ∃ p us, u = V.ref p ∧ SqT K H p us ∧ RVs K H xs us
  | .rom xs, u => ∃ p us, u = V.ref p ∧ RomL K H p us ∧ RVs K H xs us
def RVs (K : PySem.W.Frag) (H : Hp) : List Val → List V → Prop
  | [], us => us = []
  | x :: xs, us => ∃ u r, us = u :: r ∧ RV K H x u ∧ RVs K H xs r
end

def RO (K : PySem.W.Frag) (H : Hp) (a : Addr) : Ob → Prop
  | .lst xs => ∃ us, H a = some (.lst us) ∧ RVs K H xs us
  | .tab q => LamX.TabS H a q
/-- the view h lies over H -/
def Sim (K : PySem.W.Frag) (h : Hep) (H : Hp) : Prop := ∀ a o, h a = some o → RO K H a o

/-- a step: what the view doesn't show is kept, nothing goes, the view shows nothing of old that it hadn't shown -/
structure Go (h : Hep) (H : Hp) (h' : Hep) (H' : Hp) : Prop where
  fr : ∀ a o, H a = some o → h a = none → H' a = some o
  dm : ∀ a, H a ≠ none → H' a ≠ none
  nw : ∀ a, h a = none → H a ≠ none → h' a = none
theorem Go.refl (h : Hep) (H : Hp) : Go h H h H := ⟨fun _ _ e _ => e, fun _ e => e, fun _ e _ => e⟩
theorem Go.trans {h h1 h2 : Hep} {H H1 H2 : Hp} (x : Go h H h1 H1) (y : Go h1 H1 h2 H2) : Go h H h2 H2 where
  fr := fun a o e n => y.fr a o (x.fr a o e n) (x.nw a n (by rw [e]; simp))
  dm := fun a e => y.dm a (x.dm a e)
  nw := fun a n e => y.nw a (x.nw a n e) (x.dm a e)

section
variable {K : PySem.W.Frag} {h h' : Hep} {H H' : Hp}
theorem Sim.kind (s : Sim K h H) {a : Addr} {o : HO} (e : H a = some o) (n : ∀ us, o ≠ .lst us) (n2 : ∀ ps, o ≠ .tbl ps) : h a = none := by
  cases q : h a with
  | none => rfl
  | some ob =>
    have r := s a ob q
    cases ob with
    | lst xs =>
      obtain ⟨us, e2, _⟩ := r
      rw [e] at e2
      exact absurd (Option.some.inj e2) (n us)
    | tab w =>
      obtain ⟨ps, e2, _⟩ := r
      rw [e] at e2
      exact absurd (Option.some.inj e2) (n2 ps)
theorem Sim.free (s : Sim K h H) {a : Addr} (e : H a = none) : h a = none := by
  cases q : h a with
  | none => rfl
  | some ob =>
    have r := s a ob q
    cases ob with
    | lst xs =>
      obtain ⟨us, e2, _⟩ := r
      rw [e] at e2
      cases e2
    | tab w =>
      obtain ⟨ps, e2, _⟩ := r
      rw [e] at e2
      cases e2
/-- a table that stays, with its code objects -/
theorem tab_stay {P : Addr} {q : Str} (t : LamX.TabS H P q) (e : ∀ o, H P = some o → H' P = some o) (ec : ∀ c, H c = some (LamX.CodeO c q) → H' c = some (LamX.CodeO c q)) : LamX.TabS H' P q := by
  obtain ⟨ps, h1, h2, h3⟩ := t
  refine ⟨ps, e _ h1, h2, fun pos cv hc => ?_⟩
  obtain ⟨c, e1, e2⟩ := h3 pos cv hc
  exact ⟨c, e1, ec c e2⟩
theorem SqT.go (s : Sim K h H) (g : Go h H h' H') {a : Addr} {us : List V} (t : SqT K H a us) : SqT K H' a us := by
  rcases t with (t | ⟨o, t⟩) | t
  · exact .inl (.inl (g.fr a _ t (s.kind t (fun us z => by cases z) (fun us z => by cases z))))
  · exact .inl (.inr ⟨o, g.fr a _ t (s.kind t (fun us z => by cases z) (fun us z => by cases z))⟩)
  · exact .inr t
theorem RomL.go (s : Sim K h H) (g : Go h H h' H') {a : Addr} {us : List V} (t : RomL K H a us) : RomL K H' a us := by
  rcases t with ⟨o, t⟩ | t
  · exact .inl ⟨o, g.fr a _ t (s.kind t (fun us z => by cases z) (fun us z => by cases z))⟩
  · exact .inr t
mutual
theorem RV.go (s : Sim K h H) (g : Go h H h' H') : ∀ {v : Val} {u : V}, RV K H v u → RV K H' v u
  | .non, _, r => r
  | .bl _, _, r => r
  | .int _, _, r => r
  | .str _, _, r => r
  | .ty _, _, r => r
  | .dct, _, ⟨p, e, q⟩ => ⟨p, e, g.fr p _ q (s.kind q (fun us z => by cases z) (fun us z => by cases z))⟩
  | .lam _, _, ⟨p, c', e, q, z⟩ => ⟨p, c', e, g.fr p _ q (s.kind q funO_lst funO_tbl), g.fr c' _ z (s.kind z codeO_lst LamX.codeO_ne)⟩
  | .ref _, _, r => r
  | .tup _, _, ⟨p, us, e, t, q⟩ => ⟨p, us, e, SqT.go s g t, RVs.go s g q⟩
  | .rom _, _, ⟨p, us, e, t, q⟩ => ⟨p, us, e, RomL.go s g t, RVs.go s g q⟩
theorem RVs.go (s : Sim K h H) (g : Go h H h' H') : ∀ {vs : List Val} {us : List V}, RVs K H vs us → RVs K H' vs us
  | [], _, r => r
  | _ :: _, _, ⟨u, r, e, q, t⟩ => ⟨u, r, e, RV.go s g q, RVs.go s g t⟩
end
theorem RVs.length : ∀ {vs : List Val} {us : List V}, RVs K H vs us → us.length = vs.length
  | [], _, r => by
    have e : _ = [] := r
    rw [e]; rfl
  | _ :: _, _, ⟨u, r, e, q, t⟩ => by rw [e, List.length_cons, List.length_cons, RVs.length t]
theorem RVs.get : ∀ {vs : List Val} {us : List V} {i : Nat} {v : Val}, RVs K H vs us → vs[i]? = some v → ∃ u, us[i]? = some u ∧ RV K H v u
  | [], _, _, _, _, e => by simp at e
  | _ :: _, _, 0, _, ⟨u, r, e, q, t⟩, x => by
    simp at x; subst x; subst e; exact ⟨u, rfl, q⟩
  | _ :: _, _, i + 1, v, ⟨u, r, e, q, t⟩, x => by
    subst e
    obtain ⟨w, e1, e2⟩ := RVs.get (i := i) (v := v) t (by simpa using x)
    exact ⟨w, by simpa using e1, e2⟩
theorem RVs.get' : ∀ {vs : List Val} {us : List V} {i : Nat} {u : V}, RVs K H vs us → us[i]? = some u → ∃ v, vs[i]? = some v ∧ RV K H v u
  | [], _, _, _, r, e => by
    have z : _ = [] := r
    subst z
    simp at e
  | _ :: _, _, 0, _, ⟨u, r, e, q, t⟩, x => by
    subst e
    simp at x; subst x; exact ⟨_, rfl, q⟩
  | _ :: _, _, i + 1, v, ⟨u, r, e, q, t⟩, x => by
    subst e
    obtain ⟨w, e1, e2⟩ := RVs.get' (i := i) (u := v) t (by simpa using x)
    exact ⟨w, by simpa using e1, e2⟩
theorem RVs.cons {v : Val} {u : V} {vs : List Val} {us : List V} (a : RV K H v u) (b : RVs K H vs us) : RVs K H (v :: vs) (u :: us) := ⟨u, us, rfl, a, b⟩
theorem RVs.nil : RVs K H [] [] := rfl
theorem RVs.app : ∀ {vs ws : List Val} {us xs : List V}, RVs K H vs us → RVs K H ws xs → RVs K H (vs ++ ws) (us ++ xs)
  | [], _, _, _, r, t => by
    have e : _ = [] := r
    rw [e]; exact t
  | _ :: _, _, _, _, ⟨u, r, e, q, t⟩, z => by
    rw [e]; exact ⟨u, _, rfl, q, RVs.app t z⟩
theorem RVs.set {v : Val} {u : V} (a : RV K H v u) : ∀ {vs : List Val} {us : List V} (i : Nat), RVs K H vs us → RVs K H (vs.set i v) (us.set i u)
  | [], _, _, r => by
    have e : _ = [] := r
    rw [e]; rfl
  | _ :: _, _, 0, ⟨w, r, e, q, t⟩ => by
    rw [e]; exact ⟨u, r, rfl, a, t⟩
  | _ :: _, _, i + 1, ⟨w, r, e, q, t⟩ => by
    rw [e]; exact ⟨w, _, rfl, q, RVs.set a i t⟩
theorem RVs.take : ∀ {vs : List Val} {us : List V} (n : Nat), RVs K H vs us → RVs K H (vs.take n) (us.take n)
  | _, _, 0, _ => rfl
  | [], _, _ + 1, r => by
    have e : _ = [] := r
    rw [e]; rfl
  | _ :: _, _, n + 1, ⟨w, r, e, q, t⟩ => by
    rw [e]; exact ⟨w, _, rfl, q, RVs.take n t⟩
theorem RVs.drop : ∀ {vs : List Val} {us : List V} (n : Nat), RVs K H vs us → RVs K H (vs.drop n) (us.drop n)
  | _, _, 0, r => r
  | [], _, _ + 1, r => by
    have e : _ = [] := r
    rw [e]; rfl
  | _ :: _, _, n + 1, ⟨w, r, e, q, t⟩ => by
    rw [e]; exact RVs.drop n t
theorem RVs.rev : ∀ {vs : List Val} {us : List V}, RVs K H vs us → RVs K H vs.reverse us.reverse
  | [], _, r => by
    have e : _ = [] := r
    rw [e]; rfl
  | _ :: _, _, ⟨w, r, e, q, t⟩ => by
    rw [e, List.reverse_cons, List.reverse_cons]
    exact RVs.app (RVs.rev t) (RVs.cons q RVs.nil)
theorem RVs.erase : ∀ {vs : List Val} {us : List V} (n : Nat), RVs K H vs us → RVs K H (vs.eraseIdx n) (us.eraseIdx n)
  | [], _, _, r => by
    have e : _ = [] := r
    rw [e]; rfl
  | _ :: _, _, 0, ⟨w, r, e, q, t⟩ => by
    rw [e]; exact t
  | _ :: _, _, n + 1, ⟨w, r, e, q, t⟩ => by
    rw [e]; exact ⟨w, _, rfl, q, RVs.erase n t⟩
theorem RVs.ints : ∀ {ns : List Int} {us : List V}, RVs K H (ns.map Val.int) us → us = ns.map V.int
  | [], _, r => r
  | _ :: _, _, ⟨w, r, e, q, t⟩ => by
    rw [e, show w = _ from q, RVs.ints t]; rfl
theorem RVs.bls : ∀ {ns : List Bool} {us : List V}, RVs K H (ns.map Val.bl) us → us = ns.map V.bl
  | [], _, r => r
  | _ :: _, _, ⟨w, r, e, q, t⟩ => by
    rw [e, show w = _ from q, RVs.bls t]; rfl
theorem RVs.of_ints : ∀ (ns : List Int), RVs K H (ns.map Val.int) (ns.map V.int)
  | [] => rfl
  | _ :: r => ⟨_, _, rfl, rfl, RVs.of_ints r⟩
theorem Sim.go {h0 : Hep} (s : Sim K h H) (s0 : Sim K h0 H) (g : Go h H h' H') (d : ∀ a o, h0 a = some o → h a = none) : Sim K h0 H' := fun a o e => by
  have r := s0 a o e
  cases o with
  | lst xs =>
    obtain ⟨us, e2, q⟩ := r
    exact ⟨us, g.fr a _ e2 (d a _ e), RVs.go s g q⟩
  | tab w => exact tab_stay r (fun o e2 => g.fr a o e2 (d a _ e)) fun c e2 => g.fr c _ e2 (s.kind e2 codeO_lst LamX.codeO_ne)

/-! ### new things, things written -/
theorem go_new {p : Addr} {o : HO} {ob : Ob} (n : H p = none) : Go h H (hset h p ob) (upd H p o) where
  fr := fun a o' e _ => by rw [upd_ne (ne_of_none e n)]; exact e
  dm := fun a e => by
    by_cases z : a = p
    · subst z; rw [upd_same]; simp
    · rw [upd_ne z]; exact e
  nw := fun a e z => by
    have q : a ≠ p := fun y => by subst y; exact z n
    rw [hset_ne q]; exact e
/-- laid, but not shown -/
theorem go_hid {p : Addr} {o : HO} (n : H p = none) : Go h H h (upd H p o) where
  fr := fun a o' e _ => by rw [upd_ne (ne_of_none e n)]; exact e
  dm := fun a e => by
    by_cases z : a = p
    · subst z; rw [upd_same]; simp
    · rw [upd_ne z]; exact e
  nw := fun a e z => e
theorem go_set {p : Addr} {o : HO} {ob ob0 : Ob} (n : h p = some ob0) : Go h H (hset h p ob) (upd H p o) where
  fr := fun a o' e z => by
    have q : a ≠ p := fun y => by subst y; rw [n] at z; cases z
    rw [upd_ne q]; exact e
  dm := fun a e => by
    by_cases z : a = p
    · subst z; rw [upd_same]; simp
    · rw [upd_ne z]; exact e
  nw := fun a e z => by
    have q : a ≠ p := fun y => by subst y; rw [n] at e; cases e
    rw [hset_ne q]; exact e
theorem Sim.hid (s : Sim K h H) {p : Addr} {o : HO} (n : H p = none) : Sim K h (upd H p o) :=
  Sim.go (h := fun _ => none) (h' := fun _ => none) (fun _ _ e => nomatch e) s (go_hid n) fun _ _ _ => rfl
theorem Sim.new (s : Sim K h H) {p : Addr} {xs : List Val} {us : List V} (n : H p = none) (r : RVs K H xs us) : Sim K (hset h p (.lst xs)) (upd H p (.lst us)) := fun a o e => by
  have g : Go h H h (upd H p (.lst us)) := go_hid n
  by_cases z : a = p
  · subst z
    rw [hset_same] at e
    cases e
    exact ⟨us, upd_same, RVs.go s g r⟩
  · rw [hset_ne z] at e
    have q := s.hid (o := .lst us) n a o e
    exact q
theorem Sim.set (s : Sim K h H) {p : Addr} {xs : List Val} {us : List V} {ob0 : Ob} (n : h p = some ob0) (r : RVs K H xs us) : Sim K (hset h p (.lst xs)) (upd H p (.lst us)) := fun a o e => by
  have g : Go h H (hset h p (.lst xs)) (upd H p (.lst us)) := go_set n
  by_cases z : a = p
  · subst z
    rw [hset_same] at e
    cases e
    exact ⟨us, upd_same, RVs.go s g r⟩
  · rw [hset_ne z] at e
    have q := s a o e
    cases o with
    | lst ys =>
      obtain ⟨ws, e2, t⟩ := q
      exact ⟨ws, by rw [upd_ne z]; exact e2, RVs.go s g t⟩
    | tab w => exact tab_stay q (fun o e2 => by rw [upd_ne z]; exact e2) fun c e2 => g.fr c _ e2 (s.kind e2 codeO_lst LamX.codeO_ne)
theorem RV.tupN (s : Sim K h H) {p : Addr} {xs : List Val} {us : List V} (n : H p = none) (r : RVs K H xs us) : RV K (upd H p (.tup us)) (.tup xs) (.ref p) :=
  ⟨p, us, rfl, .inl (.inl upd_same), RVs.go s (go_hid n) r⟩

/-! ### what is wanted -/
structure Exv where
  cls : Str
  fs : List (Str × Val)
abbrev VQ := Val → Hep → Prop
abbrev XQ := Exv → Hep → Prop
abbrev Env := List (Option Val)
abbrev WE := Env → Hep → VQ → XQ → Prop
def LQ (K : PySem.W.Frag) (h : Hep) (H : Hp) (Q : VQ) (u : V) (H' : Hp) : Prop := ∃ v h', Go h H h' H' ∧ Sim K h' H' ∧ RV K H' v u ∧ Q v h'
/-- an exception: its class by its name, its fields -/
def RFs (K : PySem.W.Frag) (H : Hp) (fs : List (Str × Val)) (us : List (Str × V)) : Prop := us.map (·.1) = fs.map (·.1) ∧ RVs K H (fs.map (·.2)) (us.map (·.2))
def RX (K : PySem.W.Frag) (mg : Str → Option Value) (H : Hp) (ex : Exv) (cls : Value) (d : Option Addr) : Prop :=
  ∃ C, mg ex.cls = some (.ref C) ∧ cls = .ref C ∧ ((d = none ∧ ex.fs = []) ∨ ∃ dd us, d = some dd ∧ H dd = some (.xd us) ∧ RFs K H ex.fs us)
def LX (K : PySem.W.Frag) (mg : Str → Option Value) (h : Hep) (H : Hp) (E : XQ) (cls : Value) (d : Option Addr) (H' : Hp) : Prop :=
  ∃ ex h', Go h H h' H' ∧ Sim K h' H' ∧ RX K mg H' ex cls d ∧ E ex h'
theorem LQ.trans {h1 : Hep} {H1 : Hp} {Q : VQ} {u : V} (g : Go h H h1 H1) (q : LQ K h1 H1 Q u H') : LQ K h H Q u H' := by
  obtain ⟨v, h2, g2, s2, r, q⟩ := q
  exact ⟨v, h2, g.trans g2, s2, r, q⟩
theorem LX.trans {mg : Str → Option Value} {h1 : Hep} {H1 : Hp} {E : XQ} {cls : Value} {d : Option Addr} (g : Go h H h1 H1) (q : LX K mg h1 H1 E cls d H') : LX K mg h H E cls d H' := by
  obtain ⟨v, h2, g2, s2, r, q⟩ := q
  exact ⟨v, h2, g.trans g2, s2, r, q⟩
/-- slots -/
def RVo (K : PySem.W.Frag) (H : Hp) (env : Env) (σ : L2.St) : Prop := env.length = σ.length ∧ ∀ (i : Nat) (v : Val), env[i]? = some (some v) → ∃ u : V, σ[i]? = some (some u) ∧ RV K H v u
theorem RVo.go (s : Sim K h H) (g : Go h H h' H') {env : Env} {σ : L2.St} (r : RVo K H env σ) : RVo K H' env σ := ⟨r.1, fun i v e => by
  obtain ⟨u, e2, q⟩ := r.2 i v e
  exact ⟨u, e2, RV.go s g q⟩⟩
theorem RVo.set {env : Env} {σ : L2.St} (r : RVo K H env σ) {v : Val} {u : V} (q : RV K H v u) (i : Nat) : RVo K H (env.set i (some v)) (σ.set i (some u)) := by
  refine ⟨by rw [List.length_set, List.length_set]; exact r.1, fun j w e => ?_⟩
  by_cases z : i = j
  · subst z
    rw [List.getElem?_set] at e
    simp only [if_true] at e
    split at e
    · rename_i hl
      cases e
      exact ⟨u, by rw [List.getElem?_set_self (by rw [← r.1]; exact hl)], q⟩
    · cases e
  · rw [List.getElem?_set_ne z] at e
    obtain ⟨x, e1, e2⟩ := r.2 j w e
    exact ⟨x, by rw [List.getElem?_set_ne z]; exact e1, e2⟩
theorem RVo.wipe {env : Env} {σ : L2.St} (r : RVo K H env σ) (i : Nat) : RVo K H (env.set i none) (σ.set i none) := by
  refine ⟨by rw [List.length_set, List.length_set]; exact r.1, fun j w e => ?_⟩
  by_cases z : i = j
  · subst z
    rw [List.getElem?_set] at e
    simp only [if_true] at e
    split at e <;> cases e
  · rw [List.getElem?_set_ne z] at e
    obtain ⟨x, e1, e2⟩ := r.2 j w e
    exact ⟨x, by rw [List.getElem?_set_ne z]; exact e1, e2⟩
end

/-- what a body takes of exceptions, at slots σ -/
def Tk (X : Cx) (σ : L2.St) (h : Hep) (H : Hp) (E : XQ) : Prop := Takes X fun cls d σ' H' => σ' = σ ∧ LX X.K X.mg h H E cls d H'
theorem Tk.go {X : Cx} {σ : L2.St} {h h' : Hep} {H H' : Hp} {E : XQ} (t : Tk X σ h H E) (g : Go h H h' H') : Tk X σ h' H' E := Takes.imp t fun _ _ _ _ ⟨e, q⟩ => ⟨e, q.trans g⟩
theorem Tk.imp {X : Cx} {σ : L2.St} {h : Hep} {H : Hp} {E E' : XQ} (t : Tk X σ h H E) (g : ∀ ex h, E' ex h → E ex h) : Tk X σ h H E' := Takes.imp t fun _ _ _ _ ⟨e, x, h', g1, s1, r, q⟩ => ⟨e, x, h', g1, s1, r, g _ _ q⟩

/-- an expression's reading by the view -/
def tS (X : Cx) (w : WE) : TE := fun σ H Q' => ∃ env h Q E, Tk X σ h H E ∧ Sim X.K h H ∧ RVo X.K H env σ ∧ w env h Q E ∧ ∀ u H', LQ X.K h H Q u H' → Q' u H'
def JE (X : Cx) (e : Expr) (w : WE) : Prop := PE X e (tS X w)
abbrev BQ := Bool → Hep → Prop
abbrev WT := Env → Hep → BQ → XQ → Prop
def LB (K : PySem.W.Frag) (h : Hep) (H : Hp) (Q : BQ) (b : Bool) (H' : Hp) : Prop := ∃ h', Go h H h' H' ∧ Sim K h' H' ∧ Q b h'
def tST (X : Cx) (w : WT) : TT := fun σ H Q' => ∃ env h Q E, Tk X σ h H E ∧ Sim X.K h H ∧ RVo X.K H env σ ∧ w env h Q E ∧ ∀ b H', LB X.K h H Q b H' → Q' b H'
def JT (X : Cx) (e : Expr) (w : WT) : Prop := PT X e (tST X w)
abbrev LQs := List Val → Hep → Prop
abbrev WA := Env → Hep → LQs → XQ → Prop
def LA (K : PySem.W.Frag) (h : Hep) (H : Hp) (Q : LQs) (us : List V) (H' : Hp) : Prop := ∃ vs h', Go h H h' H' ∧ Sim K h' H' ∧ RVs K H' vs us ∧ Q vs h'
def tSA (X : Cx) (w : WA) : TA := fun σ H Q' => ∃ env h Q E, Tk X σ h H E ∧ Sim X.K h H ∧ RVo X.K H env σ ∧ w env h Q E ∧ ∀ us H', LA X.K h H Q us H' → Q' us H'
def JA (X : Cx) (es : List Expr) (w : WA) : Prop := PA X es (tSA X w)

theorem PE.imp {X : Cx} {e : Expr} {t t' : TE} (p : PE X e t) (h : ∀ σ H Q, t' σ H Q → t σ H Q) : PE X e t' := ⟨fun pins s σ H Q I q => p.run pins s σ H Q I (h _ _ _ q)⟩
theorem PT.imp {X : Cx} {e : Expr} {t t' : TT} (p : PT X e t) (h : ∀ σ H Q, t' σ H Q → t σ H Q) : PT X e t' := ⟨fun pins s σ H Q I q => p.run pins s σ H Q I (h _ _ _ q)⟩
theorem PA.imp {X : Cx} {e : List Expr} {t t' : TA} (p : PA X e t) (h : ∀ σ H Q, t' σ H Q → t σ H Q) : PA X e t' := ⟨fun po pins s σ H Q I q => p.run po pins s σ H Q I (h _ _ _ q)⟩
theorem PS.imp {X : Cx} {e : Stmt} {t t' : TS} (p : PS X e t) (h : ∀ D σ H, t' D σ H → t D σ H) : PS X e t' := ⟨fun pins s σ H D I q => p.run pins s σ H D I (h _ _ _ q)⟩
theorem PSs.imp {X : Cx} {e : List Stmt} {t t' : TS} (p : PSs X e t) (h : ∀ D σ H, t' D σ H → t D σ H) : PSs X e t' := ⟨fun pins s σ H D I q => p.run pins s σ H D I (h _ _ _ q)⟩
end KM
/-! KMB: a small language of resolved names, and what its texts ask (weakest wants). -/
namespace KM
open PySem PySem.Spec PyProof.Rows L2

inductive Tg where
  | nm (i : Nat) | tn | tc (a b : Tg)
inductive Bi where
  | len | abs | int | all | any | sum | isi | tuple | list
  deriving DecidableEq
inductive Mt where
  | append | pop | extend
  deriving DecidableEq
mutual
inductive Ex where
  | bad | var (i : Nat) | non | bl (b : Bool) | int (i : Int) | str (s : Str) | ty (n : String) | con (v : Val) | dct | itl (e : Ex)
  | lst (es : Exs) | tup (es : Exs)
  | bin (op : Operator) (a b : Ex) | neg (a : Ex)
  | and (a b : Ex) | or (a b : Ex) | not (a : Ex) | ife (c a b : Ex)
  | cmp (op : CmpOp) (a b : Ex) | chn (op op' : CmpOp) (a b c : Ex)
  | call (f : Str) (es : Exs) | kall (f : Str) (p : List Nat) (es : Exs)
  | bi (f : Bi) (es : Exs) | mth (m : Mt) (o : Ex) (es : Exs)
  | ix (a b : Ex) | sl (a : Ex) (lo hi : Exs) | rev (a : Ex)
  | lc (elt : Ex) (tg : Tg) (it : Ir) (cnd : Exs) (own : List Nat)
  | met (q : Str) (hs : List (Str × Str × Option Str)) (e : Ex)
  | lam (f : Lam) | app (fs : List Lam) (e : Ex) (es : Exs)
inductive Exs where
  | nil | cons (e : Ex) (es : Exs)
inductive Ir where
  | seq (e : Ex) | rng1 (e : Ex) | rng2 (a b : Ex) | zip (a b : Ex) | enum (a : Ex)
end
def Exs.len : Exs → Nat
  | .nil => 0
  | .cons _ r => r.len + 1

/-! ### by values -/
def Sm (n : Nat) : Prop := n < 1000000
@[irreducible] def onL (h : Hep) (a : Addr) (P : List Val → Prop) : Prop := match h a with
  | some (.lst xs) => P xs
  | _ => False
theorem onL_of {h : Hep} {a : Addr} {P : List Val → Prop} {xs : List Val} (e : h a = some (.lst xs)) : onL h a P = P xs := by unfold onL; rw [e]
theorem onL_elim {h : Hep} {a : Addr} {P : List Val → Prop} (x : onL h a P) : ∃ xs, h a = some (.lst xs) ∧ P xs := by
  unfold onL at x
  split at x
  · exact ⟨_, by assumption, x⟩
  · exact x.elim
/-- the items of a list or a tuple -/
def onI (h : Hep) (v : Val) (P : List Val → Prop) : Prop := match v with
  | .tup xs => P xs
  | .rom xs => P xs
  | .ref a => onL h a P
  | _ => False
/-- .. not looked into by unification -/
@[irreducible] def onJ (h : Hep) (v : Val) (P : List Val → Prop) : Prop := onI h v P
theorem onJ_out {h : Hep} {v : Val} {P : List Val → Prop} (o : onJ h v P) : onI h v P := by unfold onJ at o; exact o
theorem onJ_tup {h : Hep} {xs : List Val} {P : List Val → Prop} (p : P xs) : onJ h (.tup xs) P := by unfold onJ; exact p
theorem onJ_rom {h : Hep} {xs : List Val} {P : List Val → Prop} (p : P xs) : onJ h (.rom xs) P := by unfold onJ; exact p
theorem onJ_ref {h : Hep} {a : Addr} {xs : List Val} {P : List Val → Prop} (e : h a = some (.lst xs)) (p : P xs) : onJ h (.ref a) P := by
  unfold onJ
  show onL h a P
  rw [onL_of e]; exact p
def truthOf (h : Hep) : Val → Option Bool
  | .non => some false
  | .bl b => some b
  | .int i => some (i != 0)
  | .tup xs => some (!xs.isEmpty)
  | .rom xs => some (!xs.isEmpty)
  | .ref a => (match h a with
    | some (.lst xs) => some (!xs.isEmpty)
    | _ => none)
  | _ => none
def onT (h : Hep) (v : Val) (P : Bool → Prop) : Prop := match truthOf h v with
  | some b => P b
  | none => False
def onO {α : Type} (o : Option α) (P : α → Prop) : Prop := match o with
  | some x => P x
  | none => False
theorem onO_some {α : Type} {x : α} {P : α → Prop} : onO (some x) P = P x := rfl
def onInt (v : Val) (P : Int → Prop) : Prop := match v with
  | .int i => P i
  | _ => False
def isTupV : Val → Bool
  | .tup _ => true
  | _ => false
/-- both tuples, or both lists -/
def sameKind (v u : Val) : Bool := isTupV v == isTupV u
/-- a new list -/
@[irreducible] def newL (h : Hep) (xs : List Val) (Q : VQ) : Prop := ∀ p, h p = none → Q (.ref p) (hset h p (.lst xs))
theorem newL_in {h : Hep} {xs : List Val} {Q : VQ} (q : ∀ p, h p = none → Q (.ref p) (hset h p (.lst xs))) : newL h xs Q := by unfold newL; exact q
theorem newL_at {h : Hep} {xs : List Val} {Q : VQ} (q : newL h xs Q) : ∀ p, h p = none → Q (.ref p) (hset h p (.lst xs)) := by unfold newL at q; exact q
def CDivG (j : Int) : Prop := j ≠ 0 ∧ j.natAbs.log2 < 9000
def opB (op : Operator) (x y : Val) (h : Hep) (Q : VQ) : Prop := match op, x, y with
  | .Add, .int i, .int j => Q (.int (i + j)) h
  | .Sub, .int i, .int j => Q (.int (i - j)) h
  | .Mult, .int i, .int j => CMulW i j ∧ Q (.int (i * j)) h
  | .FloorDiv, .int i, .int j => CDivG j ∧ Q (.int (i.fdiv j)) h
  | .Mod, .int i, .int j => j ≠ 0 ∧ Q (.int (i.fmod j)) h
  | .Pow, .int i, .int j => CPow i j ∧ Q (.int (i ^ j.toNat)) h
  | .Add, .str i, .str j => i.length + j.length ≤ sizeLine ∧ Q (.str (i ++ j)) h
  | .Add, .tup xs, .tup ys => xs ≠ [] ∧ Sm (xs.length + ys.length) ∧ Q (.tup (xs ++ ys)) h
  | .Add, .ref a, .ref b => onL h a fun xs => onL h b fun ys => Sm (xs.length + ys.length) ∧ newL h (xs ++ ys) Q
  | .Mult, .ref a, .int k => onL h a fun xs => -(2 ^ 63) ≤ k ∧ k < 2 ^ 63 ∧ Sm (xs.length * k.toNat) ∧ newL h (List.replicate k.toNat xs).flatten Q
  | _, _, _ => False
/-- a value as data, so deep -/
def datN : Nat → Hep → Val → Option PyData
  | _, _, .non => some .none
  | _, _, .bl b => some (.bool b)
  | _, _, .int i => some (.int i)
  | _, _, .str x => some (.str x)
  | n + 1, h, .tup xs => (xs.mapM (datN n h)).map .tuple
  | n + 1, h, .rom xs => (xs.mapM (datN n h)).map .list
  | n + 1, h, .ref a => (match h a with
    | some (.lst xs) => (xs.mapM (datN n h)).map .list
    | _ => none)
  | _, _, _ => none
@[irreducible] def onD (h : Hep) (v : Val) (P : PyData → Prop) : Prop := match datN 20 h v with
  | some d => SeqAt.shaped d = true ∧ P d
  | none => False
def isNon : Val → Bool
  | .non => true
  | _ => false
def opC (op : CmpOp) (x y : Val) (h : Hep) (Q : Bool → Prop) : Prop := match op, x, y with
  | .Lt, .int i, .int j => Q (decide (i < j))
  | .LtE, .int i, .int j => Q (decide (i ≤ j))
  | .Gt, .int i, .int j => Q (decide (j < i))
  | .GtE, .int i, .int j => Q (decide (j ≤ i))
  | .Eq, .int i, .int j => Q (decide (i = j))
  | .NotEq, .int i, .int j => Q (!decide (i = j))
  | .Eq, .bl i, .bl j => Q (decide (i = j))
  | .NotEq, .bl i, .bl j => Q (!decide (i = j))
  | .Eq, .str i, .str j => Q (decide (i = j))
  | .NotEq, .str i, .str j => Q (!decide (i = j))
  | .Is, x, .non => Q (isNon x)
  | .IsNot, x, .non => Q (!isNon x)
  | .Eq, x, y => onD h x fun d => onD h y fun e => Q (PyData.eqv d e)
  | .NotEq, x, y => onD h x fun d => onD h y fun e => Q (!PyData.eqv d e)
  | .In, x, .ref a => onD h x fun d => onD h (.ref a) fun e => match e with
    | .list ds => Q (ds.any fun z => PyData.eqv z d)
    | _ => False
  | .NotIn, x, .ref a => onD h x fun d => onD h (.ref a) fun e => match e with
    | .list ds => Q (!ds.any fun z => PyData.eqv z d)
    | _ => False
  | _, _, _ => False
/-- a value's class, if it is a built-in one -/
def tyOf (h : Hep) : Val → Option String
  | .non => some "NoneType"
  | .bl _ => some "bool"
  | .int _ => some "int"
  | .str _ => some "str"
  | .tup _ => some "tuple"
  | .rom _ => some "list"
  | .ref a => (match h a with
    | some (.lst _) => some "list"
    | _ => none)
  | .ty _ => none
  | .lam _ => none
  | .dct => some "dict"
def isKnown (t : String) : Bool := t == "NoneType" || t == "bool" || t == "int" || t == "str" || t == "tuple" || t == "list" || t == "dict"
def isSub (t n : String) : Bool := t == n || (t == "bool" && n == "int")
def isAny (t : String) : List Val → Option Bool
  | [] => some false
  | .ty n :: r => (match isAny t r with
    | some b => if isKnown n then some (isSub t n || b) else none
    | none => none)
  | _ :: _ => none
@[irreducible] def opIsi (x c : Val) (h : Hep) (Q : Bool → Prop) : Prop := match tyOf h x, c with
  | some t, .ty n => isKnown n = true ∧ Q (isSub t n)
  | some t, .tup cs => (match isAny t cs with
    | some b => Q b
    | none => False)
  | _, _ => False
def blsOf : List Val → Option (List Bool)
  | [] => some []
  | .bl b :: r => (blsOf r).map (b :: ·)
  | _ :: _ => none
def intsOf : List Val → Option (List Int)
  | [] => some []
  | .int b :: r => (intsOf r).map (b :: ·)
  | _ :: _ => none
/-- a list of truth values, of whole numbers -/
@[irreducible] def onB (h : Hep) (a : Addr) (P : List Bool → Prop) : Prop := ∃ bs, h a = some (.lst (bs.map Val.bl)) ∧ P bs
@[irreducible] def onZ (h : Hep) (a : Addr) (P : List Int → Prop) : Prop := ∃ is, h a = some (.lst (is.map Val.int)) ∧ P is
theorem onB_in {h : Hep} {a : Addr} {P : List Bool → Prop} {bs : List Bool} (e : h a = some (.lst (bs.map Val.bl))) (p : P bs) : onB h a P := by unfold onB; exact ⟨bs, e, p⟩
theorem onZ_in {h : Hep} {a : Addr} {P : List Int → Prop} {is : List Int} (e : h a = some (.lst (is.map Val.int))) (p : P is) : onZ h a P := by unfold onZ; exact ⟨is, e, p⟩
theorem onB_out {h : Hep} {a : Addr} {P : List Bool → Prop} (o : onB h a P) : ∃ bs, h a = some (.lst (bs.map Val.bl)) ∧ P bs := by unfold onB at o; exact o
theorem onZ_out {h : Hep} {a : Addr} {P : List Int → Prop} (o : onZ h a P) : ∃ is, h a = some (.lst (is.map Val.int)) ∧ P is := by unfold onZ at o; exact o
def opF (f : Bi) (vs : List Val) (h : Hep) (Q : VQ) : Prop := match f, vs with
  | .len, [v] => onJ h v fun xs => Q (.int xs.length) h
  | .abs, [.int i] => Q (.int (if i < 0 then -i else i)) h
  | .int, [.int i] => Q (.int i) h
  | .int, [.bl k] => Q (.int (if k then 1 else 0)) h
  | .all, [.ref a] => onB h a fun bs => Q (.bl (bs.all id)) h
  | .any, [.ref a] => onB h a fun bs => Q (.bl (bs.any id)) h
  | .sum, [.ref a] => onZ h a fun is => Q (.int is.sum) h
  | .isi, [x, c] => opIsi x c h fun b => Q (.bl b) h
  | .tuple, [v] => onJ h v fun xs => Q (.tup xs) h
  | .list, [v] => onJ h v fun xs => newL h xs Q
  | _, _ => False
def opM (m : Mt) (o : Val) (vs : List Val) (h : Hep) (Q : VQ) : Prop := match m, o, vs with
  | .append, .ref a, [v] => onL h a fun xs => Sm xs.length ∧ Q .non (hset h a (.lst (xs ++ [v])))
  | .extend, .ref a, [.ref b] => onL h a fun xs => onL h b fun ys => Sm (xs.length + ys.length) ∧ Q .non (hset h a (.lst (xs ++ ys)))
  | .pop, .ref a, [] => onL h a fun xs => (match xs.getLast? with
    | some v => Q v (hset h a (.lst xs.dropLast))
    | none => False)
  | .pop, .ref a, [.int i] => onL h a fun xs => i = 0 ∧ (match xs with
    | v :: r => Q v (hset h a (.lst r))
    | [] => False)
  | _, _, _ => False
/-- the receiver has such a method -/
def mtOk (m : Mt) (x : Val) (h : Hep) : Prop := match x with
  | .ref a => onL h a fun _ => True
  | _ => False
def opIx (x y : Val) (h : Hep) (Q : Val → Prop) : Prop := match y with
  | .int i => onI h x fun xs => (match atI xs i with
    | some v => Q v
    | none => False)
  | _ => False
def cutL {α : Type} (xs : List α) (lo hi : Option Int) : List α := (xs.drop (HT.sIx xs.length 0 lo)).take (HT.sIx xs.length xs.length hi - HT.sIx xs.length 0 lo)
def opSl (x : Val) (lo hi : Option Int) (h : Hep) (Q : VQ) : Prop := match x with
  | .tup xs => ¬ (HT.sIx xs.length 0 lo = 0 ∧ HT.sIx xs.length xs.length hi = xs.length) ∧ Q (.tup (cutL xs lo hi)) h
  | .rom xs => newL h (cutL xs lo hi) Q
  | .ref a => onL h a fun xs => newL h (cutL xs lo hi) Q
  | _ => False

/-- list(x.items()) of an empty dict -/
def opItl (x : Val) (h : Hep) (Q : VQ) : Prop := match x with
  | .dct => newL h [] Q
  | _ => False
def opN (x : Val) (h : Hep) (Q : VQ) : Prop := onInt x fun i => Q (.int (-i)) h
def opRev (x : Val) (h : Hep) (Q : VQ) : Prop := match x with
  | .ref a => onL h a fun xs => newL h xs.reverse Q
  | _ => False

/-! ### targets, walks -/
/-- a tuple's items bound -/
def endT (vs : List Val) (env : Env) : Option Env := match vs with
  | [] => some env
  | _ => none
def conT (a : Val → Env → Option Env) (b : List Val → Env → Option Env) (vs : List Val) (env : Env) : Option Env := match vs with
  | x :: xs => (match a x env with
    | some env' => b xs env'
    | none => none)
  | [] => none
def tupT (b : List Val → Env → Option Env) (v : Val) (env : Env) : Option Env := match v with
  | .tup vs => b vs env
  | _ => none
def bindP : Tg → (Val → Env → Option Env) × (List Val → Env → Option Env)
  | .nm i => (fun v env => some (env.set i (some v)), fun _ _ => none)
  | .tn => (tupT endT, endT)
  | .tc a b => (tupT (conT (bindP a).1 (bindP b).2), conT (bindP a).1 (bindP b).2)
def bindT (t : Tg) : Val → Env → Option Env := (bindP t).1
def bindTs (t : Tg) : List Val → Env → Option Env := (bindP t).2
/-- what is walked: the items, and the lists that have to stay as they are meanwhile -/
structure Src where
  vals : List Val
  pins : List (Addr × List Val)
def pinOk (h : Hep) : List (Addr × List Val) → Prop
  | [] => True
  | p :: r => h p.1 = some (.lst p.2) ∧ pinOk h r
def onSrc0 (h : Hep) (v : Val) (P : Src → Prop) : Prop := match v with
  | .tup xs => P ⟨xs, []⟩
  | .rom xs => P ⟨xs, []⟩
  | .ref a => onL h a fun xs => P ⟨xs, [(a, xs)]⟩
  | _ => False
/-- .. not looked into by unification -/
@[irreducible] def onSrc (h : Hep) (v : Val) (P : Src → Prop) : Prop := onSrc0 h v P
theorem onSrc_out {h : Hep} {v : Val} {P : Src → Prop} (o : onSrc h v P) : onSrc0 h v P := by unfold onSrc at o; exact o
theorem src_tupI {h : Hep} {xs : List Val} {P : Src → Prop} (p : P ⟨xs, []⟩) : onSrc h (.tup xs) P := by unfold onSrc; exact p
theorem src_romI {h : Hep} {xs : List Val} {P : Src → Prop} (p : P ⟨xs, []⟩) : onSrc h (.rom xs) P := by unfold onSrc; exact p
theorem src_refI {h : Hep} {a : Addr} {xs : List Val} {P : Src → Prop} (e : h a = some (.lst xs)) (p : P ⟨xs, [(a, xs)]⟩) : onSrc h (.ref a) P := by
  unfold onSrc
  show onL h a _
  rw [onL_of e]; exact p
def enumV : Nat → List Val → List Val
  | _, [] => []
  | n, x :: r => .tup [.int n, x] :: enumV (n + 1) r
def zipV : List Val → List Val → List Val
  | x :: xs, y :: ys => .tup [x, y] :: zipV xs ys
  | _, _ => []
def rngV (lo : Int) : Nat → List Val
  | 0 => []
  | n + 1 => .int lo :: rngV (lo + 1) n
def smI (i : Int) : Prop := -(2 ^ 62) ≤ i ∧ i < 2 ^ 62
def lcW (cnd : WT) (elt : WE) (bind : Val → Env → Option Env) (pins : List (Addr × List Val)) (env : Env) (Q : VQ) : List Val → List Val → Hep → Prop
  | [], acc, h => pinOk h pins ∧ newL h acc Q
  | x :: xs, acc, h => pinOk h pins ∧ onO (bind x env) fun env' => cnd env' h (fun b h1 => if b = true then elt env' h1 (fun y h2 => lcW cnd elt bind pins env Q xs (acc ++ [y]) h2) (fun _ _ => False) else lcW cnd elt bind pins env Q xs acc h1) (fun _ _ => False)
def wipeE (env : Env) : List Nat → Env
  | [] => env
  | v :: vs => (wipeE env vs).set v none
/-- the values at these places -/
def permL {α : Type} (p : List Nat) (xs : List α) : List α := p.filterMap (xs[·]?)

/-- what a handler of an own error tells: its class, a word, a field -/
abbrev Hd : Type := Str × Str × Option Str
def metH : List Hd → Exv → VQ → Hep → Prop
  | [], _, _, _ => False
  | p :: r, x, Q, h => if x.cls = p.1 then (match p.2.2, x.fs with
      | none, _ => Q (.tup [.str p.2.1, .non]) h
      | some f, [(g, v)] => g = f ∧ Q (.tup [.str p.2.1, v]) h
      | some _, _ => False) else metH r x Q h
/-- a table of code objects at a value -/
def onTab (h : Hep) (v : Val) (q : Str) (P : Prop) : Prop := match v with
  | .ref a => h a = some (.tab q) ∧ P
  | _ => False

/-- one of these lambdas -/
def onLam (fs : List Lam) (v : Val) (P : Str → Prop) : Prop := match v with
  | .lam f => f ∈ fs ∧ P f.nm
  | _ => False

/-! ### expressions -/
abbrev CalT := Str → List Val → Hep → VQ → XQ → Prop
/-- a value's want, and a test's by the value's truth -/
def dfl (w : WE) : WE × WT := (w, fun env h Q E => w env h (fun x h1 => onT h1 x fun t => Q t h1) E)
section
variable (C : CalT)
mutual
def wP : Ex → WE × WT
  | .bad => (fun _ _ _ _ => False, fun _ _ _ _ => False)
  | .var i => dfl fun env h Q _ => (match env[i]? with
    | some (some v) => Q v h
    | _ => False)
  | .non => dfl fun _ h Q _ => Q .non h
  | .bl b => dfl fun _ h Q _ => Q (.bl b) h
  | .int i => dfl fun _ h Q _ => Q (.int i) h
  | .str x => dfl fun _ h Q _ => Q (.str x) h
  | .ty n => dfl fun _ h Q _ => Q (.ty n) h
  | .con v => dfl fun _ h Q _ => Q v h
  | .dct => dfl fun _ h Q _ => Q .dct h
  | .itl a => dfl fun env h Q E => (wP a).1 env h (fun x h1 => opItl x h1 Q) E
  | .lst es => dfl fun env h Q E => wA es env h (fun vs h1 => newL h1 vs Q) E
  | .tup es => dfl fun env h Q E => wA es env h (fun vs h1 => Q (.tup vs) h1) E
  | .bin op a b => dfl fun env h Q E => (wP a).1 env h (fun x h1 => (wP b).1 env h1 (fun y h2 => opB op x y h2 Q) E) E
  | .neg a => dfl fun env h Q E => (wP a).1 env h (fun x h1 => opN x h1 Q) E
  | .and a b => (fun env h Q E => (wP a).1 env h (fun x h1 => onT h1 x fun t => if t = true then (wP b).1 env h1 Q E else Q x h1) E,
      fun env h Q E => (wP a).2 env h (fun t h1 => if t = true then (wP b).2 env h1 Q E else Q false h1) E)
  | .or a b => (fun env h Q E => (wP a).1 env h (fun x h1 => onT h1 x fun t => if t = true then Q x h1 else (wP b).1 env h1 Q E) E,
      fun env h Q E => (wP a).2 env h (fun t h1 => if t = true then Q true h1 else (wP b).2 env h1 Q E) E)
  | .not a => (fun env h Q E => (wP a).1 env h (fun x h1 => onT h1 x fun t => Q (.bl (!t)) h1) E, fun env h Q E => (wP a).2 env h (fun t h1 => Q (!t) h1) E)
  | .ife c a b => (fun env h Q E => (wP c).2 env h (fun t h1 => if t = true then (wP a).1 env h1 Q E else (wP b).1 env h1 Q E) E,
      fun env h Q E => (wP c).2 env h (fun t h1 => if t = true then (wP a).2 env h1 Q E else (wP b).2 env h1 Q E) E)
  | .cmp op a b => (fun env h Q E => (wP a).1 env h (fun x h1 => (wP b).1 env h1 (fun y h2 => opC op x y h2 fun t => Q (.bl t) h2) E) E,
      fun env h Q E => (wP a).1 env h (fun x h1 => (wP b).1 env h1 (fun y h2 => opC op x y h2 fun t => Q t h2) E) E)
  | .chn op op' a b c => (fun env h Q E => (wP a).1 env h (fun x h1 => (wP b).1 env h1 (fun y h2 => opC op x y h2 fun t => if t = true then (wP c).1 env h2 (fun z h3 => opC op' y z h3 fun t => Q (.bl t) h3) E else Q (.bl false) h2) E) E,
      fun env h Q E => (wP a).1 env h (fun x h1 => (wP b).1 env h1 (fun y h2 => opC op x y h2 fun t => if t = true then (wP c).1 env h2 (fun z h3 => opC op' y z h3 fun t => Q t h3) E else Q false h2) E) E)
  | .call f es => dfl fun env h Q E => wA es env h (fun vs h1 => C f vs h1 Q E) E
  | .kall f p es => dfl fun env h Q E => wA es env h (fun vs h1 => C f (permL p vs) h1 Q E) E
  | .bi f es => dfl fun env h Q E => wA es env h (fun vs h1 => opF f vs h1 Q) E
  | .mth m o es => dfl fun env h Q E => (wP o).1 env h (fun x h1 => mtOk m x h1 ∧ wA es env h1 (fun vs h2 => opM m x vs h2 Q) E) E
  | .ix a b => dfl fun env h Q E => (wP a).1 env h (fun x h1 => (wP b).1 env h1 (fun y h2 => opIx x y h2 fun v => Q v h2) E) E
  | .sl a lo hi => dfl fun env h Q E => (wP a).1 env h (fun x h1 => wO lo env h1 (fun l h2 => wO hi env h2 (fun u h3 => opSl x l u h3 Q) E) E) E
  | .rev a => dfl fun env h Q E => (wP a).1 env h (fun x h1 => opRev x h1 Q) E
  | .lc elt tg it cnd own => dfl fun env h Q E => wI it env h (fun src h1 => Sm src.vals.length ∧ lcW (wCs cnd) (wP elt).1 (bindT tg) src.pins (wipeE env own) Q src.vals [] h1) E
  | .met q hs e => dfl fun env h Q _ => C q [] h (fun v h0 => onTab h0 v q ((wP e).1 env h0 (fun u h1 => Q (.tup [.str "told", u]) h1) (fun x h1 => metH hs x Q h1))) (fun _ _ => False)
  | .lam f => dfl fun _ h Q _ => C f.q [] h (fun v h0 => onTab h0 v f.q (Q (.lam f) h0)) (fun _ _ => False)
  | .app fs e es => dfl fun env h Q E => (wP e).1 env h (fun x h1 => onLam fs x fun nm => wA es env h1 (fun vs h2 => C nm vs h2 Q E) E) E
def wA : Exs → WA
  | .nil => fun _ h Q _ => Q [] h
  | .cons e es => fun env h Q E => (wP e).1 env h (fun v h1 => wA es env h1 (fun vs h2 => Q (v :: vs) h2) E) E
/-- an end of a slice -/
def wO : Exs → Env → Hep → (Option Int → Hep → Prop) → XQ → Prop
  | .nil => fun _ h Q _ => Q none h
  | .cons e _ => fun env h Q E => (wP e).1 env h (fun v h1 => onInt v fun i => Q (some i) h1) E
/-- a comprehension's test -/
def wCs : Exs → WT
  | .nil => fun _ h Q _ => Q true h
  | .cons e _ => fun env h Q E => (wP e).2 env h Q E
def wI : Ir → Env → Hep → (Src → Hep → Prop) → XQ → Prop
  | .seq e => fun env h Q E => (wP e).1 env h (fun v h1 => onSrc h1 v fun s => Q s h1) E
  | .rng1 e => fun env h Q E => (wP e).1 env h (fun v h1 => onInt v fun i => smI i ∧ Q ⟨rngV 0 i.toNat, []⟩ h1) E
  | .rng2 a b => fun env h Q E => (wP a).1 env h (fun v h1 => (wP b).1 env h1 (fun u h2 => onInt v fun i => onInt u fun j => smI i ∧ smI j ∧ Q ⟨rngV i (j - i).toNat, []⟩ h2) E) E
  | .zip a b => fun env h Q E => (wP a).1 env h (fun v h1 => (wP b).1 env h1 (fun u h2 => onSrc h2 v fun s => onSrc h2 u fun t => Q ⟨zipV s.vals t.vals, s.pins ++ t.pins⟩ h2) E) E
  | .enum a => fun env h Q E => (wP a).1 env h (fun v h1 => onSrc h1 v fun s => Q ⟨enumV 0 s.vals, s.pins⟩ h1) E
end
/-- an expression -/
def wE (e : Ex) : WE := (wP C e).1
/-- a test -/
def wT (e : Ex) : WT := (wP C e).2
end

/-! ### statements -/
mutual
inductive Sx where
  | bad | pass | expr (e : Ex) | ret (e : Ex) | retN | asg (tg : Tg) (e : Ex) | par (is : List Nat) (es : Exs)
  | setix (o i e : Ex) | ife (c : Ex) (a b : Sxs) | whil (c : Ex) (b : Sxs) | forr (tg : Tg) (it : Ir) (b : Sxs) | brk | cont | rais (c f : Str) (e : Ex) | rai0 (c : Str)
inductive Sxs where
  | nil | cons (s : Sx) (r : Sxs)
end
structure KD where
  nx : Env → Hep → Prop
  rt : VQ
  bk : Env → Hep → Prop
  ct : Env → Hep → Prop
abbrev XE' := Exv → Env → Hep → Prop
abbrev WS := Env → Hep → KD → XE' → Prop
def setMany : List Nat → List Val → Env → Option Env
  | [], [], env => some env
  | i :: is, v :: vs, env => setMany is vs (env.set i (some v))
  | _, _, _ => none
def opSet (o i v : Val) (h : Hep) (Q : Hep → Prop) : Prop := match o, i with
  | .ref a, .int k => onL h a fun xs => (match ixN xs.length k with
    | some j => Q (hset h a (.lst (xs.set j v)))
    | none => False)
  | _, _ => False
def forW (body : WS) (bind : Val → Env → Option Env) (pins : List (Addr × List Val)) (D : KD) (E : XE') : List Val → Env → Hep → Prop
  | [], env, h => pinOk h pins ∧ D.nx env h
  | x :: xs, env, h => pinOk h pins ∧ onO (bind x env) fun env' => body env' h { D with nx := fun e1 h1 => forW body bind pins D E xs e1 h1, ct := fun e1 h1 => forW body bind pins D E xs e1 h1, bk := D.nx } E
section
variable (C : CalT)
mutual
def wS : Sx → WS
  | .bad => fun _ _ _ _ => False
  | .pass => fun env h D _ => D.nx env h
  | .expr e => fun env h D E => wE C e env h (fun _ h1 => D.nx env h1) (fun x h1 => E x env h1)
  | .ret e => fun env h D E => wE C e env h D.rt (fun x h1 => E x env h1)
  | .retN => fun _ h D _ => D.rt .non h
  | .asg tg e => fun env h D E => wE C e env h (fun v h1 => onO (bindT tg v env) fun env' => D.nx env' h1) (fun x h1 => E x env h1)
  | .par is es => fun env h D E => wA C es env h (fun vs h1 => onO (setMany is vs env) fun env' => D.nx env' h1) (fun x h1 => E x env h1)
  | .setix o i e => fun env h D E => wE C e env h (fun v h1 => wE C o env h1 (fun x h2 => wE C i env h2 (fun y h3 => opSet x y v h3 fun h4 => D.nx env h4) (fun x h1 => E x env h1)) (fun x h1 => E x env h1)) (fun x h1 => E x env h1)
  | .ife c a b => fun env h D E => wT C c env h (fun t h1 => if t = true then wSs a env h1 D E else wSs b env h1 D E) (fun x h1 => E x env h1)
  | .whil c b => fun env h D E => ∃ I : Nat → Env → Hep → Prop, (∃ m, I m env h) ∧ ∀ m env h, I m env h →
      wT C c env h (fun t h1 => if t = true then wSs b env h1 { D with nx := fun e2 h2 => ∃ m', m' < m ∧ I m' e2 h2, ct := fun e2 h2 => ∃ m', m' < m ∧ I m' e2 h2, bk := D.nx } E else D.nx env h1) (fun x h1 => E x env h1)
  | .forr tg it b => fun env h D E => wI C it env h (fun src h1 => forW (wSs b) (bindT tg) src.pins D E src.vals env h1) (fun x h1 => E x env h1)
  | .brk => fun env h D _ => D.bk env h
  | .cont => fun env h D _ => D.ct env h
  | .rais c f e => fun env h D E => wE C e env h (fun v h1 => E ⟨c, [(f, v)]⟩ env h1) (fun x h1 => E x env h1)
  | .rai0 c => fun env h _ E => E ⟨c, []⟩ env h
def wSs : Sxs → WS
  | .nil => fun env h D _ => D.nx env h
  | .cons s r => fun env h D E => wS s env h { D with nx := fun e1 h1 => wSs r e1 h1 D E } E
end
end
/-! ### defs -/
structure Fc where
  params : Nat
  slots : Nat
  body : Sxs
def startE (n : Nat) (vs : List Val) : Env := vs.map some ++ List.replicate (n - vs.length) none
/-- a smaller view -/
def Sub (h h' : Hep) : Prop := ∀ a o, h a = some o → h' a = some o
theorem Sub.refl (h : Hep) : Sub h h := fun _ _ e => e
theorem Sub.trans {h h1 h2 : Hep} (x : Sub h h1) (y : Sub h1 h2) : Sub h h2 := fun a o e => y a o (x a o e)
/-- what isn't wanted any more is let go from the view -/
def Dr (h1 : Hep) (P : Hep → Prop) : Prop := ∃ h', Sub h' h1 ∧ P h'
theorem Dr.here {h : Hep} {P : Hep → Prop} (p : P h) : Dr h P := ⟨h, Sub.refl h, p⟩
/-- what calls of the table's defs ask, so deep -/
def Calls0 (T : Str → Option Fc) : Nat → Str → List Val → Hep → VQ → XQ → Prop
  | 0 => fun _ _ _ _ _ => False
  | k + 1 => fun f vs h Q E => match T f with
    | some c => vs.length = c.params ∧ wSs (Calls0 T k) c.body (startE c.slots vs) h { nx := fun _ h1 => Dr h1 (Q .non), rt := fun v h1 => Dr h1 (Q v), bk := fun _ _ => False, ct := fun _ _ => False } (fun x _ h1 => Dr h1 (E x))
    | none => False
@[irreducible] def Calls (T : Str → Option Fc) (k : Nat) : CalT := Calls0 T k
theorem Calls_succ {T : Str → Option Fc} {k : Nat} {f : Str} {c : Fc} {vs : List Val} {h : Hep} {Q : VQ} {E : XQ} (e : T f = some c) :
    Calls T (k + 1) f vs h Q E = (vs.length = c.params ∧ wSs (Calls T k) c.body (startE c.slots vs) h { nx := fun _ h1 => Dr h1 (Q .non), rt := fun v h1 => Dr h1 (Q v), bk := fun _ _ => False, ct := fun _ _ => False } (fun x _ h1 => Dr h1 (E x))) := by
  unfold Calls
  show (match T f with
    | some c => _
    | none => _) = _
  rw [e]
theorem Calls_zero {T : Str → Option Fc} {f : Str} {vs : List Val} {h : Hep} {Q : VQ} {E : XQ} : ¬ Calls T 0 f vs h Q E := by
  unfold Calls
  exact fun z => z
/-- a call by the def's body -/
theorem Calls_eq {T : Str → Option Fc} {k : Nat} {f : Str} {c : Fc} {vs : List Val} {h : Hep} {Q : VQ} {E : XQ} (env : Env) (e : T f = some c) (hl : vs.length = c.params) (he : startE c.slots vs = env)
    (w : wSs (Calls T k) c.body env h { nx := fun _ h1 => Dr h1 (Q .non), rt := fun v h1 => Dr h1 (Q v), bk := fun _ _ => False, ct := fun _ _ => False } (fun x _ h1 => Dr h1 (E x))) : Calls T (k + 1) f vs h Q E := by
  rw [Calls_succ e]
  subst he
  exact ⟨hl, w⟩
theorem onL_in {h : Hep} {a : Addr} {P : List Val → Prop} {xs : List Val} (e : h a = some (.lst xs)) (p : P xs) : onL h a P := by rw [onL_of e]; exact p
theorem onD_in {h : Hep} {v : Val} {P : PyData → Prop} {d : PyData} (e : datN 20 h v = some d) (s : SeqAt.shaped d = true) (p : P d) : onD h v P := by
  unfold onD
  rw [e]
  exact ⟨s, p⟩
end KM
/-! KMC: that what is asked suffices: operators, built-ins. -/
namespace KM
open PySem PySem.Spec PyProof.Rows L2

theorem sm_line {n : Nat} (h : Sm n) : n < sizeLine := by
  rw [sizeLine_eq]; unfold Sm at h; omega
section
variable {K : PySem.W.Frag} {h : Hep} {H : Hp} {Q : VQ} {u : V} {xs : List Val}
theorem LQ.here (s : Sim K h H) {v : Val} (r : RV K H v u) (q : Q v h) : LQ K h H Q u H := ⟨v, h, Go.refl _ _, s, r, q⟩
theorem LQ.newL (s : Sim K h H) {us : List V} (r : RVs K H xs us) (q : newL h xs Q) {p : Addr} (n : H p = none) : LQ K h H Q (.ref p) (upd H p (.lst us)) :=
  ⟨.ref p, hset h p (.lst xs), go_new n, s.new n r, rfl, newL_at q p (s.free n)⟩
theorem LQ.tup (s : Sim K h H) {us : List V} (r : RVs K H xs us) (q : Q (.tup xs) h) {p : Addr} (n : H p = none) : LQ K h H Q (.ref p) (upd H p (.tup us)) :=
  ⟨.tup xs, h, go_hid n, s.hid n, RV.tupN s n r, q⟩
theorem LQ.set (s : Sim K h H) {us : List V} {p : Addr} {ob : Ob} {v : Val} (e : h p = some ob) (r : RVs K H xs us) (rv : RV K H v u) (q : Q v (hset h p (.lst xs))) : LQ K h H Q u (upd H p (.lst us)) :=
  have g := go_set (h := h) (H := H) (ob := .lst xs) (o := .lst us) e
  ⟨v, _, g, s.set e r, RV.go s g rv, q⟩
theorem Sim.lst (s : Sim K h H) {a : Addr} (e : h a = some (.lst xs)) : ∃ us, H a = some (.lst us) ∧ RVs K H xs us := s a _ e
/-- the items of a list or a tuple -/
theorem onI_elim (s : Sim K h H) {v : Val} (r : RV K H v u) {P : List Val → Prop} (x : onI h v P) : ∃ p xs us, u = .ref p ∧ (SqL K H p us ∨ SqT K H p us) ∧ RVs K H xs us ∧ P xs ∧ ((∃ ys, v = .tup ys) → SqT K H p us) ∧ ((¬ ∃ ys, v = .tup ys) → SqL K H p us) := by
  cases v with
  | tup xs =>
    obtain ⟨p, us, e, t, q⟩ := r
    exact ⟨p, xs, us, e, .inr t, q, x, fun _ => t, fun z => (z ⟨_, rfl⟩).elim⟩
  | rom xs =>
    obtain ⟨p, us, e, t, q⟩ := r
    exact ⟨p, xs, us, e, .inl t.sq, q, x, (fun ⟨_, z⟩ => by cases z), fun _ => t.sq⟩
  | ref a =>
    obtain ⟨xs, e, q⟩ := onL_elim x
    obtain ⟨us, e2, r2⟩ := s.lst e
    exact ⟨a, xs, us, r, .inl (SqL.of e2), r2, q, (fun ⟨_, z⟩ => by cases z), fun _ => SqL.of e2⟩
  | _ => exact x.elim
end

abbrev O2 := Val → Val → Hep → VQ → Prop
def rJ (X : Cx) (o : O2) : R2 := fun u v H Q' => ∃ x y h Q, Sim X.K h H ∧ RV X.K H x u ∧ RV X.K H y v ∧ o x y h Q ∧ ∀ u' H', LQ X.K h H Q u' H' → Q' u' H'
section
variable {X : Cx}
theorem fdivG : OpR X (binaryOp .FloorDiv) (rI (fun _ j => CDivG j) fun i j => .int (i.fdiv j)) := opI fun i j _ _ _ _ _ hc q =>
  floordiv_int hc.1 q (.inl (PyProof.noPylong_of_log2 hc.2))
theorem atI_get2 {α β : Type} {xs : List α} {ys : List β} (e : ys.length = xs.length) {i : Int} {v : α} (q : atI xs i = some v) : ∃ j : Nat, xs[j]? = some v ∧ ∀ w, ys[j]? = some w → atI ys i = some w := by
  unfold atI at q ⊢
  rw [e]
  cases z : ixN xs.length i with
  | none => rw [z] at q; cases q
  | some j =>
    rw [z] at q
    exact ⟨j, q, fun w hw => hw⟩
theorem opB_ok (op : Operator) : OpR X (binaryOp op) (rJ X (opB op)) := by
  intro pins s σ H u v ux vx Q' I ru rv ⟨x, y, h, Q, sm, rx, ry, o, k⟩
  unfold opB at o
  split at o
  · cases rx; cases ry
    exact op_add pins s σ H _ _ ux vx Q' I ru rv ⟨_, _, rfl, rfl, k _ _ (LQ.here (v := .int _) sm rfl o)⟩
  · cases rx; cases ry
    exact op_sub pins s σ H _ _ ux vx Q' I ru rv ⟨_, _, rfl, rfl, k _ _ (LQ.here (v := .int _) sm rfl o)⟩
  · cases rx; cases ry
    exact op_mulW pins s σ H _ _ ux vx Q' I ru rv ⟨_, _, rfl, rfl, o.1, k _ _ (LQ.here (v := .int _) sm rfl o.2)⟩
  · cases rx; cases ry
    exact fdivG pins s σ H _ _ ux vx Q' I ru rv ⟨_, _, rfl, rfl, o.1, k _ _ (LQ.here (v := .int _) sm rfl o.2)⟩
  · cases rx; cases ry
    exact op_modN pins s σ H _ _ ux vx Q' I ru rv ⟨_, _, rfl, rfl, o.1, k _ _ (LQ.here (v := .int _) sm rfl o.2)⟩
  · cases rx; cases ry
    exact op_pow pins s σ H _ _ ux vx Q' I ru rv ⟨_, _, rfl, rfl, o.1, k _ _ (LQ.here (v := .int _) sm rfl o.2)⟩
  · cases rx; cases ry
    exact op_add_str pins s σ H _ _ ux vx Q' I ru rv ⟨_, _, rfl, rfl, o.1, k _ _ (LQ.here (v := .str _) sm rfl o.2)⟩
  · obtain ⟨p, us, rfl, t, r⟩ := rx
    obtain ⟨p2, us2, rfl, t2, r2⟩ := ry
    obtain ⟨o1, o2, o3⟩ := o
    have l1 := r.length
    have l2 := r2.length
    have o4 := sm_line o2
    refine op_catT pins s σ H _ _ ux vx Q' I ru rv ⟨_, _, us, us2, rfl, rfl, t, t2, fun z => ?_, by rw [l1, l2]; omega, fun z => ?_, fun z a n => ?_⟩
    · rw [z] at l1
      exact o1 (List.eq_nil_of_length_eq_zero l1.symm)
    · rw [z] at l2
      have e := List.eq_nil_of_length_eq_zero l2.symm
      rw [e, List.append_nil] at o3
      exact k _ _ (LQ.here (v := .tup _) sm ⟨p, us, rfl, t, r⟩ o3)
    · exact k _ _ (LQ.tup sm (r.app r2) o3 n)
  · cases rx; cases ry
    obtain ⟨xs, e, o⟩ := onL_elim o
    obtain ⟨ys, e2, o1, o2⟩ := onL_elim o
    obtain ⟨us, f, r⟩ := sm.lst e
    obtain ⟨us2, f2, r2⟩ := sm.lst e2
    have l1 := r.length
    have l2 := r2.length
    have o4 := sm_line o1
    exact op_cat pins s σ H _ _ ux vx Q' I ru rv ⟨_, _, us, us2, rfl, rfl, f, f2, by rw [l1, l2]; omega, fun p n => k _ _ (LQ.newL sm (r.app r2) o2 n)⟩
  · cases rx; cases ry
    obtain ⟨xs, e, o1, o2, o3, o4⟩ := onL_elim o
    obtain ⟨us, f, r⟩ := sm.lst e
    have l1 := r.length
    have o5 := sm_line o3
    refine op_rep pins s σ H _ _ ux vx Q' I ru rv ⟨_, _, us, rfl, rfl, f, o1, o2, by rw [l1]; omega, fun p n => k _ _ (LQ.newL sm ?_ o4 n)⟩
    generalize Int.toNat _ = m
    induction m with
    | zero => exact RVs.nil
    | succ m ih =>
      rw [List.replicate_succ, List.replicate_succ, List.flatten_cons, List.flatten_cons]
      exact r.app ih
  · exact o.elim

/-! ### data -/
mutual
theorem dat_dp {K : PySem.W.Frag} {h : Hep} {H : Hp} (sm : Sim K h H) : ∀ (n : Nat) (v : Val) (u : V) (d : PyData), RV K H v u → datN n h v = some d → Dp K H u d
  | n, .non, u, d, r, e => by
    have r : u = .non := r
    subst r
    cases n <;> (simp only [datN] at e; cases e; exact .non)
  | n, .bl b, u, d, r, e => by
    have r : u = .bl b := r
    subst r
    cases n <;> (simp only [datN] at e; cases e; exact .bl b)
  | n, .int i, u, d, r, e => by
    have r : u = .int i := r
    subst r
    cases n <;> (simp only [datN] at e; cases e; exact .int i)
  | n, .str x, u, d, r, e => by
    have r : u = .str x := r
    subst r
    cases n <;> (simp only [datN] at e; cases e; exact .str x)
  | 0, .tup xs, u, d, r, e => by simp only [datN] at e; cases e
  | 0, .rom xs, u, d, r, e => by simp only [datN] at e; cases e
  | 0, .ref xs, u, d, r, e => by simp only [datN] at e; cases e
  | 0, .ty xs, u, d, r, e => by simp only [datN] at e; cases e
  | n + 1, .ty xs, u, d, r, e => by simp only [datN] at e; cases e
  | 0, .dct, u, d, r, e => by simp only [datN] at e; cases e
  | n + 1, .dct, u, d, r, e => by simp only [datN] at e; cases e
  | 0, .lam f, u, d, r, e => by simp only [datN] at e; cases e
  | n + 1, .lam f, u, d, r, e => by simp only [datN] at e; cases e
  | n + 1, .tup xs, u, d, ⟨p, us, e1, t, q⟩, e => by
    subst e1
    simp only [datN] at e
    cases z : xs.mapM (datN n h) with
    | none => rw [z] at e; cases e
    | some ds =>
      rw [z] at e
      cases e
      exact .tup t (dats_dp sm n xs us ds q z)
  | n + 1, .rom xs, u, d, ⟨p, us, e1, t, q⟩, e => by
    subst e1
    simp only [datN] at e
    cases z : xs.mapM (datN n h) with
    | none => rw [z] at e; cases e
    | some ds =>
      rw [z] at e
      cases e
      exact .lst t.sq (dats_dp sm n xs us ds q z)
  | n + 1, .ref a, u, d, r, e => by
    have r : u = .ref a := r
    subst r
    simp only [datN] at e
    split at e
    · rename_i xs hx
      obtain ⟨us, f, q⟩ := sm.lst hx
      cases z : xs.mapM (datN n h) with
      | none => rw [z] at e; cases e
      | some ds =>
        rw [z] at e
        cases e
        exact .lst (SqL.of f) (dats_dp sm n xs us ds q z)
    · cases e
  termination_by n v => (n, sizeOf v)
theorem dats_dp {K : PySem.W.Frag} {h : Hep} {H : Hp} (sm : Sim K h H) : ∀ (n : Nat) (xs : List Val) (us : List V) (ds : List PyData), RVs K H xs us → xs.mapM (datN n h) = some ds → DpAll K H us ds
  | n, [], us, ds, r, e => by
    have r : us = [] := r
    subst r
    simp at e
    subst e
    exact .nil
  | n, x :: xs, us, ds, ⟨u, us', e1, q, t⟩, e => by
    subst e1
    rw [List.mapM_cons] at e
    cases z : datN n h x with
    | none => rw [z] at e; cases e
    | some d =>
      rw [z] at e
      cases z2 : xs.mapM (datN n h) with
      | none => rw [z2] at e; cases e
      | some ds' =>
        rw [z2] at e
        cases e
        exact .cons (dat_dp sm n x u d q z) (dats_dp sm n xs us' ds' t z2)
  termination_by n xs => (n, sizeOf xs)
end
theorem onD_elim {K : PySem.W.Frag} {h : Hep} {H : Hp} (sm : Sim K h H) {v : Val} {u : V} (r : RV K H v u) {P : PyData → Prop} (x : onD h v P) : ∃ d, SeqAt.shaped d = true ∧ Dp K H u d ∧ P d := by
  unfold onD at x
  split at x
  · rename_i d e
    exact ⟨d, x.1, dat_dp sm _ _ _ _ r e, x.2⟩
  · exact x.elim

def rJC (X : Cx) (o : Val → Val → Hep → (Bool → Prop) → Prop) : R2 := fun u v H Q' => ∃ (x y : Val) (h : Hep) (P : Bool → Prop), Sim X.K h H ∧ RV X.K H x u ∧ RV X.K H y v ∧ o x y h P ∧ ∀ b, P b → Q' (.bl b) H
theorem V.bl_dec {i j : Bool} : decide (V.bl i = V.bl j) = decide (i = j) := by cases i <;> cases j <;> rfl
theorem opC_ok (hu : X.A.units + 65 < cLine) (op : CmpOp) : OpR X (compareOp op) (rJC X (opC op)) := by
  intro pins s σ H u v ux vx Q' I ru rv ⟨x, y, h, P, sm, rx, ry, o, k⟩
  unfold opC at o
  split at o
  · cases rx; cases ry
    exact op_lt pins s σ H _ _ ux vx Q' I ru rv ⟨_, _, rfl, rfl, k _ o⟩
  · cases rx; cases ry
    exact op_le pins s σ H _ _ ux vx Q' I ru rv ⟨_, _, rfl, rfl, k _ o⟩
  · cases rx; cases ry
    exact op_gt pins s σ H _ _ ux vx Q' I ru rv ⟨_, _, rfl, rfl, k _ o⟩
  · cases rx; cases ry
    exact op_ge pins s σ H _ _ ux vx Q' I ru rv ⟨_, _, rfl, rfl, k _ o⟩
  · cases rx; cases ry
    refine op_eq pins s σ H _ _ ux vx Q' I ru rv ⟨rfl, ?_⟩
    rw [dec_int, Bool.beq_eq_decide_eq]
    exact k _ o
  · cases rx; cases ry
    refine op_ne pins s σ H _ _ ux vx Q' I ru rv ⟨rfl, ?_⟩
    rw [dec_int, Bool.beq_eq_decide_eq]
    exact k _ o
  · cases rx; cases ry
    refine op_eq pins s σ H _ _ ux vx Q' I ru rv ⟨rfl, ?_⟩
    rw [V.bl_dec]
    exact k _ o
  · cases rx; cases ry
    refine op_ne pins s σ H _ _ ux vx Q' I ru rv ⟨rfl, ?_⟩
    rw [V.bl_dec]
    exact k _ o
  · cases rx; cases ry
    refine op_eq pins s σ H _ _ ux vx Q' I ru rv ⟨rfl, ?_⟩
    rw [dec_str, Bool.beq_eq_decide_eq]
    exact k _ o
  · cases rx; cases ry
    refine op_ne pins s σ H _ _ ux vx Q' I ru rv ⟨rfl, ?_⟩
    rw [dec_str, Bool.beq_eq_decide_eq]
    exact k _ o
  · cases ry
    refine op_isN pins s σ H _ _ ux vx Q' I ru rv ⟨rfl, ?_⟩
    have e : decide (u = .non) = isNon x := by
      cases x <;> first | (cases rx; rfl) | (obtain ⟨p, us, e, _⟩ := rx; subst e; rfl) | (obtain ⟨p, e, _⟩ := rx; subst e; rfl)
    rw [e]
    exact k _ o
  · cases ry
    refine op_notN pins s σ H _ _ ux vx Q' I ru rv ⟨rfl, ?_⟩
    have e : (!decide (u = .non)) = !isNon x := by
      cases x <;> first | (cases rx; rfl) | (obtain ⟨p, us, e, _⟩ := rx; subst e; rfl) | (obtain ⟨p, e, _⟩ := rx; subst e; rfl)
    rw [e]
    exact k _ o
  · obtain ⟨d, h1, h2, o⟩ := onD_elim sm rx o
    obtain ⟨e, h3, h4, o⟩ := onD_elim sm ry o
    exact op_eqD (by omega) pins s σ H _ _ ux vx Q' I ru rv ⟨d, e, h2, h4, h1, h3, k _ o⟩
  · obtain ⟨d, h1, h2, o⟩ := onD_elim sm rx o
    obtain ⟨e, h3, h4, o⟩ := onD_elim sm ry o
    exact op_neD (by omega) pins s σ H _ _ ux vx Q' I ru rv ⟨d, e, h2, h4, h1, h3, k _ o⟩
  · obtain ⟨d, h1, h2, o⟩ := onD_elim sm rx o
    obtain ⟨e, h3, h4, o⟩ := onD_elim sm ry o
    cases e with
    | list ds => exact op_inD hu pins s σ H _ _ ux vx Q' I ru rv ⟨d, ds, h2, h4, h1, h3, k _ o⟩
    | _ => exact o.elim
  · obtain ⟨d, h1, h2, o⟩ := onD_elim sm rx o
    obtain ⟨e, h3, h4, o⟩ := onD_elim sm ry o
    cases e with
    | list ds => exact op_notInD hu pins s σ H _ _ ux vx Q' I ru rv ⟨d, ds, h2, h4, h1, h3, k _ o⟩
    | _ => exact o.elim
  · exact o.elim

/-! ### isinstance -/
theorem isSub_ok {K : PySem.W.Frag} {t n : String} (ht : isKnown t = true) (hn : isKnown n = true) : PySem.W.kitOne K (.type t) (.type n) = some (isSub t n) := by
  refine kit_ty ?_
  unfold isKnown at ht hn
  simp only [Bool.or_eq_true, beq_iff_eq] at ht hn
  rcases ht with (((((rfl | rfl) | rfl) | rfl) | rfl) | rfl) | rfl <;> rcases hn with (((((rfl | rfl) | rfl) | rfl) | rfl) | rfl) | rfl <;> decide +kernel
theorem tyOf_known {h : Hep} {v : Val} {t : String} (e : tyOf h v = some t) : isKnown t = true := by
  cases v with
  | ref a =>
    simp only [tyOf] at e
    split at e
    · cases e; decide
    · cases e
  | _ => simp only [tyOf] at e <;> cases e <;> decide
theorem tyOf_ok {K : PySem.W.Frag} {h : Hep} {H : Hp} (sm : Sim K h H) {v : Val} {u : V} (r : RV K H v u) {t : String} (e : tyOf h v = some t) : TyX K H u (.type t) := by
  cases v with
  | non => cases r; cases e; exact .base .non
  | bl b => cases r; cases e; exact .base (.bl b)
  | int b => cases r; cases e; exact .base (.int b)
  | str b => cases r; cases e; exact .base (.str b)
  | ty n => cases e
  | lam n => cases e
  | dct =>
    obtain ⟨p, rfl, q⟩ := r
    cases e
    exact .base (.dK q)
  | tup xs =>
    obtain ⟨p, us, rfl, q, _⟩ := r
    cases e
    rcases q with (q | ⟨o, q⟩) | ⟨o, its, n, q1, q2, q3⟩
    · exact .base (.tup q)
    · exact .fTuple q
    · exact .kTuple q1 q2
  | rom xs =>
    obtain ⟨p, us, rfl, q, _⟩ := r
    cases e
    rcases q with ⟨o, q⟩ | ⟨o, its, n, q1, q2, q3⟩
    · exact .base (.frz q)
    · exact .kList q1 q2
  | ref a =>
    cases r
    simp only [tyOf] at e
    split at e
    · rename_i xs hx
      obtain ⟨us, f, _⟩ := sm.lst hx
      cases e
      exact .base (.lst f)
    · cases e
theorem isAny_ok {K : PySem.W.Frag} {H : Hp} {t : String} (ht : isKnown t = true) : ∀ {cs : List Val} {us : List V} {b : Bool}, isAny t cs = some b → RVs K H cs us → ∃ ws, Paired ClsV us ws ∧ PySem.W.kitAny K (.type t) ws = some b
  | [], us, b, e, r => by
    have r : us = [] := r
    subst r
    cases e
    exact ⟨[], .nil, kitAny_nil⟩
  | .ty n :: cs, us, b, e, ⟨u, us', e1, q, r⟩ => by
    subst e1
    have q : u = .ty n := q
    subst q
    simp only [isAny] at e
    split at e
    · rename_i b' hb
      split at e
      · rename_i hn
        cases e
        obtain ⟨ws, h1, h2⟩ := isAny_ok ht hb r
        refine ⟨.type n :: ws, .cons (.ty n) h1, kitAny_cons (isSub_ok ht hn) (fun z => by rw [z]; exact h2) fun z => by rw [z]; rfl⟩
      · cases e
    · cases e
  | .non :: _, _, _, e, _ => by cases e
  | .bl _ :: _, _, _, e, _ => by cases e
  | .int _ :: _, _, _, e, _ => by cases e
  | .str _ :: _, _, _, e, _ => by cases e
  | .tup _ :: _, _, _, e, _ => by cases e
  | .rom _ :: _, _, _, e, _ => by cases e
  | .ref _ :: _, _, _, e, _ => by cases e
end
end KM
/-! KMD: that what is asked suffices: calls of built-ins, methods, places. -/
namespace KM
open PySem PySem.Spec PyProof.Rows L2

def Bi.val : Bi → Value
  | .len => .builtin "len"
  | .abs => .builtin "abs"
  | .int => .type "int"
  | .all => .builtin "all"
  | .any => .builtin "any"
  | .sum => .builtin "sum"
  | .isi => .builtin "isinstance"
  | .tuple => .type "tuple"
  | .list => .type "list"
theorem blsOf_eq : ∀ {xs : List Val} {bs : List Bool}, blsOf xs = some bs → xs = bs.map Val.bl
  | [], _, e => by cases e; rfl
  | .bl b :: r, bs, e => by
    simp only [blsOf] at e
    cases z : blsOf r with
    | none => rw [z] at e; cases e
    | some cs =>
      rw [z] at e
      cases e
      rw [blsOf_eq z]
      rfl
  | .non :: _, _, e => by cases e
  | .int _ :: _, _, e => by cases e
  | .str _ :: _, _, e => by cases e
  | .tup _ :: _, _, e => by cases e
  | .rom _ :: _, _, e => by cases e
  | .ref _ :: _, _, e => by cases e
  | .ty _ :: _, _, e => by cases e
theorem intsOf_eq : ∀ {xs : List Val} {bs : List Int}, intsOf xs = some bs → xs = bs.map Val.int
  | [], _, e => by cases e; rfl
  | .int b :: r, bs, e => by
    simp only [intsOf] at e
    cases z : intsOf r with
    | none => rw [z] at e; cases e
    | some cs =>
      rw [z] at e
      cases e
      rw [intsOf_eq z]
      rfl
  | .non :: _, _, e => by cases e
  | .bl _ :: _, _, e => by cases e
  | .str _ :: _, _, e => by cases e
  | .tup _ :: _, _, e => by cases e
  | .rom _ :: _, _, e => by cases e
  | .ref _ :: _, _, e => by cases e
  | .ty _ :: _, _, e => by cases e
def rJF (X : Cx) (o : List Val → Hep → VQ → Prop) : List V → Hp → VK → Prop := fun us H Q' => ∃ vs h Q, Sim X.K h H ∧ RVs X.K H vs us ∧ o vs h Q ∧ ∀ u' H', LQ X.K h H Q u' H' → Q' u' H'
section
variable {X : Cx}
theorem RVs.one {K : PySem.W.Frag} {H : Hp} {v : Val} {us : List V} (r : RVs K H [v] us) : ∃ u, us = [u] ∧ RV K H v u := by
  obtain ⟨u, r, e, q, t⟩ := r
  have t : r = [] := t
  subst t
  exact ⟨u, e, q⟩
theorem RVs.two {K : PySem.W.Frag} {H : Hp} {v w : Val} {us : List V} (r : RVs K H [v, w] us) : ∃ u z, us = [u, z] ∧ RV K H v u ∧ RV K H w z := by
  obtain ⟨u, r, e, q, t⟩ := r
  obtain ⟨z, rfl, t1⟩ := RVs.one t
  exact ⟨u, z, e, q, t1⟩
theorem opF_ok (hc : X.calm = true) (f : Bi) : CallR X f.val (rJF X (opF f)) := by
  intro pins s σ H us ws Q' I ru ⟨vs, h, Q, sm, r, o, k⟩
  unfold opF at o
  split at o
  · obtain ⟨u, rfl, r1⟩ := RVs.one r
    obtain ⟨p, xs, us, rfl, t, r2, o, _, _⟩ := onI_elim sm r1 (onJ_out o)
    have e : (us.length : Int) = xs.length := by rw [r2.length]
    refine call_len_seq pins s σ H _ ws Q' I ru ⟨p, us, rfl, t, ?_⟩
    rw [e]
    exact k _ _ (LQ.here (v := .int _) sm rfl o)
  · obtain ⟨u, rfl, r1⟩ := RVs.one r
    cases r1
    exact call_abs pins s σ H _ ws Q' I ru ⟨_, rfl, k _ _ (LQ.here (v := .int _) sm rfl o)⟩
  · obtain ⟨u, rfl, r1⟩ := RVs.one r
    cases r1
    exact call_int1 pins s σ H _ ws Q' I ru (.inl ⟨_, rfl, k _ _ (LQ.here (v := .int _) sm rfl o)⟩)
  · obtain ⟨u, rfl, r1⟩ := RVs.one r
    cases r1
    exact call_int1 pins s σ H _ ws Q' I ru (.inr ⟨_, rfl, k _ _ (LQ.here (v := .int _) sm rfl o)⟩)
  · obtain ⟨u, rfl, r1⟩ := RVs.one r
    cases r1
    obtain ⟨bs, e, o⟩ := onB_out o
    obtain ⟨us, f, r2⟩ := sm.lst e
    have e2 := RVs.bls r2
    subst e2
    exact cr_all hc pins s σ H _ ws Q' I ru ⟨_, bs, rfl, SqL.of f, k _ _ (LQ.here (v := .bl _) sm rfl o)⟩
  · obtain ⟨u, rfl, r1⟩ := RVs.one r
    cases r1
    obtain ⟨bs, e, o⟩ := onB_out o
    obtain ⟨us, f, r2⟩ := sm.lst e
    have e2 := RVs.bls r2
    subst e2
    exact cr_any hc pins s σ H _ ws Q' I ru ⟨_, bs, rfl, SqL.of f, k _ _ (LQ.here (v := .bl _) sm rfl o)⟩
  · obtain ⟨u, rfl, r1⟩ := RVs.one r
    cases r1
    obtain ⟨bs, e, o⟩ := onZ_out o
    obtain ⟨us, f, r2⟩ := sm.lst e
    have e2 := RVs.ints r2
    subst e2
    exact cr_sum hc pins s σ H _ ws Q' I ru ⟨_, bs, rfl, SqL.of f, k _ _ (LQ.here (v := .int _) sm rfl o)⟩
  · obtain ⟨u, w, rfl, r1, r2⟩ := RVs.two r
    unfold opIsi at o
    split at o
    · rename_i t n ht
      obtain ⟨hn, o⟩ := o
      have r2 : w = .ty n := r2
      subst r2
      exact call_isi pins s σ H _ ws Q' I ru ⟨u, _, _, _, _, rfl, .ty n, tyOf_ok sm r1 ht, isSub_ok (tyOf_known ht) hn, k _ _ (LQ.here (v := .bl _) sm rfl o)⟩
    · rename_i t cs ht
      obtain ⟨p, us, rfl, t2, q⟩ := r2
      split at o
      · rename_i b hb
        have ofin := o
        obtain ⟨zs, h1, h2⟩ := isAny_ok (tyOf_known ht) hb q
        rcases t2 with (t2 | ⟨o', t2⟩) | ⟨o', its, n, q1, q2, q3, q4, q5⟩
        · exact call_isiT pins s σ H _ ws Q' I ru ⟨u, p, us, _, zs, b, rfl, t2, h1, tyOf_ok sm r1 ht, h2, k _ _ (LQ.here (v := .bl _) sm rfl o)⟩
        · -- a frozen tuple of classes
          obtain ⟨u1, u2, rfl, x1, x2⟩ := vals2 ru
          cases (show u2 = Value.ref p from x2)
          obtain ⟨P, Z, p2, hx⟩ := kit_of I x1 (tyOf_ok sm r1 ht)
          obtain ⟨_, _, its, rv, o, h1', h2', n, h3'⟩ := (show ObjOk X.prog X.w H s.heap p (.frz o' (.tup us)) from I.hok p _ t2)
          have e3 := ClsV.all h1 rv
          subst e3
          obtain ⟨oc, od, dt, sl⟩ := o
          simp only at h2' h3'
          subst h2' h3'
          exact PySem.W.kia_tup Z I.kIn p2 h1' h2 hx fun tk => ⟨.bl b, H, I.tok tk, rfl, k _ _ (LQ.here (v := .bl _) sm rfl ofin)⟩
        · have e3 := ClsV.all h1 q5
          obtain ⟨oc, od, dt, sl⟩ := o'
          simp only at q2 q3
          subst q2 q3
          refine call_isiK pins s σ H _ ws Q' I ru ⟨u, p, od, zs, n, sl, _, b, rfl, ?_, tyOf_ok sm r1 ht, h2, k _ _ (LQ.here (v := .bl _) sm rfl o)⟩
          rw [← e3]
          exact q1
      · exact o.elim
    · exact o.elim
  · obtain ⟨u, rfl, r1⟩ := RVs.one r
    by_cases z : ∃ ys, (‹Val› : Val) = .tup ys
    · obtain ⟨ys, rfl⟩ := z
      obtain ⟨p, us, rfl, t, q⟩ := id r1
      exact call_tuple_of pins s σ H _ ws Q' I ru ⟨p, us, rfl, .inr ⟨t, k _ _ (LQ.here (v := .tup _) sm r1 (onJ_out o))⟩⟩
    · obtain ⟨p, xs, us, rfl, t, r2, o, _, t2⟩ := onI_elim sm r1 (onJ_out o)
      exact call_tuple_of pins s σ H _ ws Q' I ru ⟨p, us, rfl, .inl ⟨t2 z, fun l n => k _ _ (LQ.tup sm r2 o n)⟩⟩
  · obtain ⟨u, rfl, r1⟩ := RVs.one r
    obtain ⟨p, xs, us, rfl, t, r2, o, _, _⟩ := onI_elim sm r1 (onJ_out o)
    exact call_list_of pins s σ H _ ws Q' I ru ⟨p, us, rfl, t, fun l n => k _ _ (LQ.newL sm r2 o n)⟩
  · exact o.elim

/-! ### methods -/
def rJM (X : Cx) (o : Val → List Val → Hep → VQ → Prop) : V → List V → Hp → VK → Prop := fun u us H Q' => ∃ v vs h Q, Sim X.K h H ∧ RV X.K H v u ∧ RVs X.K H vs us ∧ o v vs h Q ∧ ∀ u' H', LQ X.K h H Q u' H' → Q' u' H'
def Mt.id : Mt → String
  | .append => "list.append"
  | .pop => "list.pop"
  | .extend => "list.extend"
theorem RVs.dropLast {K : PySem.W.Frag} {H : Hp} {vs : List Val} {us : List V} (r : RVs K H vs us) : RVs K H vs.dropLast us.dropLast := by
  rw [List.dropLast_eq_take, List.dropLast_eq_take, r.length]
  exact r.take _
theorem opM_ok (m : Mt) : MtR X m.id (rJM X (opM m)) := by
  intro pins s σ H u us v ws Q' I ru rs ⟨x, vs, h, Q, sm, rx, r, o, k⟩
  unfold opM at o
  split at o
  · cases rx
    obtain ⟨w, rfl, r1⟩ := RVs.one r
    obtain ⟨xs, e, o1, o⟩ := onL_elim o
    obtain ⟨us, f, t⟩ := sm.lst e
    refine mt_append pins s σ H _ _ v ws Q' I ru rs ⟨_, us, w, rfl, rfl, f, by rw [t.length]; exact sm_line o1, k _ _ (LQ.set (v := .non) sm e (t.app (RVs.cons r1 RVs.nil)) rfl o)⟩
  · cases rx
    obtain ⟨w, rfl, r1⟩ := RVs.one r
    cases r1
    obtain ⟨xs, e, o⟩ := onL_elim o
    obtain ⟨ys, e2, o1, o⟩ := onL_elim o
    obtain ⟨us, f, t⟩ := sm.lst e
    obtain ⟨us2, f2, t2⟩ := sm.lst e2
    have o3 := sm_line o1
    refine mt_extend pins s σ H _ _ v ws Q' I ru rs ⟨_, _, us, us2, rfl, rfl, f, f2, by rw [t.length, t2.length]; omega, k _ _ (LQ.set (v := .non) sm e (t.app t2) rfl o)⟩
  · cases rx
    have r : us = [] := r
    subst r
    obtain ⟨xs, e, o⟩ := onL_elim o
    obtain ⟨us, f, t⟩ := sm.lst e
    split at o
    · rename_i w hw
      rw [List.getLast?_eq_getElem?] at hw
      obtain ⟨y, h1, h2⟩ := t.get hw
      rw [← t.length] at h1
      exact mt_pop pins s σ H _ _ v ws Q' I ru rs ⟨_, us, y, rfl, rfl, f, h1, k _ _ (LQ.set sm e t.dropLast h2 o)⟩
    · exact o.elim
  · cases rx
    obtain ⟨w, rfl, r1⟩ := RVs.one r
    cases r1
    obtain ⟨xs, e, o1, o⟩ := onL_elim o
    obtain ⟨us, f, t⟩ := sm.lst e
    subst o1
    cases xs with
    | nil => exact o.elim
    | cons y ys =>
      obtain ⟨u0, us', rfl, q, t'⟩ := t
      refine mt_popAt pins s σ H _ _ v ws Q' I ru rs ⟨_, u0 :: us', 0, 0, u0, rfl, rfl, f, by decide, by decide, ?_, rfl, k _ _ (LQ.set sm e t' q o)⟩
      simp [seqIndex?]
  · exact o.elim

/-! ### places -/
def rJI (X : Cx) (o : Val → Val → Hep → (Val → Prop) → Prop) : R2 := fun u v H Q' => ∃ (x y : Val) (h : Hep) (P : Val → Prop), Sim X.K h H ∧ RV X.K H x u ∧ RV X.K H y v ∧ o x y h P ∧ ∀ w z, RV X.K H w z → P w → Q' z H
theorem opIx_ok : IxR X (rJI X opIx) := by
  intro value slice pins s σ H u v ux vx Q' I ru rv ⟨x, y, h, P, sm, rx, ry, o, k⟩ hs
  unfold opIx at o
  split at o
  · cases ry
    obtain ⟨p, xs, us, rfl, t, r, o, _, _⟩ := onI_elim sm rx o
    split at o
    · rename_i w hw
      obtain ⟨j, h1, h2⟩ := atI_get2 r.length hw
      obtain ⟨z, h3, h4⟩ := r.get h1
      rcases t with t | t
      · exact ix_list value slice pins s σ H _ _ ux vx Q' I ru rv ⟨p, us, _, z, rfl, rfl, t, h2 z h3, k w z h4 o⟩ hs
      · exact ix_tup value slice pins s σ H _ _ ux vx Q' I ru rv ⟨p, us, _, z, rfl, rfl, t, h2 z h3, k w z h4 o⟩ hs
    · exact o.elim
  · exact o.elim
def rJSl (X : Cx) : V → Option Int → Option Int → Hp → VK → Prop := fun u lo hi H Q' => ∃ (x : Val) (h : Hep) (Q : VQ), Sim X.K h H ∧ RV X.K H x u ∧ opSl x lo hi h Q ∧ ∀ u' H', LQ X.K h H Q u' H' → Q' u' H'
theorem cut_rel {K : PySem.W.Frag} {H : Hp} {xs : List Val} {us : List V} (r : RVs K H xs us) (lo hi : Option Int) : RVs K H (cutL xs lo hi) (cutV us lo hi) := by
  unfold cutL cutV
  rw [r.length]
  exact (r.drop _).take _
theorem opSl_ok : SlR X (rJSl X) := by
  intro pins s σ H u v vl vu lo hi sl Q' I ru hs pl pu ⟨x, h, Q, sm, rx, o, k⟩
  unfold opSl at o
  split at o
  · obtain ⟨p, us, rfl, t, r⟩ := rx
    exact sl_tup pins s σ H _ v vl vu lo hi sl Q' I ru hs pl pu ⟨p, us, rfl, t, by rw [r.length]; exact o.1, fun q n => k _ _ (LQ.tup sm (cut_rel r lo hi) o.2 n)⟩
  · obtain ⟨p, us, rfl, t, r⟩ := rx
    exact sl_list pins s σ H _ v vl vu lo hi sl Q' I ru hs pl pu ⟨p, us, rfl, t.sq, fun q n => k _ _ (LQ.newL sm (cut_rel r lo hi) o n)⟩
  · cases rx
    obtain ⟨xs, e, o⟩ := onL_elim o
    obtain ⟨us, f, t⟩ := sm.lst e
    exact sl_list pins s σ H _ v vl vu lo hi sl Q' I ru hs pl pu ⟨_, us, rfl, SqL.of f, fun q n => k _ _ (LQ.newL sm (cut_rel t lo hi) o n)⟩
  · exact o.elim
def LH (K : PySem.W.Frag) (h : Hep) (H : Hp) (Q : Hep → Prop) (H' : Hp) : Prop := ∃ h', Go h H h' H' ∧ Sim K h' H' ∧ Q h'
def rJSet (X : Cx) : TSet := fun u v w H Q' => ∃ (o i x : Val) (h : Hep) (Q : Hep → Prop), Sim X.K h H ∧ RV X.K H o u ∧ RV X.K H i v ∧ RV X.K H x w ∧ opSet o i x h Q ∧ ∀ H', LH X.K h H Q H' → Q' H'
theorem opSet_ok : PSet X (rJSet X) := by
  intro pins s σ H u v w ou iv xu Q' I r1 r2 r3 ⟨o, i, x, h, Q, sm, q1, q2, q3, op, k⟩
  unfold opSet at op
  split at op
  · cases q1; cases q2
    obtain ⟨xs, e, op⟩ := onL_elim op
    obtain ⟨us, f, t⟩ := sm.lst e
    split at op
    · rename_i j hj
      refine set_list pins s σ H _ _ w ou iv xu Q' I r1 r2 r3 ⟨_, us, _, j, rfl, rfl, f, by rw [t.length]; exact hj, k _ ⟨_, go_set e, sm.set e (t.set q3 j), op⟩⟩
    · exact op.elim
  · exact op.elim
theorem truthOf_ok {K : PySem.W.Frag} {h : Hep} {H : Hp} (sm : Sim K h H) {v : Val} {u : V} (r : RV K H v u) {b : Bool} (e : truthOf h v = some b) : TruV K u H b := by
  have emp : ∀ {xs : List Val} {us : List V}, RVs K H xs us → (!xs.isEmpty) = !us.isEmpty := fun {xs us} r => by
    have l := r.length
    cases xs <;> cases us <;> simp at l <;> rfl
  cases v with
  | non => cases r; cases e; rfl
  | bl b => cases r; cases e; rfl
  | int i => cases r; cases e; rfl
  | str x => cases e
  | ty n => cases e
  | lam n => cases e
  | dct => cases e
  | tup xs =>
    obtain ⟨p, us, rfl, t, r⟩ := r
    cases e
    exact .inr (.inl ⟨us, t, emp r⟩)
  | rom xs =>
    obtain ⟨p, us, rfl, t, r⟩ := r
    cases e
    exact .inl ⟨us, t.sq, emp r⟩
  | ref a =>
    cases r
    simp only [truthOf] at e
    split at e
    · rename_i xs hx
      obtain ⟨us, f, t⟩ := sm.lst hx
      cases e
      exact .inl ⟨us, SqL.of f, emp t⟩
    · cases e
theorem onT_elim {K : PySem.W.Frag} {h : Hep} {H : Hp} (sm : Sim K h H) {v : Val} {u : V} (r : RV K H v u) {P : Bool → Prop} (x : onT h v P) : ∃ b, TruV K u H b ∧ truthOf h v = some b ∧ P b := by
  unfold onT at x
  split at x
  · rename_i b e
    exact ⟨b, truthOf_ok sm r e, e, x⟩
  · exact x.elim
end
end KM
/-! KMF: that what is asked suffices: expressions. -/
namespace KM
open PySem PySem.Spec PyProof.Rows L2

/-- the reading of a def by the table's own word about it -/
def spC (K : PySem.W.Frag) (mg : Str → Option Value) (C : CalT) (f : Str) : Sp := fun us H Q' E' =>
  ∃ vs h Q E, Sim K h H ∧ RVs K H vs us ∧ C f vs h Q E ∧ (∀ u H', LQ K h H Q u H' → Q' u H') ∧ ∀ cls d H', LX K mg h H E cls d H' → E' cls d H'
def FOk' (P : Program) (w : World) (K : PySem.W.Frag) (mg : Str → Option Value) (base : Heap) (C : CalT) (k : Nat) (f : Str) : Prop :=
  ∃ a fd ps, mg f = some (.ref a) ∧ PySem.W.keepIn K (.ref a) = true ∧ FnOk P w K mg base (CX P w) k a fd ps (spC K mg C f) ∧ Binds K fd ps []
abbrev FOk (X : Cx) (C : CalT) (k : Nat) (f : Str) : Prop := FOk' X.prog X.w X.K X.mg X.base C k f

section
variable {X : Cx} {C : CalT} {pos : Pos}
theorem PE.of (e : Expr) (w : WE) (h : ∀ pins s σ H env h Q E (Q' : VK), Inv X pins σ H s → Tk X σ h H E → Sim X.K h H → RVo X.K H env σ → w env h Q E → (∀ u H', LQ X.K h H Q u H' → Q' u H') → wpAny (model X.prog X.w) X.A (eval e X.env) (EP X pins σ Q') X.xe s) : JE X e w :=
  ⟨fun pins s σ H Q' I ⟨env, h0, Q, E, tk, sm, rv, q, k⟩ => h pins s σ H env h0 Q E Q' I tk sm rv q k⟩
/-- a first part, then the rest: what the first part's reading needs -/
theorem JE.first {e : Expr} {w : WE} (j : JE X e w) {pins : List (Addr × Obj)} {s : Shared} {σ : L2.St} {H : Hp} {env : Env} {h : Hep} {Q : VQ} {E : XQ} {R : Value → Shared → Prop}
    (I : Inv X pins σ H s) (tk : Tk X σ h H E) (sm : Sim X.K h H) (rv : RVo X.K H env σ) (q : w env h Q E)
    (k : ∀ u s1 v uv h1 H1, Inv X pins σ H1 s1 → RelV uv u → Go h H h1 H1 → Sim X.K h1 H1 → RV X.K H1 v uv → Q v h1 → R u s1) :
    wpAny (model X.prog X.w) X.A (eval e X.env) R X.xe s :=
  thn (PE.run j pins s σ H (fun u H' => LQ X.K h H Q u H') I ⟨env, h, Q, E, tk, sm, rv, q, fun _ _ z => z⟩) fun u s1 ⟨uv, H1, I1, r1, v, h1, g1, s2, r2, q2⟩ => k u s1 v uv h1 H1 I1 r1 g1 s2 r2 q2

theorem je_bad {e : Expr} : JE X e (fun _ _ _ _ => False) := PE.of _ _ fun _ _ _ _ _ _ _ _ _ _ _ _ _ q _ => q.elim
theorem jt_bad {e : Expr} : JT X e (fun _ _ _ _ => False) := ⟨fun _ _ _ _ _ _ ⟨_, _, _, _, _, _, _, q, _⟩ => q.elim⟩
theorem je_var {i : Nat} {x : Str} (hN : X.N[i]? = some x) (hv : Vis X.env.scope x) (hd : (x == ("__debug__" : Str)) = false) (hcd : (x == ("__classdict__" : Str)) = false) :
    JE X (.Name x pos) (wE C (.var i)) := PE.imp (pe_var (pos := pos) hN hv hd hcd) fun σ H Q' ⟨env, h, Q, E, tk, sm, rv, q, k⟩ => by
  simp only [wE, wP, dfl] at q
  split at q
  · rename_i v e
    obtain ⟨u, e2, r⟩ := rv.2 _ _ e
    exact ⟨u, e2, k _ _ (LQ.here sm r q)⟩
  · exact q.elim
/-- a constant -/
theorem je_con {e : Expr} {v : Val} {u : V} (p : PE X e (tC u)) (r : ∀ H, RV X.K H v u) : JE X e (fun _ h Q _ => Q v h) := PE.imp p fun σ H Q' ⟨env, h, Q, E, tk, sm, rv, q, k⟩ => k _ _ (LQ.here sm (r H) q)

theorem je_dct : JE X (.Dict [] [] pos) (wE C .dct) := PE.imp pe_dnewK fun σ H Q' ⟨env, h, Q, E, tk, sm, rv, q, k⟩ p np => k _ _ ⟨.dct, h, go_hid np, sm.hid np, ⟨p, rfl, upd_same⟩, q⟩
/-! ### the items of an empty dict -/
theorem mt_itemsE : MtR X "dict.items" (fun x xs H Q => ∃ a, x = .ref a ∧ xs = [] ∧ H a = some (.dK []) ∧ ∀ p, H p = none → Q (.ref p) (upd H p (L2.DX.itemsO p a))) := by
  intro pins s σ H x xs v us Q I rx rxs ⟨a, ex, exs, ha, q⟩
  subst ex exs
  cases rx
  cases rxs
  obtain ⟨z, hd, vs, rel, dd⟩ := dk_of I.hok ha
  obtain ⟨o, es, ep, ho, hx, hdat, _⟩ := dd
  have hf : H s.heap.objs.size = none := I.hok.fresh (Nat.le_refl _)
  exact DT.callItems (es := es) (ep := ep) hd ⟨o, ho, hx, hdat⟩ ⟨V.ref s.heap.objs.size, upd H s.heap.objs.size (L2.DX.itemsO s.heap.objs.size a), I.laid (t' := s.toks) (fun b u e => Heap.get?_push_of_some _ e) (Nat.le_refl _) (L2.DX.itemsO_ok (Heap.get?_push_size _ rfl)), rfl, q _ hf⟩
theorem call_list_items (hc : X.calm = true) : CallR X (.type "list") (fun xs H Q => ∃ p a, xs = [.ref p] ∧ H p = some (L2.DX.itemsO p a) ∧ H a = some (.dK []) ∧ ∀ l, H l = none → Q (.ref l) (upd H l (.lst []))) := by
  intro pins s σ H xs us Q I r ⟨p, a, ex, hp, ha, q⟩
  subst ex
  obtain rfl := Vals.ref1 r
  have view : s.heap.IsItemsView p a := (show ObjOk X.prog X.w H s.heap p (L2.DX.itemsO p a) from I.hok p _ hp).1
  obtain ⟨z, hd, vs, rel, dd⟩ := dk_of I.hok ha
  cases rel
  obtain ⟨ep, da⟩ := dd.dictAt
  refine PySem.W.kdx_call (I.ok.hd hc) view da (Nat.zero_le _) fun h' tk acc c as hk hl hn _ hacc => ?_
  have e0 : as = [] := List.eq_nil_of_length_eq_zero hn
  subst e0
  have e1 : acc = #[] := Array.toList_eq_nil_iff.mp hacc
  subst e1
  exact ⟨V.ref s.heap.objs.size, upd H s.heap.objs.size (.lst []), I.laid (t' := tk) hk (Nat.le_refl _) (show ObjOk X.prog X.w _ h' _ (.lst []) from ⟨Nat.zero_le _, [], c, .nil, hl⟩), rfl, q _ (I.hok.fresh (Nat.le_refl _))⟩
theorem je_itl {o : Expr} {a : Ex} {p apos ipos : Pos} (hc : X.calm = true) (hg : Gl X "list") (hm : X.mg "list" = none) (jo : JE X o (wE C a)) (hb : attributeBase o "items" X.env (eval o X.env) = eval o X.env) (hl : (apos.endLine == ipos.line) = true) :
    JE X (.Call (.Name "list" p) [.Call (.Attribute o "items" apos) [] [] ipos] [] pos) (wE C (.itl a)) := by
  have inner := pe_bm0 (X := X) (cpos := ipos) (apos := apos) PySem.F.plainAttrs_dict PySem.F.slot_dict_items PySem.F.type_dict_items mt_itemsE jo hb hl
  refine PE.imp (pe_callTy (call_list_items hc) hg hm (by rfl) (pa_cons inner pa_nil) (by decide) (by decide)) fun σ H Q' ⟨env, h, Q, E, tk, sm, rv, q, k⟩ => ?_
  refine ⟨env, h, _, E, tk, sm, rv, q, fun u H1 ⟨v, h1, g1, s1, r1, q1⟩ => ?_⟩
  cases v with
  | dct =>
    obtain ⟨d, rfl, hd⟩ := r1
    refine ⟨.inr (.inr (.inl ⟨rfl, .inl ⟨_, hd⟩⟩)), d, rfl, rfl, hd, fun i ni => ?_⟩
    have g2 : Go h1 H1 h1 (upd H1 i (L2.DX.itemsO i d)) := go_hid ni
    have s2 := s1.hid (o := L2.DX.itemsO i d) ni
    refine ⟨i, d, rfl, upd_same, by rw [upd_ne (ne_of_none hd ni)]; exact hd, fun l nl => ?_⟩
    exact k _ _ (LQ.trans (g1.trans g2) (LQ.newL s2 RVs.nil q1 nl))
  | _ => exact q1.elim
theorem je_bin {a b : Expr} {op : Operator} {x y : Ex} (ja : JE X a (wE C x)) (jb : JE X b (wE C y)) : JE X (.BinOp a op b pos) (wE C (.bin op x y)) :=
  PE.imp (pe_op (pos := pos) (opB_ok op) ja jb) fun σ H Q' ⟨env, h, Q, E, tk, sm, rv, q, k⟩ =>
    ⟨env, h, _, E, tk, sm, rv, q, fun u H1 ⟨v, h1, g1, s1, r1, q1⟩ => ⟨env, h1, _, E, tk.go g1, s1, rv.go sm g1, q1, fun u2 H2 ⟨v2, h2, g2, s2, r2, q2⟩ =>
      ⟨v, v2, h2, Q, s2, RV.go s1 g2 r1, r2, q2, fun u' H' l => k _ _ (LQ.trans g1 (LQ.trans g2 l))⟩⟩⟩
theorem onInt_elim {v : Val} {P : Int → Prop} (x : onInt v P) : ∃ i, v = .int i ∧ P i := by
  cases v with
  | int i => exact ⟨i, rfl, x⟩
  | _ => exact x.elim
theorem je_neg {a : Expr} {x : Ex} (ja : JE X a (wE C x)) : JE X (.UnaryOp .USub a pos) (wE C (.neg x)) :=
  PE.imp (pe_un (pos := pos) un_neg ja) fun σ H Q' ⟨env, h, Q, E, tk, sm, rv, q, k⟩ =>
    ⟨env, h, _, E, tk, sm, rv, q, fun u H1 ⟨v, h1, g1, s1, r1, q1⟩ => by
      obtain ⟨i, rfl, q1⟩ := onInt_elim q1
      cases r1
      exact ⟨_, rfl, k _ _ (LQ.trans g1 (LQ.here (v := .int _) s1 rfl q1))⟩⟩

/-! ### and, or, not, if .. else -/
theorem je_and {a b : Expr} {rest : List Expr} {x y : Ex} (ja : JE X a (wE C x)) (jb : JE X (.BoolOp .And (b :: rest) pos) (wE C y)) : JE X (.BoolOp .And (a :: b :: rest) pos) (wE C (.and x y)) :=
  PE.imp (pe_andT ja jb) fun σ H Q' ⟨env, h, Q, E, tk, sm, rv, q, k⟩ => by
    refine ⟨env, h, _, E, tk, sm, rv, q, fun u H1 ⟨v, h1, g1, s1, r1, q1⟩ => ?_⟩
    obtain ⟨b, t, _, q1⟩ := onT_elim s1 r1 q1
    refine ⟨b, t, ?_⟩
    cases b with
    | true => exact ⟨env, h1, _, E, tk.go g1, s1, rv.go sm g1, q1, fun u H' l => k _ _ (LQ.trans g1 l)⟩
    | false => exact k _ _ (LQ.trans g1 (LQ.here s1 r1 q1))
theorem je_or {a b : Expr} {rest : List Expr} {x y : Ex} (ja : JE X a (wE C x)) (jb : JE X (.BoolOp .Or (b :: rest) pos) (wE C y)) : JE X (.BoolOp .Or (a :: b :: rest) pos) (wE C (.or x y)) :=
  PE.imp (pe_orT ja jb) fun σ H Q' ⟨env, h, Q, E, tk, sm, rv, q, k⟩ => by
    refine ⟨env, h, _, E, tk, sm, rv, q, fun u H1 ⟨v, h1, g1, s1, r1, q1⟩ => ?_⟩
    obtain ⟨b, t, _, q1⟩ := onT_elim s1 r1 q1
    refine ⟨b, t, ?_⟩
    cases b with
    | true => exact k _ _ (LQ.trans g1 (LQ.here s1 r1 q1))
    | false => exact ⟨env, h1, _, E, tk.go g1, s1, rv.go sm g1, q1, fun u H' l => k _ _ (LQ.trans g1 l)⟩
theorem je_one {a : Expr} {op : BoolOp} {w : WE} (ja : JE X a w) : JE X (.BoolOp op [a] pos) w := pe_one ja
theorem je_not {a : Expr} {x : Ex} (ja : JE X a (wE C x)) : JE X (.UnaryOp .Not a pos) (wE C (.not x)) :=
  PE.imp (pe_notT ja) fun σ H Q' ⟨env, h, Q, E, tk, sm, rv, q, k⟩ => by
    refine ⟨env, h, _, E, tk, sm, rv, q, fun u H1 ⟨v, h1, g1, s1, r1, q1⟩ => ?_⟩
    obtain ⟨b, t, _, q1⟩ := onT_elim s1 r1 q1
    exact ⟨b, t, k _ _ (LQ.trans g1 (LQ.here (v := .bl _) s1 rfl q1))⟩
theorem LB.trans {K : PySem.W.Frag} {h h1 : Hep} {H H1 H' : Hp} {Q : BQ} {b : Bool} (g : Go h H h1 H1) (q : LB K h1 H1 Q b H') : LB K h H Q b H' := by
  obtain ⟨h2, g2, s2, q⟩ := q
  exact ⟨h2, g.trans g2, s2, q⟩
/-- a test by its value's truth -/
theorem jt_of {a : Expr} {w : WE} (ja : JE X a w) (he : ∀ whole, isTrue a X.env whole = (do let v ← whole; standAt a.pos; holding [v] (truthy v))) : JT X a (dfl w).2 :=
  PT.imp (pt_truth ja he) fun σ H Q' ⟨env, h, Q, E, tk, sm, rv, q, k⟩ => by
    refine ⟨env, h, _, E, tk, sm, rv, q, fun u H1 ⟨v, h1, g1, s1, r1, q1⟩ => ?_⟩
    obtain ⟨b, t, _, q1⟩ := onT_elim s1 r1 q1
    exact ⟨b, t, k _ _ ⟨h1, g1, s1, q1⟩⟩
abbrev JW (X : Cx) (e : Expr) (w : WT) : Prop := PW X e (tST X w)
theorem jw_one {a : Expr} {op : BoolOp} {w : WT} (ja : JT X a w) : JW X (.BoolOp op [a] pos) w := by
  cases op with
  | And => exact pw_and1 ja
  | Or => exact pw_or1 ja
theorem PW.imp {X : Cx} {e : Expr} {t t' : TT} (p : PW X e t) (h : ∀ σ H Q, t' σ H Q → t σ H Q) : PW X e t' := ⟨fun wh pins s σ H Q I q => p.run wh pins s σ H Q I (h _ _ _ q)⟩
theorem jw_and {a b : Expr} {rest : List Expr} {x y : Ex} (jt : JT X a (wT C x)) (jb : JW X (.BoolOp .And (b :: rest) pos) (wT C y)) : JW X (.BoolOp .And (a :: b :: rest) pos) (wT C (.and x y)) :=
  PW.imp (pw_and jt jb) fun σ H Q' ⟨env, h, Q, E, tk, sm, rv, q, k⟩ => by
    refine ⟨env, h, _, E, tk, sm, rv, q, fun b H1 ⟨h1, g1, s1, q1⟩ => ?_⟩
    cases b with
    | true => exact ⟨env, h1, Q, E, tk.go g1, s1, rv.go sm g1, q1, fun b H' l => k _ _ (LB.trans g1 l)⟩
    | false => exact k _ _ ⟨h1, g1, s1, q1⟩
theorem jw_or {a b : Expr} {rest : List Expr} {x y : Ex} (jt : JT X a (wT C x)) (jb : JW X (.BoolOp .Or (b :: rest) pos) (wT C y)) : JW X (.BoolOp .Or (a :: b :: rest) pos) (wT C (.or x y)) :=
  PW.imp (pw_or jt jb) fun σ H Q' ⟨env, h, Q, E, tk, sm, rv, q, k⟩ => by
    refine ⟨env, h, _, E, tk, sm, rv, q, fun b H1 ⟨h1, g1, s1, q1⟩ => ?_⟩
    cases b with
    | true => exact k _ _ ⟨h1, g1, s1, q1⟩
    | false => exact ⟨env, h1, Q, E, tk.go g1, s1, rv.go sm g1, q1, fun b H' l => k _ _ (LB.trans g1 l)⟩
theorem jt_not {a : Expr} {x : Ex} (jt : JT X a (wT C x)) : JT X (.UnaryOp .Not a pos) (wT C (.not x)) :=
  PT.imp (pt_not jt) fun σ H Q' ⟨env, h, Q, E, tk, sm, rv, q, k⟩ =>
    ⟨env, h, _, E, tk, sm, rv, q, fun b H1 ⟨h1, g1, s1, q1⟩ => k _ _ ⟨h1, g1, s1, q1⟩⟩
theorem je_ife {c a b : Expr} {z x y : Ex} (jc : JT X c (wT C z)) (ja : JE X a (wE C x)) (jb : JE X b (wE C y)) : JE X (.IfExp c a b pos) (wE C (.ife z x y)) :=
  PE.imp (pe_ifExp (pos := pos) jc ja jb) fun σ H Q' ⟨env, h, Q, E, tk, sm, rv, q, k⟩ => by
    refine ⟨env, h, _, E, tk, sm, rv, q, fun b H1 ⟨h1, g1, s1, q1⟩ => ?_⟩
    cases b with
    | true => exact ⟨env, h1, Q, E, tk.go g1, s1, rv.go sm g1, q1, fun b H' l => k _ _ (LQ.trans g1 l)⟩
    | false => exact ⟨env, h1, Q, E, tk.go g1, s1, rv.go sm g1, q1, fun b H' l => k _ _ (LQ.trans g1 l)⟩
theorem pt_ife {c a b : Expr} {tc ta tb : TT} (jc : PT X c tc) (ja : PT X a ta) (jb : PT X b tb) : PT X (.IfExp c a b pos) (fun σ H Q => tc σ H fun t H1 => if t = true then ta σ H1 Q else tb σ H1 Q) := by
  refine ⟨fun pins s σ H Q I h => ?_⟩
  unfold PySem.isTrue
  refine wpAny_bind (thn (jc.run pins s σ H _ I h) fun t s1 ⟨H1, I1, q1⟩ => ?_)
  cases t with
  | true => exact ja.run pins s1 σ H1 Q I1 q1
  | false => exact jb.run pins s1 σ H1 Q I1 q1
theorem jt_ife {c a b : Expr} {z x y : Ex} (jc : JT X c (wT C z)) (ja : JT X a (wT C x)) (jb : JT X b (wT C y)) : JT X (.IfExp c a b pos) (wT C (.ife z x y)) :=
  PT.imp (pt_ife jc ja jb) fun σ H Q' ⟨env, h, Q, E, tk, sm, rv, q, k⟩ => by
    refine ⟨env, h, _, E, tk, sm, rv, q, fun b H1 ⟨h1, g1, s1, q1⟩ => ?_⟩
    cases b with
    | true => exact ⟨env, h1, Q, E, tk.go g1, s1, rv.go sm g1, q1, fun b H' l => k _ _ (LB.trans g1 l)⟩
    | false => exact ⟨env, h1, Q, E, tk.go g1, s1, rv.go sm g1, q1, fun b H' l => k _ _ (LB.trans g1 l)⟩

/-! ### comparisons -/
theorem LQ.bl {K : PySem.W.Frag} {h : Hep} {H : Hp} {Q : VQ} (s : Sim K h H) {b : Bool} (q : Q (.bl b) h) : LQ K h H Q (.bl b) H := LQ.here (v := .bl b) s rfl q
theorem je_cmp {a b : Expr} {op : CmpOp} {x y : Ex} (hu : X.A.units + 65 < cLine) (hm : behindInMarks op b = false) (ja : JE X a (wE C x)) (jb : JE X b (wE C y)) : JE X (.Compare a [op] [b] pos) (wE C (.cmp op x y)) :=
  PE.imp (pe_cmpR (pos := pos) (opC_ok hu op) ja jb hm) fun σ H Q' ⟨env, h, Q, E, tk, sm, rv, q, k⟩ =>
    ⟨env, h, _, E, tk, sm, rv, q, fun u H1 ⟨v, h1, g1, s1, r1, q1⟩ => ⟨env, h1, _, E, tk.go g1, s1, rv.go sm g1, q1, fun u2 H2 ⟨v2, h2, g2, s2, r2, q2⟩ =>
      ⟨v, v2, h2, _, s2, RV.go s1 g2 r1, r2, q2, fun b l => k _ _ (LQ.trans g1 (LQ.trans g2 (LQ.bl s2 l)))⟩⟩⟩
theorem jt_cmp {a b : Expr} {op : CmpOp} {x y : Ex} (hu : X.A.units + 65 < cLine) (hm : behindInMarks op b = false) (ja : JE X a (wE C x)) (jb : JE X b (wE C y)) : JT X (.Compare a [op] [b] pos) (wT C (.cmp op x y)) :=
  PT.imp (pt_cmpR (pos := pos) (opC_ok hu op) ja jb hm) fun σ H Q' ⟨env, h, Q, E, tk, sm, rv, q, k⟩ =>
    ⟨env, h, _, E, tk, sm, rv, q, fun u H1 ⟨v, h1, g1, s1, r1, q1⟩ => ⟨env, h1, _, E, tk.go g1, s1, rv.go sm g1, q1, fun u2 H2 ⟨v2, h2, g2, s2, r2, q2⟩ =>
      ⟨v, v2, h2, _, s2, RV.go s1 g2 r1, r2, q2, fun b l => ⟨b, rfl, k _ _ (LB.trans g1 (LB.trans g2 ⟨h2, Go.refl _ _, s2, l⟩))⟩⟩⟩⟩
theorem je_chn {a b c : Expr} {op op' : CmpOp} {x y z : Ex} (hu : X.A.units + 65 < cLine) (hm : lastMarks [op, op'] [b, c] = false) (ja : JE X a (wE C x)) (jb : JE X b (wE C y)) (jc : JE X c (wE C z)) : JE X (.Compare a [op, op'] [b, c] pos) (wE C (.chn op op' x y z)) :=
  PE.imp (pe_chain (pos := pos) (opC_ok hu op) (opC_ok hu op') ja jb jc hm) fun σ H Q' ⟨env, h, Q, E, tk, sm, rv, q, k⟩ =>
    ⟨env, h, _, E, tk, sm, rv, q, fun u H1 ⟨v, h1, g1, s1, r1, q1⟩ => ⟨env, h1, _, E, tk.go g1, s1, rv.go sm g1, q1, fun u2 H2 ⟨v2, h2, g2, s2, r2, q2⟩ =>
      ⟨v, v2, h2, _, s2, RV.go s1 g2 r1, r2, q2, fun b l => ⟨b, rfl, by
        cases b with
        | false => exact k _ _ (LQ.trans g1 (LQ.trans g2 (LQ.bl s2 l)))
        | true => exact ⟨env, h2, _, E, (tk.go g1).go g2, s2, (rv.go sm g1).go s1 g2, l, fun u3 H3 ⟨v3, h3, g3, s3, r3, q3⟩ =>
            ⟨v2, v3, h3, _, s3, RV.go s2 g3 r2, r3, q3, fun b l => k _ _ (LQ.trans g1 (LQ.trans g2 (LQ.trans g3 (LQ.bl s3 l))))⟩⟩⟩⟩⟩⟩
theorem jt_chn {a b c : Expr} {op op' : CmpOp} {x y z : Ex} (hu : X.A.units + 65 < cLine) (hm : lastMarks [op, op'] [b, c] = false) (ja : JE X a (wE C x)) (jb : JE X b (wE C y)) (jc : JE X c (wE C z)) : JT X (.Compare a [op, op'] [b, c] pos) (wT C (.chn op op' x y z)) :=
  PT.imp (pt_chain (pos := pos) (opC_ok hu op) (opC_ok hu op') ja jb jc hm) fun σ H Q' ⟨env, h, Q, E, tk, sm, rv, q, k⟩ =>
    ⟨env, h, _, E, tk, sm, rv, q, fun u H1 ⟨v, h1, g1, s1, r1, q1⟩ => ⟨env, h1, _, E, tk.go g1, s1, rv.go sm g1, q1, fun u2 H2 ⟨v2, h2, g2, s2, r2, q2⟩ =>
      ⟨v, v2, h2, _, s2, RV.go s1 g2 r1, r2, q2, fun b l => ⟨b, rfl, by
        cases b with
        | false => exact ⟨false, rfl, k _ _ (LB.trans g1 (LB.trans g2 ⟨h2, Go.refl _ _, s2, l⟩))⟩
        | true => exact ⟨env, h2, _, E, (tk.go g1).go g2, s2, (rv.go sm g1).go s1 g2, l, fun u3 H3 ⟨v3, h3, g3, s3, r3, q3⟩ =>
            ⟨v2, v3, h3, _, s3, RV.go s2 g3 r2, r3, q3, fun b l => ⟨b, rfl, k _ _ (LB.trans g1 (LB.trans g2 (LB.trans g3 ⟨h3, Go.refl _ _, s3, l⟩)))⟩⟩⟩⟩⟩⟩⟩

/-! ### arguments, displays, calls -/
theorem LA.trans {K : PySem.W.Frag} {h h1 : Hep} {H H1 H' : Hp} {Q : LQs} {us : List V} (g : Go h H h1 H1) (q : LA K h1 H1 Q us H') : LA K h H Q us H' := by
  obtain ⟨vs, h2, g2, s2, r, q⟩ := q
  exact ⟨vs, h2, g.trans g2, s2, r, q⟩
/-- arguments, their number told -/
def JAn (X : Cx) (es : List Expr) (n : Nat) (w : WA) : Prop := PA X es fun σ H Q' => ∃ env h Q E, Tk X σ h H E ∧ Sim X.K h H ∧ RVo X.K H env σ ∧ w env h Q E ∧ ∀ us H', us.length = n → LA X.K h H Q us H' → Q' us H'
theorem ja_nil : JAn X [] 0 (wA C .nil) := PA.imp pa_nil fun σ H Q' ⟨env, h, Q, E, tk, sm, rv, q, k⟩ => k [] H rfl ⟨[], h, Go.refl _ _, sm, rfl, q⟩
theorem ja_cons {e : Expr} {es : List Expr} {x : Ex} {xs : Exs} {n : Nat} (ja : JE X e (wE C x)) (jr : JAn X es n (wA C xs)) (hs : starEach (e :: es) X.env = (false, eval e X.env) :: starEach es X.env) : JAn X (e :: es) (n + 1) (wA C (.cons x xs)) :=
  PA.imp (pa_cons ja jr hs) fun σ H Q' ⟨env, h, Q, E, tk, sm, rv, q, k⟩ =>
    ⟨env, h, _, E, tk, sm, rv, q, fun u H1 ⟨v, h1, g1, s1, r1, q1⟩ => ⟨env, h1, _, E, tk.go g1, s1, rv.go sm g1, q1, fun us H2 hl ⟨vs, h2, g2, s2, r2, q2⟩ =>
      k _ _ (by rw [List.length_cons, hl]) ⟨v :: vs, h2, g1.trans g2, s2, RVs.cons (RV.go s1 g2 r1) r2, q2⟩⟩⟩
theorem je_lst {es : List Expr} {xs : Exs} {n : Nat} (hn : n ≤ 1000) (ja : JAn X es n (wA C xs)) : JE X (.List es pos) (wE C (.lst xs)) :=
  PE.imp (pe_lst (pos := pos) ja) fun σ H Q' ⟨env, h, Q, E, tk, sm, rv, q, k⟩ =>
    ⟨env, h, _, E, tk, sm, rv, q, fun us H1 hl ⟨vs, h1, g1, s1, r1, q1⟩ => ⟨by rw [hl]; exact Nat.le_of_lt (small1000 hn), fun p np => k _ _ (LQ.trans g1 (LQ.newL s1 r1 q1 np))⟩⟩
theorem je_tup {es : List Expr} {xs : Exs} {n m : Nat} (hn : n ≤ 1000) (ja : JAn X es n (wA C xs)) : JE X (.Tuple es m pos) (wE C (.tup xs)) :=
  PE.imp (pe_tup (pos := pos) ja) fun σ H Q' ⟨env, h, Q, E, tk, sm, rv, q, k⟩ =>
    ⟨env, h, _, E, tk, sm, rv, q, fun us H1 hl ⟨vs, h1, g1, s1, r1, q1⟩ => ⟨by rw [hl]; exact Nat.le_of_lt (small1000 hn), fun p np => k _ _ (LQ.trans g1 (LQ.tup s1 r1 q1 np))⟩⟩
theorem je_biF {f : Bi} {x id : Str} {p : Pos} {e : Expr} {es : List Expr} {xs : Exs} {n : Nat} {B : String} (hc : X.calm = true) (hf : f.val = .builtin B) (hg : Gl X x) (hm : X.mg x = none) (hv : bootBuiltins x = some (.builtin B)) (hn : x ≠ "__name__") (hdb : (x == ("__debug__" : Str)) = false)
    (ja : JAn X (e :: es) n (wA C xs)) (he : starEach (e :: es) X.env = (false, eval e X.env) :: starEach es X.env) (hpl : (backTo pos (starEach es X.env)).any (·.1) = false) : JE X (.Call (.Name x p) (e :: es) [] pos) (wE C (.bi f xs)) :=
  PE.imp (pe_callB (r := rJF X (opF f)) (by rw [← hf]; exact opF_ok hc f) hg hm hv ja hn hdb he hpl) fun σ H Q' ⟨env, h, Q, E, tk, sm, rv, q, k⟩ =>
    ⟨env, h, _, E, tk, sm, rv, q, fun us H1 hl ⟨vs, h1, g1, s1, r1, q1⟩ => ⟨vs, h1, Q, s1, r1, q1, fun u' H' l => k _ _ (LQ.trans g1 l)⟩⟩
theorem je_biT {f : Bi} {x id : Str} {p : Pos} {e : Expr} {es : List Expr} {xs : Exs} {n : Nat} {B : String} (hc : X.calm = true) (hf : f.val = .type B) (hg : Gl X x) (hm : X.mg x = none) (hv : bootBuiltins x = some (.type B)) (hn : x ≠ "__name__") (hdb : (x == ("__debug__" : Str)) = false)
    (ja : JAn X (e :: es) n (wA C xs)) (he : starEach (e :: es) X.env = (false, eval e X.env) :: starEach es X.env) (hpl : (backTo pos (starEach es X.env)).any (·.1) = false) : JE X (.Call (.Name x p) (e :: es) [] pos) (wE C (.bi f xs)) :=
  PE.imp (pe_callTy (r := rJF X (opF f)) (by rw [← hf]; exact opF_ok hc f) hg hm hv ja hn hdb he hpl) fun σ H Q' ⟨env, h, Q, E, tk, sm, rv, q, k⟩ =>
    ⟨env, h, _, E, tk, sm, rv, q, fun us H1 hl ⟨vs, h1, g1, s1, r1, q1⟩ => ⟨vs, h1, Q, s1, r1, q1, fun u' H' l => k _ _ (LQ.trans g1 l)⟩⟩
theorem passTk {σ : L2.St} {h : Hep} {H : Hp} {E : XQ} (tk : Tk X σ h H E) : PassesAt (L2.CX X.prog X.w) X σ (LX X.K X.mg h H E) := fun pins H0 s e s' I c =>
  tk e s' (XE.of_call I (fun _ _ _ z => ⟨rfl, z⟩) c)
theorem je_call {f : Str} {k : Nat} {p : Pos} {e : Expr} {es : List Expr} {xs : Exs} {n : Nat} (F : FOk X C k f) (hr : Room k X.A) (hg : Gl X f) (hdb : (f == ("__debug__" : Str)) = false) (ja : JAn X (e :: es) n (wA C xs))
    (he : starEach (e :: es) X.env = (false, eval e X.env) :: starEach es X.env) (hpl : (backTo pos (starEach es X.env)).any (·.1) = false) : JE X (.Call (.Name f p) (e :: es) [] pos) (wE C (.call f xs)) := by
  obtain ⟨a, fd, ps, hm, hk, hF, hb⟩ := F
  refine PE.of _ _ fun pins s σ H env h Q E Q' I tk sm rv q k => ?_
  refine wpAny_Call_Name_kw (ld_glob I hg hm ?_ hdb)
  refine PySem.W.callWith_K (h₀ := X.base) I.ok.mod.kin hk (thn (ja.run pos pins s σ H (fun us H' => us.length = n ∧ LA X.K h H _ us H') I ⟨env, h, _, E, tk, sm, rv, q, fun us H' hl z => ⟨hl, z⟩⟩) fun us s1 hh => ?_) he hpl
  obtain ⟨vs, H1, I1, r, hl, ws, h1, g1, s1', r1, q1⟩ := hh
  refine ⟨I1.kIn, ?_⟩
  refine run_fnSD (dvs := []) (ds := []) (E := fun _ => LX X.K X.mg h1 H1 E) hF hr hb .nil (passTk (tk.go g1)) I1 r ?_
  rw [List.append_nil]
  exact ⟨ws, h1, Q, E, s1', r1, q1, fun u' H' l => k _ _ (LQ.trans g1 l), fun _ _ _ z => z⟩
theorem je_call0 {f : Str} {k : Nat} {p : Pos} (F : FOk X C k f) (hr : Room k X.A) (hg : Gl X f) (hdb : (f == ("__debug__" : Str)) = false) : JE X (.Call (.Name f p) [] [] pos) (wE C (.call f .nil)) := by
  obtain ⟨a, fd, ps, hm, hk, hF, hb⟩ := F
  refine PE.of _ _ fun pins s σ H env h Q E Q' I tk sm rv q k => ?_
  refine wpAny_Call_Name_kw (ld_glob I hg hm ?_ hdb)
  refine PySem.W.callWith_K0 I.kIn hk (run_fnSD (us := []) (vs := []) (dvs := []) (ds := []) (E := fun _ => LX X.K X.mg h H E) hF hr hb .nil (passTk tk) I .nil ?_)
  exact ⟨[], h, Q, E, sm, rfl, q, k, fun _ _ _ z => z⟩

/-! ### calls by keywords alone -/
structure KC where
  f : Str
  ks : List Str
  perm : List Nat
  deriving DecidableEq
def FKOk' (P : Program) (w : World) (K : PySem.W.Frag) (mg : Str → Option Value) (base : Heap) (C : CalT) (k : Nat) (q : KC) : Prop :=
  ∃ a fd ps, mg q.f = some (.ref a) ∧ PySem.W.keepIn K (.ref a) = true ∧ FnOk P w K mg base (CX P w) k a fd ps (spC K mg C q.f) ∧ KBn K fd ps 0 q.ks (fun us ws => permL q.perm (us ++ ws)) (fun vs zs => permL q.perm (vs ++ zs))
abbrev FKOk (X : Cx) (C : CalT) (k : Nat) (q : KC) : Prop := FKOk' X.prog X.w X.K X.mg X.base C k q
theorem permL_rel {K : PySem.W.Frag} {H : Hp} {vs : List Val} {us : List V} (r : RVs K H vs us) : ∀ p : List Nat, RVs K H (permL p vs) (permL p us)
  | [] => RVs.nil
  | i :: p => by
    unfold permL
    rw [List.filterMap_cons, List.filterMap_cons]
    have ih := permL_rel r p
    cases z : vs[i]? with
    | none =>
      have z2 : us[i]? = none := by
        rw [List.getElem?_eq_none_iff] at z ⊢
        rw [r.length]; exact z
      rw [z2]
      exact ih
    | some v =>
      obtain ⟨u, h1, h2⟩ := r.get z
      rw [h1]
      exact RVs.cons h2 ih
theorem permL_vals {vs : List V} {us : List Value} (r : Vals vs us) : ∀ p : List Nat, Vals (permL p vs) (permL p us)
  | [] => .nil
  | i :: p => by
    unfold permL
    rw [List.filterMap_cons, List.filterMap_cons]
    have ih := permL_vals r p
    cases z : vs[i]? with
    | none =>
      rw [r.none_of z]
      exact ih
    | some v =>
      obtain ⟨u, h1, h2⟩ := r.get z
      rw [h1]
      exact .cons h2 ih
def JKn (X : Cx) (kws : List Keyword) (n : Nat) (w : WA) : Prop := PK X kws fun σ H Q' => ∃ env h Q E, Tk X σ h H E ∧ Sim X.K h H ∧ RVo X.K H env σ ∧ w env h Q E ∧ ∀ us H', us.length = n → LA X.K h H Q us H' → Q' us H'
theorem PK.imp {X : Cx} {e : List Keyword} {t t' : TA} (p : PK X e t) (h : ∀ σ H Q, t' σ H Q → t σ H Q) : PK X e t' := ⟨fun po pins s σ H Q I q => p.run po pins s σ H Q I (h _ _ _ q)⟩
theorem jk_nil : JKn X [] 0 (wA C .nil) := PK.imp pk_nil fun σ H Q' ⟨env, h, Q, E, tk, sm, rv, q, k⟩ => k [] H rfl ⟨[], h, Go.refl _ _, sm, rfl, q⟩
theorem jk_cons {nm : Option Str} {kp : Pos} {e : Expr} {es : List Keyword} {x : Ex} {xs : Exs} {n : Nat} (ja : JE X e (wE C x)) (jr : JKn X es n (wA C xs)) : JKn X (⟨nm, e, kp⟩ :: es) (n + 1) (wA C (.cons x xs)) :=
  PK.imp (pk_cons ja jr) fun σ H Q' ⟨env, h, Q, E, tk, sm, rv, q, k⟩ =>
    ⟨env, h, _, E, tk, sm, rv, q, fun u H1 ⟨v, h1, g1, s1, r1, q1⟩ => ⟨env, h1, _, E, tk.go g1, s1, rv.go sm g1, q1, fun us H2 hl ⟨vs, h2, g2, s2, r2, q2⟩ =>
      k _ _ (by rw [List.length_cons, hl]) ⟨v :: vs, h2, g1.trans g2, s2, RVs.cons (RV.go s1 g2 r1) r2, q2⟩⟩⟩
theorem je_kall {q : KC} {k : Nat} {p : Pos} {kws : List Keyword} {xs : Exs} (F : FKOk X C k q) (hr : Room k X.A) (hg : Gl X q.f) (hdb : (q.f == ("__debug__" : Str)) = false) (ja : JKn X kws kws.length (wA C xs))
    (hl : kws.length = q.ks.length) (hks : (backToKw pos (keywordEach kws X.env)).filterMap (·.1) = q.ks) (hall : (backToKw pos (keywordEach kws X.env)).all (·.1.isSome) = true) (hpl : (backToKw pos (keywordEach kws X.env)).any (·.1.isNone) = false) : JE X (.Call (.Name q.f p) [] kws pos) (wE C (.kall q.f q.perm xs)) := by
  obtain ⟨a, fd, ps, hm, hk, hF, hb⟩ := F
  refine PE.of _ _ fun pins s σ H env h Q E Q' I tk sm rv qw k => ?_
  refine wpAny_Call_Name_kw (ld_glob I hg hm ?_ hdb)
  refine PySem.W.callWith_KW0 (h₀ := X.base) I.ok.mod.kin hk hall (thn (ja.run pos pins s σ H (fun us H' => us.length = kws.length ∧ LA X.K h H _ us H') I ⟨env, h, _, E, tk, sm, rv, qw, fun us H' hl z => ⟨hl, z⟩⟩) fun us s1 hh => ?_) (by rw [hpl]; rfl)
  obtain ⟨vs, H1, I1, r, hl1, ws, h1, g1, s1', r1, q1⟩ := hh
  refine ⟨I1.kIn, ?_⟩
  rw [hks]
  have r2 := hb.rel (vs := []) (us := []) .nil r
  refine wpAny_call (codeAny_mono (hF.run X.A X.stack s1 H1 ⟨[], q.ks.zip us⟩ (permL q.perm ([] ++ us)) (permL q.perm ([] ++ vs)) Q' (LX X.K X.mg h1 H1 E) hr I1.env0 (hb.to s1 [] us I1.kIn rfl ((r.length.symm.trans hl1).trans hl)) r2 ⟨permL q.perm ws, h1, Q, E, s1', permL_rel r1 _, q1, fun u' H' l => k _ _ (LQ.trans g1 l), fun _ _ _ z => z⟩) fun r s' hq => ?_)
  cases r with
  | error e => exact passTk (σ := σ) (tk.go g1) pins H1 s1 e s' I1 hq
  | ok fl =>
    cases fl with
    | ret u => exact I1.after hq
    | next => exact False.elim hq
    | brk => exact False.elim hq
    | cont => exact False.elim hq

/-! ### methods, places -/
theorem tyV_lst {K : PySem.W.Frag} {h : Hep} {H : Hp} (sm : Sim K h H) {a : Addr} {xs : List Val} (e : h a = some (.lst xs)) : tyV K "list" (.ref a) H := by
  obtain ⟨us, f, _⟩ := sm.lst e
  exact .inl ⟨rfl, us, SqL.of f⟩
end
end KM
/-! KMG: that what is asked suffices: methods, places, targets, walks, comprehensions. -/
namespace KM
open PySem PySem.Spec PyProof.Rows L2

def isStar : Expr → Bool
  | .Starred _ _ => true
  | _ => false
def plainBase : Expr → Bool
  | .Call .. => false
  | _ => true
def isSlice : Expr → Bool
  | .Slice .. => true
  | _ => false
theorem star_cons {e : Expr} {es : List Expr} {env : PySem.Env} (h : isStar e = false) : starEach (e :: es) env = (false, eval e env) :: starEach es env := by
  cases e <;> first | rfl | cases h
theorem star_any {pos : Pos} {env : PySem.Env} : ∀ {es : List Expr}, es.all (fun e => !isStar e) = true → (backTo pos (starEach es env)).any (·.1) = false
  | [], _ => rfl
  | e :: es, h => by
    rw [List.all_cons, Bool.and_eq_true] at h
    have h1 : isStar e = false := by simpa using h.1
    rw [star_cons h1]
    have ih := star_any (pos := pos) (env := env) h.2
    unfold backTo at ih ⊢
    rw [List.map_cons, List.any_cons]
    exact ih
theorem star_all {pos : Pos} {env : PySem.Env} : ∀ {es : List Expr}, es.all (fun e => !isStar e) = true → (backTo pos (starEach es env)).all (fun x => !x.1) = true
  | [], _ => rfl
  | e :: es, h => by
    rw [List.all_cons, Bool.and_eq_true] at h
    have h1 : isStar e = false := by simpa using h.1
    rw [star_cons h1]
    have ih := star_all (pos := pos) (env := env) h.2
    unfold backTo at ih ⊢
    rw [List.map_cons, List.all_cons]
    exact ih
theorem base_plain {o : Expr} {name : Str} {env : PySem.Env} {w : Sem Value} (h : plainBase o = true) : attributeBase o name env w = w := by
  cases o <;> first | rfl | cases h
theorem ix_plain {b : Expr} (h : isSlice b = false) : PlainIx b := by
  intro o i
  cases b <;> first | rfl | cases h
section
variable {X : Cx} {C : CalT} {pos : Pos}
/-! ### methods -/
theorem mt_facts (m : Mt) : ∃ n : Str, Slot "list" n m.id ∧ typeOf (.builtin m.id) = pure (.type "method_descriptor") ∧ n = (match m with | .append => "append" | .pop => "pop" | .extend => "extend") := by
  cases m with
  | append => exact ⟨_, PySem.F.slot_list_append, PySem.F.type_list_append, rfl⟩
  | pop => exact ⟨_, PySem.F.slot_list_pop, PySem.F.type_list_pop, rfl⟩
  | extend => exact ⟨_, PySem.F.slot_list_extend, PySem.F.type_list_extend, rfl⟩
def Mt.name : Mt → Str
  | .append => "append"
  | .pop => "pop"
  | .extend => "extend"
theorem mt_slot (m : Mt) : Slot "list" m.name m.id := by
  cases m with
  | append => exact PySem.F.slot_list_append
  | pop => exact PySem.F.slot_list_pop
  | extend => exact PySem.F.slot_list_extend
theorem mt_type (m : Mt) : typeOf (.builtin m.id) = pure (.type "method_descriptor") := by
  cases m with
  | append => exact PySem.F.type_list_append
  | pop => exact PySem.F.type_list_pop
  | extend => exact PySem.F.type_list_extend
theorem mtOk_ty {m : Mt} {x : Val} {u : V} {h : Hep} {K : PySem.W.Frag} {H : Hp} (sm : Sim K h H) (r : RV K H x u) (o : mtOk m x h) : tyV K "list" u H := by
  unfold mtOk at o
  split at o
  · cases r
    obtain ⟨xs, e, _⟩ := onL_elim o
    exact tyV_lst sm e
  · exact o.elim
theorem je_mth0 {m : Mt} {o : Expr} {x : Ex} {apos : Pos} (jo : JE X o (wE C x)) (hb : plainBase o = true) (hl : (apos.endLine == pos.line) = true) : JE X (.Call (.Attribute o m.name apos) [] [] pos) (wE C (.mth m x .nil)) :=
  PE.imp (pe_bm0 PySem.F.plainAttrs_list (mt_slot m) (mt_type m) (opM_ok m) jo (base_plain hb) hl) fun σ H Q' ⟨env, h, Q, E, tk, sm, rv, q, k⟩ =>
    ⟨env, h, _, E, tk, sm, rv, q, fun u H1 ⟨v, h1, g1, s1, r1, q0, q1⟩ => ⟨mtOk_ty s1 r1 q0, v, [], h1, Q, s1, r1, rfl, q1, fun u' H' l => k _ _ (LQ.trans g1 l)⟩⟩
theorem je_mth {m : Mt} {o e : Expr} {es : List Expr} {x : Ex} {xs : Exs} {n : Nat} {apos : Pos} (jo : JE X o (wE C x)) (ja : JAn X (e :: es) n (wA C xs)) (hb : plainBase o = true) (hl : (apos.endLine == pos.line) = true)
    (hs : (e :: es).all (fun e => !isStar e) = true) (hn : (e :: es).length < 30) : JE X (.Call (.Attribute o m.name apos) (e :: es) [] pos) (wE C (.mth m x xs)) := by
  have h2 : isStar e = false ∧ es.all (fun e => !isStar e) = true := by
    rw [List.all_cons, Bool.and_eq_true] at hs
    exact ⟨by simpa using hs.1, hs.2⟩
  refine PE.imp (pe_bm PySem.F.plainAttrs_list (mt_slot m) (mt_type m) (opM_ok m) jo ja (base_plain hb) ?_ hl (star_cons h2.1) (star_any h2.2)) fun σ H Q' ⟨env, h, Q, E, tk, sm, rv, q, k⟩ =>
    ⟨env, h, _, E, tk, sm, rv, q, fun u H1 ⟨v, h1, g1, s1, r1, q0, q1⟩ => ⟨mtOk_ty s1 r1 q0, env, h1, _, E, tk.go g1, s1, rv.go sm g1, q1, fun us H2 hl ⟨vs, h2, g2, s2, r2, q2⟩ =>
      ⟨v, vs, h2, Q, s2, RV.go s1 g2 r1, r2, q2, fun u' H' l => k _ _ (LQ.trans g1 (LQ.trans g2 l))⟩⟩⟩
  rw [star_all hs]
  simp only [keywordEach, backToKw, List.map_nil, List.all_nil, Bool.true_and, List.length_nil, List.isEmpty_nil, if_true, Nat.add_zero]
  exact decide_eq_true hn

/-! ### subscripts, slices -/
theorem je_ix {a b : Expr} {x y : Ex} (ja : JE X a (wE C x)) (jb : JE X b (wE C y)) (hb : isSlice b = false) : JE X (.Subscript a b pos) (wE C (.ix x y)) :=
  PE.imp (pe_ix (pos := pos) opIx_ok ja jb (ix_plain hb)) fun σ H Q' ⟨env, h, Q, E, tk, sm, rv, q, k⟩ =>
    ⟨env, h, _, E, tk, sm, rv, q, fun u H1 ⟨v, h1, g1, s1, r1, q1⟩ => ⟨env, h1, _, E, tk.go g1, s1, rv.go sm g1, q1, fun u2 H2 ⟨v2, h2, g2, s2, r2, q2⟩ =>
      ⟨v, v2, h2, _, s2, RV.go s1 g2 r1, r2, q2, fun w z r l => k _ _ (LQ.trans g1 (LQ.trans g2 (LQ.here s2 r l)))⟩⟩⟩
def JO (X : Cx) (e : Option Expr) (w : Env → Hep → (Option Int → Hep → Prop) → XQ → Prop) : Prop := PO X e fun σ H Q' => ∃ env h Q E, Tk X σ h H E ∧ Sim X.K h H ∧ RVo X.K H env σ ∧ w env h Q E ∧ ∀ i h' H', Go h H h' H' → Sim X.K h' H' → Q i h' → Q' i H'
theorem PO.imp {e : Option Expr} {t t' : TO} (p : PO X e t) (h : ∀ σ H Q, t' σ H Q → t σ H Q) : PO X e t' := ⟨fun pins s σ H Q I q => p.run pins s σ H Q I (h _ _ _ q)⟩
theorem jo_none : JO X none (wO C .nil) := PO.imp po_none fun σ H Q' ⟨env, h, Q, E, tk, sm, rv, q, k⟩ => k _ _ _ (Go.refl _ _) sm q
theorem jo_some {e : Expr} {x : Ex} {r : Exs} (je : JE X e (wE C x)) : JO X (some e) (wO C (.cons x r)) := PO.imp (po_some je) fun σ H Q' ⟨env, h, Q, E, tk, sm, rv, q, k⟩ =>
  ⟨env, h, _, E, tk, sm, rv, q, fun u H1 ⟨v, h1, g1, s1, r1, q1⟩ => by
    obtain ⟨i, rfl, q1⟩ := onInt_elim q1
    cases r1
    exact ⟨i, rfl, k _ _ _ g1 s1 q1⟩⟩
theorem je_sl {e : Expr} {lo hi : Option Expr} {x : Ex} {l u : Exs} {p2 : Pos} (je : JE X e (wE C x)) (jl : JO X lo (wO C l)) (ju : JO X hi (wO C u)) : JE X (.Subscript e (.Slice lo hi none p2) pos) (wE C (.sl x l u)) :=
  PE.imp (pe_slice (pos := pos) (p2 := p2) opSl_ok je jl ju) fun σ H Q' ⟨env, h, Q, E, tk, sm, rv, q, k⟩ =>
    ⟨env, h, _, E, tk, sm, rv, q, fun u H1 ⟨v, h1, g1, s1, r1, q1⟩ => ⟨env, h1, _, E, tk.go g1, s1, rv.go sm g1, q1, fun i h2 H2 g2 s2 q2 =>
      ⟨env, h2, _, E, (tk.go g1).go g2, s2, (rv.go sm g1).go s1 g2, q2, fun j h3 H3 g3 s3 q3 => ⟨v, h3, Q, s3, RV.go s2 g3 (RV.go s1 g2 r1), q3, fun u' H' l => k _ _ (LQ.trans g1 (LQ.trans g2 (LQ.trans g3 l)))⟩⟩⟩⟩
theorem je_rev {e : Expr} {x : Ex} {n : Nat} {p1 p2 p3 : Pos} (je : JE X e (wE C x)) : JE X (.Subscript e (.Slice none none (some (.UnaryOp .USub (.Constant (.int 1) n p1) p2)) p3) pos) (wE C (.rev x)) :=
  PE.imp (pe_revL (pos := pos) (p1 := p1) (p2 := p2) (p3 := p3) (k := n) je) fun σ H Q' ⟨env, h, Q, E, tk, sm, rv, q, k⟩ =>
    ⟨env, h, _, E, tk, sm, rv, q, fun u H1 ⟨v, h1, g1, s1, r1, q1⟩ => by
      cases v with
      | ref a =>
        cases r1
        obtain ⟨xs, e, q1⟩ := onL_elim q1
        obtain ⟨us, f, t⟩ := s1.lst e
        exact ⟨_, us, rfl, SqL.of f, fun p np => k _ _ (LQ.trans g1 (LQ.newL s1 t.rev q1 np))⟩
      | _ => exact q1.elim⟩

/-! ### targets -/
theorem onO_elim {α : Type} {o : Option α} {P : α → Prop} (x : onO o P) : ∃ a, o = some a ∧ P a := by
  cases o with
  | some a => exact ⟨a, rfl, x⟩
  | none => exact x.elim
def Tg.slots : Tg → List Nat
  | .nm i => [i]
  | .tn => []
  | .tc a b => a.slots ++ b.slots
/-- only these slots are stored to -/
def Sto (is : List Nat) (σ σ' : L2.St) : Prop := σ'.length = σ.length ∧ ∀ i, i ∉ is → σ'[i]? = σ[i]?
theorem Sto.refl (σ : L2.St) : Sto [] σ σ := ⟨rfl, fun _ _ => rfl⟩
theorem Sto.trans {is js : List Nat} {σ σ' σ'' : L2.St} (a : Sto is σ σ') (b : Sto js σ' σ'') : Sto (is ++ js) σ σ'' := ⟨b.1.trans a.1, fun i h => by
  rw [List.mem_append, not_or] at h
  exact (b.2 i h.2).trans (a.2 i h.1)⟩
def JG (X : Cx) (e : Expr) (t : Tg) : Prop := PG X e fun u σ H Q' => ∃ v env env' h, Sim X.K h H ∧ RV X.K H v u ∧ RVo X.K H env σ ∧ bindT t v env = some env' ∧ ∀ σ', Sto t.slots σ σ' → RVo X.K H env' σ' → Q' σ' H
def JGs (X : Cx) (es : List Expr) (t : Tg) : Prop := PGs X es fun us σ H Q' => ∃ vs env env' h, Sim X.K h H ∧ RVs X.K H vs us ∧ RVo X.K H env σ ∧ bindTs t vs env = some env' ∧ ∀ σ', Sto t.slots σ σ' → RVo X.K H env' σ' → Q' σ' H
theorem PG.imp {e : Expr} {t t' : TG} (p : PG X e t) (h : ∀ v σ H Q, t' v σ H Q → t v σ H Q) : PG X e t' := ⟨fun pins s σ H v u Q I r q => p.run pins s σ H v u Q I r (h _ _ _ _ q)⟩
theorem PGs.imp {e : List Expr} {t t' : TGs} (p : PGs X e t) (h : ∀ v σ H Q, t' v σ H Q → t v σ H Q) : PGs X e t' := ⟨fun pins s σ H v u Q I r q => p.run pins s σ H v u Q I r (h _ _ _ _ q)⟩
theorem jg_name {i : Nat} {x : Str} (hN : X.N.Nodup) (hi : X.N[i]? = some x) (hx : Loc X.env.scope x) (hf : X.fn x = true ∨ X.env.scope.names.lookup x = some .local) : JG X (.Name x pos) (.nm i) :=
  PG.imp (pg_name (pos := pos) hN hi hx hf) fun u σ H Q' ⟨v, env, env', h, sm, r, rv, b, k⟩ => by
    cases b
    refine k _ ⟨by rw [List.length_set], fun j hj => ?_⟩ (rv.set r i)
    have hj : i ≠ j := fun z => hj (by rw [z]; exact List.mem_singleton.mpr rfl)
    rw [List.getElem?_set_ne hj]
theorem endT_elim {vs : List Val} {env env' : Env} (b : endT vs env = some env') : vs = [] ∧ env = env' := by
  cases vs with
  | nil => cases b; exact ⟨rfl, rfl⟩
  | cons _ _ => cases b
theorem conT_elim {a : Val → Env → Option Env} {t : List Val → Env → Option Env} {vs : List Val} {env env' : Env} (b : conT a t vs env = some env') : ∃ x xs env1, vs = x :: xs ∧ a x env = some env1 ∧ t xs env1 = some env' := by
  cases vs with
  | nil => cases b
  | cons x xs =>
    unfold conT at b
    split at b
    · rename_i h
      cases h
      split at b
      · exact ⟨_, _, _, rfl, by assumption, b⟩
      · cases b
    · cases b
theorem tupT_elim {t : List Val → Env → Option Env} {v : Val} {env env' : Env} (b : tupT t v env = some env') : ∃ vs, v = .tup vs ∧ t vs env = some env' := by
  cases v <;> first
    | exact ⟨_, rfl, b⟩
    | cases b
theorem jgs_nil : JGs X [] .tn := PGs.imp pgs_nil fun us σ H Q' ⟨vs, env, env', h, sm, r, rv, b, k⟩ => by
  obtain ⟨rfl, rfl⟩ := endT_elim b
  have r : us = [] := r
  subst r
  exact ⟨rfl, k _ (Sto.refl _) rv⟩
theorem jgs_cons {e : Expr} {es : List Expr} {a b : Tg} (h1 : JG X e a) (h2 : JGs X es b) (hs : isStar e = false) : JGs X (e :: es) (.tc a b) :=
  PGs.imp (pgs_cons h1 h2 (by cases e <;> first | rfl | cases hs)) fun us σ H Q' ⟨vs, env, env', h, sm, r, rv, b, k⟩ => by
    obtain ⟨x, xs, env1, rfl, b1, b2⟩ := conT_elim b
    obtain ⟨u, us', rfl, q, t⟩ := r
    exact ⟨u, us', rfl, x, env, env1, h, sm, q, rv, b1, fun σ' z rv' => ⟨xs, env1, env', h, sm, t, rv', b2, fun σ'' z2 rv'' => k _ (z.trans z2) rv''⟩⟩
def Tg.len : Tg → Nat
  | .tc _ b => b.len + 1
  | _ => 0
def Tg.isTup : Tg → Bool
  | .nm _ => false
  | _ => true
theorem bindTs_length : ∀ {t : Tg} {vs : List Val} {env env' : Env}, bindTs t vs env = some env' → vs.length = t.len
  | .tn, vs, env, env', b => by
    obtain ⟨rfl, _⟩ := endT_elim b
    rfl
  | .nm _, _, _, _, b => by cases b
  | .tc a t, vs, env, env', b => by
    obtain ⟨x, xs, env1, rfl, b1, b2⟩ := conT_elim b
    rw [List.length_cons, bindTs_length (t := t) b2]; rfl
theorem bindT_tup {t : Tg} (ht : t.isTup = true) {v : Val} {env env' : Env} (b : bindT t v env = some env') : ∃ vs, v = .tup vs ∧ bindTs t vs env = some env' := by
  cases t with
  | nm i => cases ht
  | tn => exact tupT_elim b
  | tc a t => exact tupT_elim b
theorem each_len {env : PySem.Env} : ∀ (es : List Expr), (assignEach es env).length = es.length
  | [] => rfl
  | e :: es => by
    have ih := each_len (env := env) es
    cases e <;> (simp only [assignEach, List.length_cons]; rw [ih])
theorem each_star {env : PySem.Env} : ∀ {es : List Expr}, es.all (fun e => !isStar e) = true → (assignEach es env).findIdx? (·.1) = none
  | [], _ => rfl
  | e :: es, h => by
    rw [List.all_cons, Bool.and_eq_true] at h
    have ih := each_star (env := env) h.2
    cases e <;> first
      | (simp only [assignEach, List.findIdx?_cons]; rw [ih]; rfl)
      | (exact absurd h.1 (by simp [isStar]))
theorem jg_tup {es : List Expr} {t : Tg} {m : Nat} (hc : X.calm = true) (hs : es.all (fun e => !isStar e) = true) (ht : t.isTup = true) (hl : es.length = t.len) (h : JGs X es t) : JG X (.Tuple es m pos) t :=
  PG.imp (pg_tup (pos := pos) hc h (each_len es) (each_star hs)) fun u σ H Q' ⟨v, env, env', h, sm, r, rv, b, k⟩ => by
    obtain ⟨vs, rfl, b2⟩ := bindT_tup ht b
    obtain ⟨p, us, rfl, t2, q⟩ := r
    exact ⟨p, us, rfl, t2, by rw [q.length, bindTs_length b2, hl], vs, env, env', h, sm, q, rv, b2, k⟩
end
end KM
/-! KMZ: zip and enumerate of lists and tuples, mixed. -/
namespace KM
open PySem PySem.Spec PyProof.Rows L2
/-- a cursor: the iterator at c over the things vs, at the i-th when P i holds -/
structure Cur (c l : Addr) (vs : Array Value) (P : Nat → Heap → Prop) : Prop where
  item : ∀ {prog : Program} {w : World} {A : Around} {E : Value → Shared → Prop} {s : Shared} {i : Nat} {v : Value} {Q : Value → Shared → Prop}, P i s.heap → vs[i]? = some v →
    (∀ g, P (i + 1) g → Heap.SameBut c s.heap g → Q v { s with heap := g }) → wpAny (model prog w) A (Builtin.SmallTypes.nextOf (.ref c)) Q E s
  stop : ∀ {prog : Program} {w : World} {A : Around} {E : Value → Shared → Prop} {s : Shared} {i : Nat} {Q : Value → Shared → Prop}, A.handled = none → P i s.heap → vs[i]? = none →
    (∀ g e, Heap.ExtBut c s.heap g → (∃ o, g.get? e = some o ∧ o.cls = .type "StopIteration") → E (.ref e) { s with heap := g }) → wpAny (model prog w) A (Builtin.SmallTypes.nextOf (.ref c)) Q E s
  keep : ∀ {i : Nat} {g g' : Heap}, P i g → (∀ o, g.get? c = some o → g'.get? c = some o) → (∀ o, g.get? l = some o → g'.get? l = some o) → P i g'
  lies : ∀ {i : Nat} {g : Heap}, P i g → ∃ o, g.get? c = some o ∧ ∀ v, o.data ≠ .cell v
theorem listOf_at {g g' : Heap} {l : Addr} {vs : Array Value} (x : g.IsList l vs) (k : ∀ o, g.get? l = some o → g'.get? l = some o) : g'.IsList l vs := by
  obtain ⟨o, e, r⟩ := x
  exact ⟨o, k o e, r⟩
theorem tupOf_at {g g' : Heap} {l : Addr} {vs : Array Value} (x : g.IsTuple l vs) (k : ∀ o, g.get? l = some o → g'.get? l = some o) : g'.IsTuple l vs := by
  obtain ⟨o, e, r⟩ := x
  exact ⟨o, k o e, r⟩
theorem cur_list {c l : Addr} {vs : Array Value} (ne : c ≠ l) : Cur c l vs fun i g => g.IsListIter c l i ∧ g.IsList l vs where
  item := fun ⟨a, b⟩ e q => wpAny_nextOf_list_item a b e fun g p sb => q g ⟨p, listOf_at b fun o z => sb.extBut _ _ (Ne.symm ne) z⟩ sb
  stop := fun hh ⟨a, b⟩ e q => wpAny_nextOf_list_end hh a b e q
  keep := fun ⟨a, b⟩ k k' => ⟨a.at k, listOf_at b k'⟩
  lies := fun ⟨⟨o, e, _, d⟩, _⟩ => ⟨o, e, fun v z => by rw [d] at z; cases z⟩
theorem cur_tup {c l : Addr} {vs : Array Value} (ne : c ≠ l) : Cur c l vs fun i g => g.IsTupleIter c l i ∧ g.IsTuple l vs where
  item := fun ⟨a, b⟩ e q => RZ.nextOf_tuple_item a b e fun g p sb => q g ⟨p, tupOf_at b fun o z => sb.extBut _ _ (Ne.symm ne) z⟩ sb
  stop := fun hh ⟨a, b⟩ e q => RZ.nextOf_tuple_end hh a b e q
  keep := fun ⟨a, b⟩ k k' => ⟨a.at k, tupOf_at b k'⟩
  lies := fun ⟨⟨o, e, _, d⟩, _⟩ => ⟨o, e, fun v z => by rw [d] at z; cases z⟩
section
variable {prog : Program} {w : World} {A : Around} {E : Value → Shared → Prop} {s : Shared} {q TI TO c d l m : Addr} {vs us : Array Value} {P R : Nat → Heap → Prop}
/-- a cursor stays where only other places are written -/
theorem Cur.ext (C : Cur c l vs P) {i : Nat} {g g' : Heap} {b : Addr} (p : P i g) (x : Heap.ExtBut b g g') (n1 : c ≠ b) (n2 : l ≠ b) : P i g' := C.keep p (fun o e => x _ _ n1 e) fun o e => x _ _ n2 e
theorem zx_item (D : ZipApart q TI TO c d l m) (C : Cur c l vs P) (C' : Cur d m us R) {i j : Nat} {v u a b : Value} {Q : Value → Shared → Prop}
    (hq : IsZip s.heap q TI TO .none) (hI : IsPair s.heap TI (.ref c) (.ref d)) (hO : IsPair s.heap TO a b) (p : P i s.heap) (r : R j s.heap) (ev : vs[i]? = some v) (eu : us[j]? = some u)
    (k : ∀ g, IsZip g q TI TO (rawInt s.heap.objs.size) → IsPair g TO v u → P (i + 1) g → R (j + 1) g → IsPair g s.heap.objs.size v u → g.objs.size = s.heap.objs.size + 1 →
      (∀ x o, x ≠ q → x ≠ TO → x ≠ c → x ≠ d → s.heap.get? x = some o → g.get? x = some o) → Q (.ref s.heap.objs.size) { s with heap := g }) :
    wpAny (model prog w) A (Builtin.«zip.__next__» ⟨[.ref q], []⟩) (fun fin t => ∃ x, fin = .done (.ret x) ∧ Q x t) E s := by
  show wpAny _ _ (field (.ref q) 2 >>= _) _ _ _
  refine wpAny_bind (wpAny_field hq rfl (x := .bool false) rfl ?_); show wpAny _ _ (field (.ref q) 3 >>= _) _ _ _
  refine wpAny_bind (wpAny_field hq rfl (x := .ref TI) rfl (wpAny_bind (wpAny_seqItems hI rfl ?_)))
  show wpAny _ _ (Builtin.SmallTypes.ownedTupleIsFree (.ref q) >>= _) _ _ _
  refine wpAny_bind ?_; unfold Builtin.SmallTypes.ownedTupleIsFree
  refine wpAny_bind (wpAny_field hq rfl (x := .none) rfl (wpAny_pure ?_)); simp only [if_true]
  refine wpAny_bind (wpAny_rule (wpAny_bind (wpAny_field hq rfl (x := .ref TO) rfl (wpAny_bind (wpAny_setField_rec hq (by simp) fun g1 y1 b1 => ?_)))))
  replace y1 : IsZip g1 q TI TO .ellipsis := y1
  refine wpAny_bind ?_; simp only [List.zipIdx_cons, List.zipIdx_nil, List.forIn_cons, List.forIn_nil]
  refine wpAny_bind (wpAny_bind (wpAny_onRaise ?_)); show wpAny _ _ (Builtin.SmallTypes.nextOf (.ref c) >>= _) _ _ _
  refine wpAny_bind (C.item (C.ext p b1.extBut D.i1z D.l1z) ev fun g2 p2 b2 => wpAny_pure ?_)
  have o2 : IsPair g2 TO a b := b2.extBut _ _ D.TOi1 (b1.extBut _ _ D.TOz hO)
  refine wpAny_bind (wpAny_seqItems o2 rfl (wpAny_bind (wpAny_updateSeq_pair o2 fun g3 o3 b3 => ?_)))
  replace o3 : IsPair g3 TO v b := o3
  refine wpAny_bind (wpAny_letGo (wpAny_pure (wpAny_bind (wpAny_bind (wpAny_onRaise ?_))))); show wpAny _ _ (Builtin.SmallTypes.nextOf (.ref d) >>= _) _ _ _
  refine wpAny_bind (C'.item (C'.ext (C'.ext (C'.ext r b1.extBut D.i2z D.l2z) b2.extBut D.i12.symm D.l2i1) b3.extBut D.TOi2.symm D.l2TO) eu fun g4 r4 b4 => wpAny_pure ?_)
  have o4 : IsPair g4 TO v b := b4.extBut _ _ D.TOi2 o3
  refine wpAny_bind (wpAny_seqItems o4 rfl (wpAny_bind (wpAny_updateSeq_pair o4 fun g5 o5 b5 => ?_)))
  replace o5 : IsPair g5 TO v u := o5
  refine wpAny_bind (wpAny_letGo (wpAny_pure (wpAny_pure (wpAny_bind (wpAny_seqItems o5 rfl (wpAny_bind (wpAny_newTuple ?_)))))))
  have size5 : g5.objs.size = s.heap.objs.size := by rw [b5.1, b4.1, b3.1, b2.1, b1.1]
  have y5 : IsZip g5 q TI TO .ellipsis := b5.extBut _ _ D.TOz.symm (b4.extBut _ _ D.i2z.symm (b3.extBut _ _ D.TOz.symm (b2.extBut _ _ D.i1z.symm y1)))
  have k5 : ∀ x o, x ≠ q → x ≠ TO → x ≠ c → x ≠ d → s.heap.get? x = some o → g5.get? x = some o := fun x o n1 n2 n3 n4 e =>
    b5.extBut _ _ n2 (b4.extBut _ _ n4 (b3.extBut _ _ n2 (b2.extBut _ _ n3 (b1.extBut _ _ n1 e))))
  have p5 : P (i + 1) g5 := C.ext (C.ext (C.ext p2 b3.extBut D.TOi1.symm D.l1TO) b4.extBut D.i12 D.l1i2) b5.extBut D.TOi1.symm D.l1TO
  have r5 : R (j + 1) g5 := C'.ext r4 b5.extBut D.TOi2.symm D.l2TO
  have lq : q < g5.objs.size := Heap.lt_size y5
  show wpAny _ _ (Builtin.SmallTypes.ownedTupleHandOut (.ref q) (.ref g5.objs.size) >>= _) _ _ _
  refine wpAny_bind ?_; unfold Builtin.SmallTypes.ownedTupleHandOut
  have y6 : IsZip (g5.push { cls := .type "tuple", data := .seq #[v, u] }) q TI TO .ellipsis := Heap.get?_push_of_some _ y5
  refine wpAny_bind (wpAny_setField_rec y6 (by simp) fun g7 y7 b7 => ?_)
  replace y7 : IsZip g7 q TI TO (rawInt g5.objs.size) := y7
  refine wpAny_setField_rec y7 (by simp) fun g8 y8 b8 => ?_
  replace y8 : IsZip g8 q TI TO (rawInt g5.objs.size) := y8
  have up : ∀ x o, x ≠ q → g5.get? x = some o → g8.get? x = some o := fun x o n e => b8.extBut _ _ n (b7.extBut _ _ n (Heap.get?_push_of_some _ e))
  have t8 : IsPair g8 g5.objs.size v u := b8.extBut _ _ (Nat.ne_of_gt lq) (b7.extBut _ _ (Nat.ne_of_gt lq) (Heap.get?_push_size _ rfl))
  have size8 : g8.objs.size = g5.objs.size + 1 := by rw [b8.1, b7.1, Heap.size_push]
  rw [size5] at y8 t8 size8
  refine wpAny_pure ⟨_, rfl, ?_⟩
  show Q (.ref g5.objs.size) _
  rw [size5]
  exact k g8 y8 (up _ _ D.TOz o5) (C.keep p5 (fun o e => up _ o D.i1z e) fun o e => up _ o D.l1z e) (C'.keep r5 (fun o e => up _ o D.i2z e) fun o e => up _ o D.l2z e) t8 size8 fun x o n1 n2 n3 n4 e => up x o n1 (k5 x o n1 n2 n3 n4 e)
theorem zx_stop (hh : A.handled = none) (D : ZipApart q TI TO c d l m) (C : Cur c l vs P) (C' : Cur d m us R) {i j : Nat} {a b : Value} {Q : Fin → Shared → Prop}
    (hq : IsZip s.heap q TI TO .none) (hI : IsPair s.heap TI (.ref c) (.ref d)) (hO : IsPair s.heap TO a b) (p : P i s.heap) (r : R j s.heap) (no : vs[i]? = none ∨ us[j]? = none)
    (k : ∀ g e, (∀ x o, x ≠ q → x ≠ TO → x ≠ c → x ≠ d → s.heap.get? x = some o → g.get? x = some o) → (∃ o, g.get? e = some o ∧ o.cls = .type "StopIteration") → E (.ref e) { s with heap := g }) :
    wpAny (model prog w) A (Builtin.«zip.__next__» ⟨[.ref q], []⟩) Q E s := by
  show wpAny _ _ (field (.ref q) 2 >>= _) _ _ _
  refine wpAny_bind (wpAny_field hq rfl (x := .bool false) rfl ?_); show wpAny _ _ (field (.ref q) 3 >>= _) _ _ _
  refine wpAny_bind (wpAny_field hq rfl (x := .ref TI) rfl (wpAny_bind (wpAny_seqItems hI rfl ?_)))
  show wpAny _ _ (Builtin.SmallTypes.ownedTupleIsFree (.ref q) >>= _) _ _ _
  refine wpAny_bind ?_; unfold Builtin.SmallTypes.ownedTupleIsFree
  refine wpAny_bind (wpAny_field hq rfl (x := .none) rfl (wpAny_pure ?_)); simp only [if_true]
  refine wpAny_bind (wpAny_rule (wpAny_bind (wpAny_field hq rfl (x := .ref TO) rfl (wpAny_bind (wpAny_setField_rec hq (by simp) fun g1 y1 b1 => ?_)))))
  replace y1 : IsZip g1 q TI TO .ellipsis := y1
  refine wpAny_bind ?_; simp only [List.zipIdx_cons, List.zipIdx_nil, List.forIn_cons, List.forIn_nil]
  refine wpAny_bind (wpAny_bind (wpAny_onRaise ?_)); show wpAny _ _ (Builtin.SmallTypes.nextOf (.ref c) >>= _) _ _ _
  have p1 := C.ext p b1.extBut D.i1z D.l1z
  have tell : ∀ {g2 : Heap} {e : Addr}, IsZip g2 q TI TO .ellipsis → (∃ o, g2.get? e = some o ∧ o.cls = .type "StopIteration") → e ≠ q := fun y ⟨o, h1, h2⟩ z => by
    subst z; rw [y] at h1; cases h1; simp at h2
  cases ev : vs[i]? with
  | none =>
    refine wpAny_bind (C.stop hh p1 ev fun g2 e x2 he => ?_)
    have y2 : IsZip g2 q TI TO .ellipsis := x2 _ _ D.i1z.symm y1
    have ne := tell y2 he
    obtain ⟨o, h1, h2⟩ := he
    refine wpAny_setField_rec y2 (by simp) fun g3 _ b3 => k g3 e (fun x o n1 _ n3 _ z => b3.extBut _ _ n1 (x2 _ _ n3 (b1.extBut _ _ n1 z))) ⟨o, b3.extBut _ _ ne h1, h2⟩
  | some v =>
    have eu : us[j]? = none := by
      rcases no with z | z
      · rw [ev] at z; cases z
      · exact z
    refine wpAny_bind (C.item p1 ev fun g2 p2 b2 => wpAny_pure ?_)
    have o2 : IsPair g2 TO a b := b2.extBut _ _ D.TOi1 (b1.extBut _ _ D.TOz hO)
    refine wpAny_bind (wpAny_seqItems o2 rfl (wpAny_bind (wpAny_updateSeq_pair o2 fun g3 o3 b3 => ?_)))
    refine wpAny_bind (wpAny_letGo (wpAny_pure (wpAny_bind (wpAny_bind (wpAny_onRaise ?_))))); show wpAny _ _ (Builtin.SmallTypes.nextOf (.ref d) >>= _) _ _ _
    refine wpAny_bind (C'.stop hh (C'.ext (C'.ext (C'.ext r b1.extBut D.i2z D.l2z) b2.extBut D.i12.symm D.l2i1) b3.extBut D.TOi2.symm D.l2TO) eu fun g4 e x4 he => ?_)
    have y4 : IsZip g4 q TI TO .ellipsis := x4 _ _ D.i2z.symm (b3.extBut _ _ D.TOz.symm (b2.extBut _ _ D.i1z.symm y1))
    have ne := tell y4 he
    obtain ⟨o, h1, h2⟩ := he
    refine wpAny_setField_rec y4 (by simp) fun g5 _ b5 => k g5 e (fun x o n1 n2 n3 n4 z => b5.extBut _ _ n1 (x4 _ _ n4 (b3.extBut _ _ n2 (b2.extBut _ _ n3 (b1.extBut _ _ n1 z))))) ⟨o, b5.extBut _ _ ne h1, h2⟩
theorem px_item (D : ZipApart q TI TO c d l m) (C : Cur c l vs P) (C' : Cur d m us R) {i j : Nat} {v u a b : Value} {Q : Option Value → Shared → Prop}
    (hq : IsZip s.heap q TI TO .none) (hI : IsPair s.heap TI (.ref c) (.ref d)) (hO : IsPair s.heap TO a b) (p : P i s.heap) (r : R j s.heap) (ev : vs[i]? = some v) (eu : us[j]? = some u)
    (k : ∀ g, IsZip g q TI TO (rawInt s.heap.objs.size) → IsPair g TO v u → P (i + 1) g → R (j + 1) g → IsPair g s.heap.objs.size v u → g.objs.size = s.heap.objs.size + 1 →
      (∀ x o, x ≠ q → x ≠ TO → x ≠ c → x ≠ d → s.heap.get? x = some o → g.get? x = some o) → Q (some (.ref s.heap.objs.size)) { s with heap := g }) :
    wpAny (model prog w) A (pyNext (.ref q)) Q E s := by
  have ty : s.TypeIs (.ref q) "zip" := ⟨_, hq, rfl⟩
  unfold pyNext
  refine wpAny_bind (wpAny_attempt (wpAny_callSpecial?_slot (name := Str.ofString "__next__") ty F.slot_zip_next (wpAny_call_entry F.slot_zip_next ty F.entry_zip_next ?_ (F.args_zip_next_1 _))))
  exact zx_item D C C' hq hI hO p r ev eu fun g k1 k2 k3 k4 k5 k6 k7 => wpAny_pure (k g k1 k2 k3 k4 k5 k6 k7)
theorem px_stop (hh : A.handled = none) (D : ZipApart q TI TO c d l m) (C : Cur c l vs P) (C' : Cur d m us R) {i j : Nat} {a b : Value} {Q : Option Value → Shared → Prop}
    (hq : IsZip s.heap q TI TO .none) (hI : IsPair s.heap TI (.ref c) (.ref d)) (hO : IsPair s.heap TO a b) (p : P i s.heap) (r : R j s.heap) (no : vs[i]? = none ∨ us[j]? = none)
    (k : ∀ g, (∀ x o, x ≠ q → x ≠ TO → x ≠ c → x ≠ d → s.heap.get? x = some o → g.get? x = some o) → Q none { s with heap := g }) : wpAny (model prog w) A (pyNext (.ref q)) Q E s := by
  have ty : s.TypeIs (.ref q) "zip" := ⟨_, hq, rfl⟩
  unfold pyNext
  refine wpAny_bind (wpAny_attempt (wpAny_callSpecial?_slot (name := Str.ofString "__next__") ty F.slot_zip_next (wpAny_call_entry F.slot_zip_next ty F.entry_zip_next ?_ (F.args_zip_next_1 _))))
  refine zx_stop (A := A.in1) (show A.in1.handled = none from hh) D C C' hq hI hO p r no fun g e x he => ?_
  obtain ⟨o, h1, h2⟩ := he
  exact wpAny_bind (wpAny_isInstance (T := "StopIteration") (b := true) ⟨o, h1, h2⟩ isSubtype_stop (wpAny_pure (k _ x)))
/-! ### by kinds: false a list, true a tuple -/
end
def itName (k : Bool) : String := if k then "tuple_iterator" else "list_iterator"
def IterX (k : Bool) (c l : Addr) (i : Nat) (g : Heap) : Prop := match k with
  | false => g.IsListIter c l i
  | true => g.IsTupleIter c l i
def HeapX (k : Bool) (l : Addr) (vs : Array Value) (g : Heap) : Prop := match k with
  | false => g.IsList l vs
  | true => g.IsTuple l vs
def SqX (k : Bool) (K : PySem.W.Frag) (H : Hp) (a : Addr) (xs : List V) : Prop := match k with
  | false => SqL K H a xs
  | true => SqT K H a xs
theorem cur_x (k : Bool) {c l : Addr} {vs : Array Value} (ne : c ≠ l) : Cur c l vs fun i g => IterX k c l i g ∧ HeapX k l vs g := match k with
  | false => cur_list ne
  | true => cur_tup ne
theorem IterX.at {k : Bool} {c l : Addr} {i : Nat} {g g' : Heap} (x : IterX k c l i g) (e : ∀ o, g.get? c = some o → g'.get? c = some o) : IterX k c l i g' := match k, x with
  | false, x => Heap.IsListIter.at x e
  | true, x => Heap.IsTupleIter.at x e
theorem IterX.obj {k : Bool} {c l : Addr} {i : Nat} {g : Heap} (x : IterX k c l i g) : ∃ o, g.get? c = some o ∧ ∀ v, o.data ≠ .cell v := match k, x with
  | false, ⟨o, e, _, d⟩ => ⟨o, e, fun v z => by rw [d] at z; cases z⟩
  | true, ⟨o, e, _, d⟩ => ⟨o, e, fun v z => by rw [d] at z; cases z⟩
theorem iter_of {k : Bool} {c l : Addr} {g : Heap} {sl : Array (Option Value)} (e : g.get? c = some { cls := .type (itName k), data := .fields #[.ref l, .int 0 0], slots := sl }) : IterX k c l 0 g := match k, e with
  | false, e => ⟨_, e, rfl, rfl⟩
  | true, e => ⟨_, e, rfl, rfl⟩
theorem HeapX.push {k : Bool} {l : Addr} {vs : Array Value} {g : Heap} (x : HeapX k l vs g) (o : Obj) : HeapX k l vs (g.push o) := match k, x with
  | false, x => Heap.IsList.push x o
  | true, x => Heap.IsTuple.push x o
theorem HeapX.lt {k : Bool} {l : Addr} {vs : Array Value} {g : Heap} (x : HeapX k l vs g) : l < g.objs.size := match k, x with
  | false, ⟨_, e, _⟩ => Heap.lt_size e
  | true, ⟨_, e, _⟩ => Heap.lt_size e
theorem iter_go {k : Bool} {l : Addr} {vs : Array Value} {prog : Program} {w : World} {A : Around} {E : Value → Shared → Prop} {s : Shared} {Q : Value → Shared → Prop} (x : HeapX k l vs s.heap)
    (q : Q (.ref s.heap.objs.size) { s with heap := s.heap.push { cls := .type (itName k), data := .fields #[.ref l, .int 0 0] } }) : wpAny (model prog w) A (pyIter (.ref l)) Q E s := match k, x, q with
  | false, x, q => wpAny_pyIter_list x q
  | true, x, q => wpAny_pyIter_tuple x q
abbrev zh1 (k : Bool) (g : Heap) (l : Addr) : Heap := g.push { cls := .type (itName k), data := .fields #[.ref l, .int 0 0] }
abbrev zh2 (k k' : Bool) (g : Heap) (l m : Addr) : Heap := zh1 k' (zh1 k g l) m
abbrev zh3 (k k' : Bool) (g : Heap) (l m : Addr) : Heap := (zh2 k k' g l m).push { cls := .type "tuple", data := .seq #[.ref g.objs.size, .ref (zh1 k g l).objs.size] }
abbrev zh4 (k k' : Bool) (g : Heap) (l m : Addr) : Heap := (zh3 k k' g l m).push { cls := .type "tuple", data := .seq #[.none, .none] }
abbrev zh5 (k k' : Bool) (g : Heap) (l m : Addr) : Heap := (zh4 k k' g l m).push { cls := .type "zip", data := .fields #[.none, .bool false, .bool false, .ref (zh2 k k' g l m).objs.size, .ref (zh3 k k' g l m).objs.size] }
theorem zip_made (k k' : Bool) (l m : Addr) (vs us : Array Value) :
    Meets (Builtin.«zip.__new__» ⟨[.type "zip", .ref l, .ref m], []⟩) (fun _ R s => HeapX k l vs s.heap ∧ HeapX k' m us s.heap ∧ R (.ok (.ret (.ref (zh4 k k' s.heap l m).objs.size))) { s with heap := zh5 k k' s.heap l m }) :=
  .of_wp fun prog w A R s h => by
    obtain ⟨g, gn, dr, tk, os⟩ := s
    obtain ⟨a, b, h⟩ := h
    have sz := sub_zip
    have a' : HeapX k l vs (Shared.heap ⟨g, gn, dr, tk, os⟩) := a
    have b' : HeapX k' m us (Shared.heap ⟨g.push { cls := .type (itName k), data := .fields #[.ref l, .int 0 0] }, gn, dr, tk, os⟩) := HeapX.push b _
    wp_walk using iter_go a', iter_go b'
    exact ⟨_, rfl, h⟩
section
variable {prog : Program} {w : World} {A : Around} {E : Value → Shared → Prop} {s : Shared} {l m : Addr} {vs us : Array Value}
theorem zip_call {k k' : Bool} {Q : Value → Shared → Prop} (a : HeapX k l vs s.heap) (b : HeapX k' m us s.heap)
    (h : ∀ g, IsZip g (s.heap.objs.size + 4) (s.heap.objs.size + 2) (s.heap.objs.size + 3) .none → IsPair g (s.heap.objs.size + 2) (.ref s.heap.objs.size) (.ref (s.heap.objs.size + 1)) →
      IsPair g (s.heap.objs.size + 3) .none .none → IterX k s.heap.objs.size l 0 g → IterX k' (s.heap.objs.size + 1) m 0 g → g.objs.size = s.heap.objs.size + 5 →
      (∀ c o, s.heap.get? c = some o → g.get? c = some o) → Q (.ref (s.heap.objs.size + 4)) { s with heap := g }) :
    wpAny (model prog w) A (call (.type "zip") [.ref l, .ref m]) Q E s := by
  refine callType_new F.called_zip (by decide) (F.typeCall_zip_2 _ _) (F.newCall_zip_2 _ _) (fun ob => F.args_object_init_3 ob _ _) F.entry_zip_new (zip_made k k' l m vs us) ⟨a, b, ?_⟩
  have n1 : (zh1 k s.heap l).objs.size = s.heap.objs.size + 1 := Heap.size_push ..
  have n2 : (zh2 k k' s.heap l m).objs.size = s.heap.objs.size + 2 := by rw [Heap.size_push, n1]
  have n3 : (zh3 k k' s.heap l m).objs.size = s.heap.objs.size + 3 := by rw [Heap.size_push, n2]
  have n4 : (zh4 k k' s.heap l m).objs.size = s.heap.objs.size + 4 := by rw [Heap.size_push, n3]
  have n5 : (zh5 k k' s.heap l m).objs.size = s.heap.objs.size + 5 := by rw [Heap.size_push, n4]
  have e5 : (zh5 k k' s.heap l m).get? (zh4 k k' s.heap l m).objs.size = some _ := Heap.get?_push_size _ rfl
  have e4 : (zh5 k k' s.heap l m).get? (zh3 k k' s.heap l m).objs.size = some _ := Heap.get?_push_of_some _ (Heap.get?_push_size _ rfl)
  have e3 : (zh5 k k' s.heap l m).get? (zh2 k k' s.heap l m).objs.size = some _ := Heap.get?_push_of_some _ (Heap.get?_push_of_some _ (Heap.get?_push_size _ rfl))
  have e2 : (zh5 k k' s.heap l m).get? (zh1 k s.heap l).objs.size = some _ := Heap.get?_push_of_some _ (Heap.get?_push_of_some _ (Heap.get?_push_of_some _ (Heap.get?_push_size _ rfl)))
  have e1 : (zh5 k k' s.heap l m).get? s.heap.objs.size = some _ := Heap.get?_push_of_some _ (Heap.get?_push_of_some _ (Heap.get?_push_of_some _ (Heap.get?_push_of_some _ (Heap.get?_push_size _ rfl))))
  show _ ∧ _
  rw [n2, n3, n4] at e5; rw [n1, n2] at e3; rw [n3] at e4; rw [n1] at e2; rw [n4]
  exact ⟨⟨_, e5, rfl⟩, h _ e5 e3 e4 (iter_of e1) (iter_of e2) n5 fun c o x => Heap.get?_push_of_some _ (Heap.get?_push_of_some _ (Heap.get?_push_of_some _ (Heap.get?_push_of_some _ (Heap.get?_push_of_some _ x))))⟩
end
section
variable {X : Cx} {pins : List (Addr × Obj)} {σ : L2.St} {H : Hp} {s : Shared}
theorem inv_sq (I : Inv X pins σ H s) {k : Bool} {a : Addr} {xs : List V} (q : SqX k X.K H a xs) : ∃ its : List Value, Vals xs its ∧ HeapX k a its.toArray s.heap := match k, q with
  | false, q => by
    obtain ⟨its, rv, p, _⟩ := I.list q
    exact ⟨its, rv, p.isList⟩
  | true, q => by
    obtain ⟨its, rv, p, _⟩ := I.tuple q
    exact ⟨its, rv, p⟩
theorem inv_sq_inj (I : Inv X pins σ H s) {k : Bool} {a : Addr} {xs ys : List V} (q : SqX k X.K H a xs) (r : SqX k X.K H a ys) : xs = ys := match k, q, r with
  | false, q, r => I.list_inj q r
  | true, q, r => I.tuple_inj q r
end
/-- two sequences walked side by side -/
def ItX (K : PySem.W.Frag) (k k' : Bool) (a b : Addr) : It :=
  ⟨fun i H => ∃ (xs ys : List V) (x y : V), SqX k K H a xs ∧ SqX k' K H b ys ∧ xs[i]? = some x ∧ ys[i]? = some y,
    fun i H v H' => ∃ t x y, v = .ref t ∧ H t = none ∧ H' = upd H t (.tup [x, y]) ∧ (∀ xs, SqX k K H a xs → xs[i]? = some x) ∧ ∀ ys, SqX k' K H b ys → ys[i]? = some y,
    fun i H => ∃ xs ys : List V, SqX k K H a xs ∧ SqX k' K H b ys ∧ (xs.length ≤ i ∨ ys.length ≤ i)⟩
theorem turn_x {P : Program} {w : World} {K : PySem.W.Frag} {elts : List Expr} {kk : Nat} {tpos : Pos} {k k' : Bool} {a b q TI TO c d : Addr} (D : ZipApart q TI TO c d a b) :
    Turn P w K (.Tuple elts kk tpos) (ItX K k k' a b) [q, TI, TO, c, d] q (fun i g => IsZip g q TI TO .none ∧ IsPair g TI (.ref c) (.ref d) ∧ (∃ x y, IsPair g TO x y) ∧ IterX k c a i g ∧ IterX k' d b i g) where
  mem := by simp
  obj := fun i g st e he => by
    obtain ⟨y, yI, ⟨x1, x2, yO⟩, p, r⟩ := st
    have e' : e = q ∨ e = TI ∨ e = TO ∨ e = c ∨ e = d := by simpa using he
    rcases e' with z | z | z | z | z <;> subst z
    · exact ⟨_, y, fun v z => nomatch z⟩
    · exact ⟨_, yI, fun v z => nomatch z⟩
    · exact ⟨_, yO, fun v z => nomatch z⟩
    · exact p.obj
    · exact r.obj
  keep := fun i g g' st kp => by
    obtain ⟨y, yI, ⟨x1, x2, yO⟩, p, r⟩ := st
    exact ⟨kp q (by simp) _ y, kp TI (by simp) _ yI, ⟨x1, x2, kp TO (by simp) _ yO⟩, p.at fun o e => kp c (by simp) o e, r.at fun o e => kp d (by simp) o e⟩
  item := by
    intro X hP hw hK hc i pins s σ H E I hf st hg
    subst hP hw hK
    obtain ⟨y, yI, ⟨x0, z0, yO⟩, p, r⟩ := st
    obtain ⟨xs, ys, xv, yv, hx, hy, ex, ey⟩ := hg
    obtain ⟨vs, rv, hv⟩ := inv_sq I hx
    obtain ⟨us, ru, hu⟩ := inv_sq I hy
    obtain ⟨v, ev, rv1⟩ := rv.get ex
    obtain ⟨u, eu, ru1⟩ := ru.get ey
    have lq : q < s.heap.objs.size := Heap.lt_size y
    refine px_item D (cur_x k D.l1i1.symm) (cur_x k' D.l2i2.symm) y yI yO ⟨p, hv⟩ ⟨r, hu⟩ (v := v) (u := u) (by simpa using ev) (by simpa using eu) fun g y' yO' p' r' yT size kp => ?_
    refine ⟨_, rfl, wpAny_letOwnedTupleGo_zip (s := { s with heap := g }) y' fun g2 y2 sb => ?_⟩
    have yT2 : g2.get? s.heap.objs.size = some { cls := .type "tuple", data := .seq #[v, u] } := (sb.2 _ (Nat.ne_of_gt lq)).trans yT
    have ob : ObjOk X.prog X.w (upd H s.heap.objs.size (.tup [xv, yv])) g2 s.heap.objs.size (.tup [xv, yv]) := ⟨by show 2 ≤ sizeLine; decide, [v, u], .cons rv1 (.cons ru1 .nil), ⟨_, yT2, rfl, _, rfl⟩⟩
    have I2 : Inv X pins σ (upd H s.heap.objs.size (.tup [xv, yv])) { s with heap := g2 } :=
      I.turnedNew (t' := s.toks) (ch := [q, TI, TO, c, d]) (fun e o hb z => (sb.2 e (fun z' => hb (by simp [z']))).trans (kp e o (fun z' => hb (by simp [z'])) (fun z' => hb (by simp [z'])) (fun z' => hb (by simp [z'])) (fun z' => hb (by simp [z'])) z)) hf (Nat.le_refl _) ob
    refine ⟨.ref s.heap.objs.size, _, I2, rfl, ⟨_, xv, yv, rfl, I.hok.fresh (Nat.le_refl _), rfl, fun xs' h => by rw [inv_sq_inj I h hx]; exact ex, fun ys' h => by rw [inv_sq_inj I h hy]; exact ey⟩, ⟨y2, ?_, ⟨v, u, ?_⟩, ?_, ?_⟩, fun e he => ?_⟩
    · exact (sb.2 _ D.TIz).trans (kp _ _ D.TIz D.TITO D.TIi1 D.TIi2 yI)
    · exact (sb.2 _ D.TOz).trans yO'
    · exact p'.1.at fun o z => (sb.2 _ D.i1z).trans z
    · exact r'.1.at fun o z => (sb.2 _ D.i2z).trans z
    · have lt : e < s.heap.objs.size := by
        have e' : e = q ∨ e = TI ∨ e = TO ∨ e = c ∨ e = d := by simpa using he
        rcases e' with z | z | z | z | z <;> subst z
        · exact lq
        · exact Heap.lt_size yI
        · exact Heap.lt_size yO
        · obtain ⟨_, z, _⟩ := p.obj; exact Heap.lt_size z
        · obtain ⟨_, z, _⟩ := r.obj; exact Heap.lt_size z
      rw [upd_ne (Nat.ne_of_lt lt)]
      exact (hf e he).1
  done := by
    intro X hP hw hK hc i pins s σ H E I hf st hg
    subst hP hw hK
    obtain ⟨y, yI, ⟨x0, z0, yO⟩, p, r⟩ := st
    obtain ⟨xs, ys, hx, hy, no⟩ := hg
    obtain ⟨vs, rv, hv⟩ := inv_sq I hx
    obtain ⟨us, ru, hu⟩ := inv_sq I hy
    have l1 := rv.length
    have l2 := ru.length
    have no' : vs.toArray[i]? = none ∨ us.toArray[i]? = none := no.imp (fun z => by simp; omega) fun z => by simp; omega
    exact px_stop (I.ok.hd hc) D (cur_x k D.l1i1.symm) (cur_x k' D.l2i2.symm) y yI yO ⟨p, hv⟩ ⟨r, hu⟩ no' fun g kp => ⟨rfl, I.turnedL (t' := s.toks) (ch := [q, TI, TO, c, d]) (fun e o hb z =>
      kp e o (fun z' => hb (by simp [z'])) (fun z' => hb (by simp [z'])) (fun z' => hb (by simp [z'])) (fun z' => hb (by simp [z'])) z) hf⟩
  self := fun A i s Q E st h => wpAny_pyIter_zip st.1 h
def iX (K : PySem.W.Frag) (ta : TA) : TI := fun σ H R => ta σ H fun vs H1 => ∃ k k' a b xs ys, vs = [.ref a, .ref b] ∧ SqX k K H1 a xs ∧ SqX k' K H1 b ys ∧ R (ItX K k k' a b) H1
theorem pi_zipX {X : Cx} {e e2 : Expr} {ta : TA} {p pos tpos : Pos} {elts : List Expr} {kk : Nat} (hg : Gl X "zip") (hm : X.mg "zip" = none) (ha : PA X [e, e2] ta)
    (hs : starEach [e, e2] X.env = (false, eval e X.env) :: starEach [e2] X.env) (hpl : (backTo pos (starEach [e2] X.env)).any (·.1) = false) : PI X (.Tuple elts kk tpos) (.Call (.Name "zip" p) [e, e2] [] pos) (iX X.K ta) := by
  refine ⟨fun pins s σ H R I h => ?_⟩
  refine Call_ (ld_blt I hg hm PyProof.Rows.boot_zip (PyProof.Rows.callWith_type1 (thn (ha.run pos pins s σ H _ I h) fun us s1 ⟨vs, H1, I1, r1, q1⟩ => ?_) hs hpl))
  obtain ⟨k, k', a, b, xs, ys, ex, hx, hy, q1⟩ := q1
  subst ex
  cases r1 with
  | cons r rr =>
    cases rr with
    | cons r' rr =>
      cases rr
      cases r
      cases r'
      obtain ⟨as, rva, ha'⟩ := inv_sq I1 hx
      obtain ⟨bs, rvb, hb'⟩ := inv_sq I1 hy
      refine zip_call ha' hb' fun g y yI yO p1 p2 size kp => wpAny_pyIter_zip y ?_
      have I2 : Inv X pins σ H1 { s1 with heap := g } := I1.kept (t' := s1.toks) kp
      refine ⟨s1.heap.objs.size + 4, [s1.heap.objs.size + 4, s1.heap.objs.size + 2, s1.heap.objs.size + 3, s1.heap.objs.size, s1.heap.objs.size + 1], _, _, H1, rfl, I2, turn_x (PySem.W.ktu_apart s1.heap.objs.size a b ha'.lt hb'.lt), ⟨y, yI, ⟨_, _, yO⟩, p1, p2⟩, fun e he => ?_, q1⟩
      have le : s1.heap.objs.size ≤ e := by
        have e' : e = s1.heap.objs.size + 4 ∨ e = s1.heap.objs.size + 2 ∨ e = s1.heap.objs.size + 3 ∨ e = s1.heap.objs.size ∨ e = s1.heap.objs.size + 1 := by simpa using he
        generalize s1.heap.objs.size = n at e'
        have : n ≤ e := by
          rcases e' with z | z | z | z | z
          · rw [z]; exact Nat.le_add_right _ _
          · rw [z]; exact Nat.le_add_right _ _
          · rw [z]; exact Nat.le_add_right _ _
          · rw [z]; exact Nat.le_refl _
          · rw [z]; exact Nat.le_add_right _ _
        exact this
      exact I1.fpOk le (I1.hok.fresh le)
/-! ### enumerate -/
section
variable {prog : Program} {w : World} {A : Around} {E : Value → Shared → Prop} {s : Shared} {q c l : Addr} {vs : Array Value} {P : Nat → Heap → Prop}
theorem ex_item (C : Cur c l vs P) (nc : c ≠ q) (nl : l ≠ q) {i : Nat} {v old : Value} {Q : Value → Shared → Prop} (hq : IsEnum s.heap q c i old) (p : P i s.heap) (ev : vs[i]? = some v)
    (k : ∀ g, IsEnumOut g q c ((i : Int) + 1) v s.heap.objs.size → P (i + 1) g → g.get? s.heap.objs.size = some { cls := .type "tuple", data := .seq #[.int i s.toks, v] } → g.objs.size = s.heap.objs.size + 1 →
      (∀ b o, b ≠ q → b ≠ c → s.heap.get? b = some o → g.get? b = some o) → Q (.ref s.heap.objs.size) { s with heap := g, toks := s.toks + 1 }) :
    wpAny (model prog w) A (Builtin.«enumerate.__next__» ⟨[.ref q], []⟩) (fun fin t => ∃ x, fin = .done (.ret x) ∧ Q x t) E s := by
  obtain ⟨hp, gn, dr, tk, os⟩ := s
  show wpAny _ _ (field (.ref q) 2 >>= _) _ _ _
  refine wpAny_bind (wpAny_field hq rfl (x := .ref c) rfl (wpAny_bind (C.item p ev fun g1 p1 b1 => ?_)))
  replace b1 : Heap.SameBut c hp g1 := b1
  have y1 : IsEnum g1 q c i old := (b1.2 q (Ne.symm nc)).trans hq
  show wpAny _ _ (field (.ref q) 3 >>= _) _ _ ⟨g1, gn, dr, tk, os⟩
  refine wpAny_bind (wpAny_field y1 rfl (x := rawInt i) rfl ?_); show wpAny _ _ (field (.ref q) 4 >>= _) _ _ ⟨g1, gn, dr, tk, os⟩
  refine wpAny_bind (wpAny_field y1 rfl (x := .none) rfl ?_); show wpAny _ _ (mkInt i >>= _) _ _ ⟨g1, gn, dr, tk, os⟩
  refine wpAny_bind (wpAny_mkInt ?_); show wpAny _ _ (setField (.ref q) 3 (rawInt ((i : Int) + 1)) >>= _) _ _ ⟨g1, gn, dr, tk + 1, os⟩
  refine wpAny_bind (wpAny_setField_rec y1 (by simp) fun g2 y2 b2 => ?_)
  replace b2 : Heap.SameBut q g1 g2 := b2
  replace y2 : IsEnum g2 q c ((i : Int) + 1) old := y2
  show wpAny _ _ (setField (.ref q) 4 .none >>= _) _ _ ⟨g2, gn, dr, tk + 1, os⟩
  refine wpAny_bind (wpAny_setField_rec y2 (by simp) fun g3 y3 b3 => ?_)
  replace b3 : Heap.SameBut q g2 g3 := b3
  replace y3 : IsEnum g3 q c ((i : Int) + 1) old := y3
  show wpAny _ _ (newTuple [.int i tk, v] >>= _) _ _ ⟨g3, gn, dr, tk + 1, os⟩
  refine wpAny_bind (wpAny_newTuple ?_)
  have y4 : IsEnum (g3.push { cls := .type "tuple", data := .seq #[.int i tk, v] }) q c ((i : Int) + 1) old := Heap.get?_push_of_some _ y3
  generalize e4 : g3.push { cls := .type "tuple", data := .seq #[.int i tk, v] } = g4 at y4
  have size3 : g3.objs.size = hp.objs.size := by rw [b3.1, b2.1, b1.1]
  have lq : q < hp.objs.size := Heap.lt_size hq
  have t4 : g4.get? hp.objs.size = some { cls := .type "tuple", data := .seq #[.int i tk, v] } := by rw [← e4, ← size3]; exact Heap.get?_push_size _ rfl
  have size4 : g4.objs.size = hp.objs.size + 1 := by rw [← e4, Heap.size_push, size3]
  have k4 : ∀ b o, b ≠ q → b ≠ c → hp.get? b = some o → g4.get? b = some o := fun b o n1 n2 z => by
    rw [← e4]; exact Heap.get?_push_of_some _ (b3.extBut b o n1 (b2.extBut b o n1 (b1.extBut b o n2 z)))
  have p4 : P (i + 1) g4 := by
    rw [← e4]
    have z := C.ext (C.ext p1 b2.extBut nc nl) b3.extBut nc nl
    exact C.keep z (fun o e => Heap.get?_push_of_some _ e) fun o e => Heap.get?_push_of_some _ e
  show wpAny _ _ (Builtin.SmallTypes.ownedTupleIsFree (.ref q) >>= _) _ _ ⟨g4, gn, dr, tk + 1, os⟩
  rw [size3]
  refine wpAny_bind ?_; unfold Builtin.SmallTypes.ownedTupleIsFree
  refine wpAny_bind (wpAny_field y4 rfl (x := .none) rfl (wpAny_pure ?_)); simp only [if_true]
  refine wpAny_bind (wpAny_rule (wpAny_bind (wpAny_field y4 rfl (x := old) rfl (wpAny_bind (wpAny_setField_rec y4 (by simp) fun g5 y5 b5 => ?_)))))
  replace b5 : Heap.SameBut q g4 g5 := b5
  replace y5 : IsEnum g5 q c ((i : Int) + 1) v := y5
  show wpAny _ _ (Builtin.SmallTypes.ownedTupleHandOut (.ref q) (.ref hp.objs.size) >>= _) _ _ ⟨g5, gn, dr, tk + 1, os⟩
  refine wpAny_bind ?_; unfold Builtin.SmallTypes.ownedTupleHandOut
  refine wpAny_bind (wpAny_setField_rec y5 (by simp) fun g6 y6 b6 => ?_)
  replace b6 : Heap.SameBut q g5 g6 := b6
  replace y6 : IsEnumOut g6 q c ((i : Int) + 1) v hp.objs.size := y6
  refine wpAny_setField_rec y6 (by simp) fun g7 y7 b7 => ?_
  replace b7 : Heap.SameBut q g6 g7 := b7
  replace y7 : IsEnumOut g7 q c ((i : Int) + 1) v hp.objs.size := y7
  have nq := Nat.ne_of_gt lq
  refine wpAny_bind (wpAny_letGo (wpAny_pure ⟨_, rfl, k g7 y7 ?_ ?_ ?_ ?_⟩))
  · exact C.ext (C.ext (C.ext p4 b5.extBut nc nl) b6.extBut nc nl) b7.extBut nc nl
  · exact b7.extBut _ _ nq (b6.extBut _ _ nq (b5.extBut _ _ nq t4))
  · rw [b7.1, b6.1, b5.1, size4]
  · exact fun b o n1 n2 z => b7.extBut b o n1 (b6.extBut b o n1 (b5.extBut b o n1 (k4 b o n1 n2 z)))
theorem nx_item (C : Cur c l vs P) (nc : c ≠ q) (nl : l ≠ q) {i : Nat} {v old : Value} {Q : Option Value → Shared → Prop} (hq : IsEnum s.heap q c i old) (p : P i s.heap) (ev : vs[i]? = some v)
    (k : ∀ g, IsEnumOut g q c ((i : Int) + 1) v s.heap.objs.size → P (i + 1) g → g.get? s.heap.objs.size = some { cls := .type "tuple", data := .seq #[.int i s.toks, v] } → g.objs.size = s.heap.objs.size + 1 →
      (∀ b o, b ≠ q → b ≠ c → s.heap.get? b = some o → g.get? b = some o) → Q (some (.ref s.heap.objs.size)) { s with heap := g, toks := s.toks + 1 }) : wpAny (model prog w) A (pyNext (.ref q)) Q E s := by
  have ty : s.TypeIs (.ref q) "enumerate" := ⟨_, hq, rfl⟩
  unfold pyNext
  refine wpAny_bind (wpAny_attempt (wpAny_callSpecial?_slot (name := Str.ofString "__next__") ty F.slot_enumerate_next (wpAny_call_entry F.slot_enumerate_next ty F.entry_enumerate_next ?_ (F.args_enumerate_next_1 _))))
  exact ex_item C nc nl hq p ev fun g k1 k2 k3 k4 k5 => wpAny_pure (k g k1 k2 k3 k4 k5)
theorem nx_stop (hh : A.handled = none) (C : Cur c l vs P) {i : Nat} {old : Value} {Q : Option Value → Shared → Prop} (hq : IsEnum s.heap q c i old) (p : P i s.heap) (no : vs[i]? = none)
    (k : ∀ g, Heap.ExtBut c s.heap g → Q none { s with heap := g }) : wpAny (model prog w) A (pyNext (.ref q)) Q E s := by
  have ty : s.TypeIs (.ref q) "enumerate" := ⟨_, hq, rfl⟩
  unfold pyNext
  refine wpAny_bind (wpAny_attempt (wpAny_callSpecial?_slot (name := Str.ofString "__next__") ty F.slot_enumerate_next (wpAny_call_entry F.slot_enumerate_next ty F.entry_enumerate_next ?_ (F.args_enumerate_next_1 _))))
  show wpAny _ _ (field (.ref q) 2 >>= _) _ _ _
  refine wpAny_bind (wpAny_field hq rfl (x := .ref c) rfl (wpAny_bind (C.stop (A := A.in1) (show A.in1.handled = none from hh) p no fun g e x he => ?_)))
  obtain ⟨o, h1, h2⟩ := he
  exact wpAny_bind (wpAny_isInstance (T := "StopIteration") (b := true) ⟨o, h1, h2⟩ isSubtype_stop (wpAny_pure (k _ x)))
theorem enum_made (l : Addr) (vs : Array Value) (n : Nat) (dc : Option Addr) (sl : Array (Option Value)) :
    Meets (Builtin.«enumerate.__new__» ⟨[.type "enumerate", .ref l], []⟩) (fun _ R s => s.heap.get? l = some { cls := .type "tuple", dict := dc, data := .seq vs n, slots := sl } ∧
      R (.ok (.ret (.ref (zh1 true s.heap l).objs.size))) { s with heap := (zh1 true s.heap l).push { cls := .type "enumerate", data := .fields #[.none, .bool false, .ref s.heap.objs.size, rawInt 0, .none, .none] } }) :=
  .of_wp fun prog w A R s h => by
    obtain ⟨g, gn, dr, tk, os⟩ := s
    obtain ⟨a, h⟩ := h
    have sz := sub_enumerate
    have a' : Heap.IsTuple (Shared.heap ⟨g, gn, dr, tk, os⟩) l vs := ⟨_, a, rfl, n, rfl⟩
    wp_walk using AutoSeq1.wpAny_loadPart' a
    refine wpAny_stack_any fun st => wpAny_pure ?_
    split
    · rename_i t _ _ _ _ _
      cases (t == Value.type "enumerate")
      · wp_walk using AutoSeq1.wpAny_loadPart' a, wpAny_pyIter_tuple a'; exact ⟨_, rfl, h⟩
      · wp_walk using AutoSeq1.wpAny_loadPart' a, wpAny_pyIter_tuple a'; exact ⟨_, rfl, h⟩
    · wp_walk using AutoSeq1.wpAny_loadPart' a, wpAny_pyIter_tuple a'; exact ⟨_, rfl, h⟩
theorem enum_callT {Q : Value → Shared → Prop} (a : s.heap.IsTuple l vs)
    (h : ∀ g, IsEnum g (s.heap.objs.size + 1) s.heap.objs.size 0 .none → g.IsTupleIter s.heap.objs.size l 0 → g.objs.size = s.heap.objs.size + 2 → (∀ b o, s.heap.get? b = some o → g.get? b = some o) →
      Q (.ref (s.heap.objs.size + 1)) { s with heap := g }) : wpAny (model prog w) A (call (.type "enumerate") [.ref l]) Q E s := by
  obtain ⟨⟨cl, dc, dt, sl⟩, e, hc, n, hd⟩ := a
  have hc' : cl = .type "tuple" := hc
  have hd' : dt = .seq vs n := hd
  subst hc' hd'
  refine callType_new F.called_enumerate (by decide) (F.typeCall_enumerate_1 _) (F.newCall_enumerate_1 _) (fun ob => F.args_object_init_2 ob _) F.entry_enumerate_new (enum_made l vs n dc sl) ⟨e, ?_⟩
  have n1 : (zh1 true s.heap l).objs.size = s.heap.objs.size + 1 := Heap.size_push ..
  have y : IsEnum ((zh1 true s.heap l).push { cls := .type "enumerate", data := .fields #[.none, .bool false, .ref s.heap.objs.size, rawInt 0, .none, .none] }) (s.heap.objs.size + 1) s.heap.objs.size 0 .none := by
    have z := Heap.get?_push_size (zh1 true s.heap l) (o := { cls := .type "enumerate", data := .fields #[.none, .bool false, .ref s.heap.objs.size, rawInt 0, .none, .none] }) rfl
    rw [n1] at z; exact z
  show _ ∧ _
  rw [n1]
  exact ⟨⟨_, y, rfl⟩, h _ y ⟨_, Heap.get?_push_of_some _ (Heap.get?_push_size _ rfl), rfl, rfl⟩ (by rw [Heap.size_push, n1]) fun b o x => Heap.get?_push_of_some _ (Heap.get?_push_of_some _ x)⟩
theorem enum_call {k : Bool} {Q : Value → Shared → Prop} (a : HeapX k l vs s.heap)
    (h : ∀ g, IsEnum g (s.heap.objs.size + 1) s.heap.objs.size 0 .none → IterX k s.heap.objs.size l 0 g → g.objs.size = s.heap.objs.size + 2 → (∀ b o, s.heap.get? b = some o → g.get? b = some o) →
      Q (.ref (s.heap.objs.size + 1)) { s with heap := g }) : wpAny (model prog w) A (call (.type "enumerate") [.ref l]) Q E s := match k, a, h with
  | false, a, h => call_enumerate_list a h
  | true, a, h => enum_callT a h
end
/-- a sequence with its places -/
def ItE (K : PySem.W.Frag) (k : Bool) (a : Addr) : It :=
  ⟨fun i H => ∃ (xs : List V) (x : V), SqX k K H a xs ∧ xs[i]? = some x,
    fun i H v H' => ∃ t x, v = .ref t ∧ H t = none ∧ H' = upd H t (.tup [.int (i : Nat), x]) ∧ ∀ xs, SqX k K H a xs → xs[i]? = some x,
    fun i H => ∃ xs : List V, SqX k K H a xs ∧ xs.length ≤ i⟩
theorem turn_e {P : Program} {w : World} {K : PySem.W.Frag} {elts : List Expr} {kk : Nat} {tpos : Pos} {k : Bool} {a q c : Addr} (nq : c ≠ q) (na : a ≠ q) (nc : c ≠ a) :
    Turn P w K (.Tuple elts kk tpos) (ItE K k a) [q, c] q (fun i g => (∃ old, IsEnum g q c ((i : Nat) : Int) old) ∧ IterX k c a i g) where
  mem := by simp
  obj := fun i g st e he => by
    obtain ⟨⟨old, y⟩, p⟩ := st
    have e' : e = q ∨ e = c := by simpa using he
    rcases e' with z | z <;> subst z
    · exact ⟨_, y, fun v z => nomatch z⟩
    · exact p.obj
  keep := fun i g g' st kp => by
    obtain ⟨⟨old, y⟩, p⟩ := st
    exact ⟨⟨old, kp q (by simp) _ y⟩, p.at fun o e => kp c (by simp) o e⟩
  item := by
    intro X hP hw hK hc i pins s σ H E I hf st hg
    subst hP hw hK
    obtain ⟨⟨old, y⟩, p⟩ := st
    obtain ⟨xs, xv, hx, ex⟩ := hg
    obtain ⟨vs, rv, hv⟩ := inv_sq I hx
    obtain ⟨v, ev, rv1⟩ := rv.get ex
    have lq : q < s.heap.objs.size := Heap.lt_size y
    have lc : c < s.heap.objs.size := by
      obtain ⟨_, z, _⟩ := p.obj
      exact Heap.lt_size z
    refine nx_item (cur_x k nc) nq na y ⟨p, hv⟩ (v := v) (by simpa using ev) fun g y' p' yT size kp => ?_
    refine ⟨_, rfl, wpAny_letOwnedTupleGo_enum (s := { s with heap := g, toks := s.toks + 1 }) y' fun g2 y2 sb => ?_⟩
    have yT2 : g2.get? s.heap.objs.size = some { cls := .type "tuple", data := .seq #[.int i s.toks, v] } := (sb.2 _ (Nat.ne_of_gt lq)).trans yT
    have ob : ObjOk X.prog X.w (upd H s.heap.objs.size (.tup [.int (i : Nat), xv])) g2 s.heap.objs.size (.tup [.int (i : Nat), xv]) := ⟨by show 2 ≤ sizeLine; decide, [.int i s.toks, v], .cons ⟨_, rfl⟩ (.cons rv1 .nil), ⟨_, yT2, rfl, _, rfl⟩⟩
    have I2 : Inv X pins σ (upd H s.heap.objs.size (.tup [.int (i : Nat), xv])) { s with heap := g2, toks := s.toks + 1 } :=
      I.turnedNew (ch := [q, c]) (fun e o hb z => (sb.2 e (fun z' => hb (by simp [z']))).trans (kp e o (fun z' => hb (by simp [z'])) (fun z' => hb (by simp [z'])) z)) hf (Nat.le_refl _) ob
    refine ⟨.ref s.heap.objs.size, _, I2, rfl, ⟨_, xv, rfl, I.hok.fresh (Nat.le_refl _), rfl, fun xs' h => by rw [inv_sq_inj I h hx]; exact ex⟩, ⟨⟨v, ?_⟩, p'.1.at fun o z => (sb.2 c nq).trans z⟩, fun e he => ?_⟩
    · have e1 : ((i + 1 : Nat) : Int) = (i : Int) + 1 := by omega
      rw [e1]; exact y2
    · have lt : e < s.heap.objs.size := by
        have e' : e = q ∨ e = c := by simpa using he
        rcases e' with z | z <;> subst z
        · exact lq
        · exact lc
      rw [upd_ne (Nat.ne_of_lt lt)]
      exact (hf e he).1
  done := by
    intro X hP hw hK hc i pins s σ H E I hf st hg
    subst hP hw hK
    obtain ⟨⟨old, y⟩, p⟩ := st
    obtain ⟨xs, hx, no⟩ := hg
    obtain ⟨vs, rv, hv⟩ := inv_sq I hx
    obtain ⟨f0, f1, f2, f3, f4, f5⟩ := hf c (by simp)
    have l1 := rv.length
    exact nx_stop (I.ok.hd hc) (cur_x k nc) y ⟨p, hv⟩ (by simp; omega) fun g x => ⟨rfl, I.turned (t' := s.toks) (fun b o hb z => x b o hb z) f0 f1 f3 f4 f5⟩
  self := fun A i s Q E st h => let ⟨⟨_, y⟩, _⟩ := st; wpAny_pyIter_enum y h
def iE (K : PySem.W.Frag) (ta : TA) : TI := fun σ H R => ta σ H fun vs H1 => ∃ k a xs, vs = [.ref a] ∧ SqX k K H1 a xs ∧ R (ItE K k a) H1
theorem pi_enumX {X : Cx} {e : Expr} {ta : TA} {p pos tpos : Pos} {elts : List Expr} {kk : Nat} (hg : Gl X "enumerate") (hm : X.mg "enumerate" = none) (ha : PA X [e] ta) (hs : starEach [e] X.env = [(false, eval e X.env)]) :
    PI X (.Tuple elts kk tpos) (.Call (.Name "enumerate" p) [e] [] pos) (iE X.K ta) := by
  refine ⟨fun pins s σ H R I h => ?_⟩
  refine Call_ (ld_blt I hg hm boot_enumerate (PyProof.Rows.callWith_type1 (thn (ha.run pos pins s σ H _ I h) fun us s1 ⟨vs, H1, I1, r1, q1⟩ => ?_) hs rfl))
  obtain ⟨k, a, xs, ex, hx, q1⟩ := q1
  subst ex
  cases r1 with
  | cons r rr =>
    cases rr
    cases r
    obtain ⟨as, rva, ha'⟩ := inv_sq I1 hx
    have la := ha'.lt
    refine enum_call ha' fun g y p1 size kp => wpAny_pyIter_enum y ?_
    have I2 : Inv X pins σ H1 { s1 with heap := g } := I1.kept (t' := s1.toks) kp
    refine ⟨s1.heap.objs.size + 1, [s1.heap.objs.size + 1, s1.heap.objs.size], _, _, H1, rfl, I2, turn_e (k := k) (a := a) (q := s1.heap.objs.size + 1) (c := s1.heap.objs.size) (Nat.ne_of_lt (Nat.lt_succ_self _)) (Nat.ne_of_lt (Nat.lt_succ_of_lt la)) (Nat.ne_of_gt la), ⟨⟨.none, y⟩, p1⟩, fun e he => ?_, q1⟩
    have e' : e = s1.heap.objs.size + 1 ∨ e = s1.heap.objs.size := by simpa using he
    have le : s1.heap.objs.size ≤ e := by
      rcases e' with z | z
      · rw [z]; exact Nat.le_add_right _ _
      · rw [z]; exact Nat.le_refl _
    exact I1.fpOk le (I1.hok.fresh le)
end KM
/-! KMH: that what is asked suffices: walks, comprehensions. -/
namespace KM
open PySem PySem.Spec PyProof.Rows L2

structure Wk (K : PySem.W.Frag) (h0 : Hep) (H0 : Hp) (src : Src) (J : It) : Prop where
  go : ∀ i h H, i < src.vals.length → Go h0 H0 h H → Sim K h H → pinOk h src.pins → J.go i H
  stop : ∀ h H, Go h0 H0 h H → Sim K h H → pinOk h src.pins → J.stop src.vals.length H
  yld : ∀ i h H u H' x, src.vals[i]? = some x → Go h0 H0 h H → Sim K h H → pinOk h src.pins → J.yld i H u H' → Go h H h H' ∧ Sim K h H' ∧ RV K H' x u
theorem pinOk_app {h : Hep} : ∀ {p q : List (Addr × List Val)}, pinOk h (p ++ q) → pinOk h p ∧ pinOk h q
  | [], _, x => ⟨trivial, x⟩
  | _ :: p, q, ⟨a, x⟩ => ⟨⟨a, (pinOk_app x).1⟩, (pinOk_app x).2⟩
section
variable {K : PySem.W.Frag} {h0 : Hep} {H0 : Hp}
theorem src_list (sm : Sim K h0 H0) {v : Val} {u : V} (r : RV K H0 v u) (t : isTupV v = false) {P : Src → Prop} (o : onSrc h0 v P) :
    ∃ p s, u = .ref p ∧ P s ∧ ∀ h H, Go h0 H0 h H → Sim K h H → pinOk h s.pins → ∃ us, SqL K H p us ∧ RVs K H s.vals us := by
  have o : onSrc0 _ _ _ := onSrc_out o
  cases v with
  | rom xs =>
    obtain ⟨p, us, rfl, q, r⟩ := r
    exact ⟨p, _, rfl, o, fun h H g s pn => ⟨us, (RomL.go sm g q).sq, RVs.go sm g r⟩⟩
  | ref a =>
    cases r
    obtain ⟨xs, e, o⟩ := onL_elim o
    refine ⟨a, _, rfl, o, fun h H g s pn => ?_⟩
    obtain ⟨us, f, r⟩ := s.lst pn.1
    exact ⟨us, SqL.of f, r⟩
  | tup xs => cases t
  | _ => exact o.elim
theorem src_tup (sm : Sim K h0 H0) {v : Val} {u : V} (r : RV K H0 v u) (t : isTupV v = true) {P : Src → Prop} (o : onSrc h0 v P) :
    ∃ p s, u = .ref p ∧ P s ∧ ∀ h H, Go h0 H0 h H → Sim K h H → pinOk h s.pins → ∃ us, SqT K H p us ∧ RVs K H s.vals us := by
  have o : onSrc0 _ _ _ := onSrc_out o
  cases v with
  | tup xs =>
    obtain ⟨p, us, rfl, q, r⟩ := r
    exact ⟨p, _, rfl, o, fun h H g s pn => ⟨us, SqT.go sm g q, RVs.go sm g r⟩⟩
  | _ => cases t
theorem wk_list {p : Addr} {s : Src} (f : ∀ h H, Go h0 H0 h H → Sim K h H → pinOk h s.pins → ∃ us, SqL K H p us ∧ RVs K H s.vals us) : Wk K h0 H0 s (Itl K p) where
  go := fun i h H hi g sm pn => by
    obtain ⟨us, a, r⟩ := f h H g sm pn
    obtain ⟨u, e, _⟩ := r.get (i := i) (List.getElem?_eq_getElem hi)
    exact ⟨us, u, a, e⟩
  stop := fun h H g sm pn => by
    obtain ⟨us, a, r⟩ := f h H g sm pn
    exact ⟨us, a, by rw [r.length]; exact Nat.le_refl _⟩
  yld := fun i h H u H' x e g sm pn y => by
    obtain ⟨rfl, y⟩ := y
    obtain ⟨us, a, r⟩ := f h _ g sm pn
    obtain ⟨w, e2, q⟩ := r.get e
    have e3 := y us a
    rw [e2] at e3
    cases e3
    exact ⟨Go.refl _ _, sm, q⟩
theorem wk_tup {p : Addr} {s : Src} (f : ∀ h H, Go h0 H0 h H → Sim K h H → pinOk h s.pins → ∃ us, SqT K H p us ∧ RVs K H s.vals us) : Wk K h0 H0 s (Itt K p) where
  go := fun i h H hi g sm pn => by
    obtain ⟨us, a, r⟩ := f h H g sm pn
    obtain ⟨u, e, _⟩ := r.get (i := i) (List.getElem?_eq_getElem hi)
    exact ⟨us, u, a, e⟩
  stop := fun h H g sm pn => by
    obtain ⟨us, a, r⟩ := f h H g sm pn
    exact ⟨us, a, by rw [r.length]; exact Nat.le_refl _⟩
  yld := fun i h H u H' x e g sm pn y => by
    obtain ⟨rfl, y⟩ := y
    obtain ⟨us, a, r⟩ := f h _ g sm pn
    obtain ⟨w, e2, q⟩ := r.get e
    have e3 := y us a
    rw [e2] at e3
    cases e3
    exact ⟨Go.refl _ _, sm, q⟩
theorem rngV_length (lo : Int) (n : Nat) : (rngV lo n).length = n := by
  induction n generalizing lo with
  | zero => rfl
  | succ n ih => simp only [rngV, List.length_cons, ih]
theorem rngV_get (lo : Int) (n i : Nat) (x : Val) (e : (rngV lo n)[i]? = some x) : x = .int (lo + i) := by
  induction n generalizing lo i with
  | zero => simp [rngV] at e
  | succ n ih =>
    cases i with
    | zero => simp [rngV] at e; rw [← e]; simp
    | succ i =>
      simp only [rngV, List.getElem?_cons_succ] at e
      rw [ih _ _ e]
      congr 1
      omega
theorem wk_rng {lo : Int} {n : Nat} : Wk K h0 H0 ⟨rngV lo n, []⟩ (Itr lo n) where
  go := fun i h H hi g sm pn => by
    have hi : i < (rngV lo n).length := hi
    rw [rngV_length] at hi
    exact hi
  stop := fun h H g sm pn => by
    show n ≤ (rngV lo n).length
    rw [rngV_length]
    exact Nat.le_refl _
  yld := fun i h H u H' x e g sm pn y => by
    obtain ⟨rfl, rfl⟩ := y
    rw [rngV_get lo n i x e]
    exact ⟨Go.refl _ _, sm, rfl⟩
theorem enumV_length : ∀ (n : Nat) (xs : List Val), (enumV n xs).length = xs.length
  | _, [] => rfl
  | n, x :: xs => by simp only [enumV, List.length_cons, enumV_length]
theorem enumV_get : ∀ (n : Nat) (xs : List Val) (i : Nat) (x : Val), (enumV n xs)[i]? = some x → ∃ y, xs[i]? = some y ∧ x = .tup [.int ((n + i : Nat) : Int), y]
  | _, [], _, _, e => by simp [enumV] at e
  | n, y :: ys, 0, x, e => by
    simp [enumV] at e
    exact ⟨y, rfl, by rw [← e]; simp⟩
  | n, y :: ys, i + 1, x, e => by
    simp only [enumV, List.getElem?_cons_succ] at e
    obtain ⟨z, h1, h2⟩ := enumV_get (n + 1) ys i x e
    exact ⟨z, by simpa using h1, by rw [h2, show n + 1 + i = n + (i + 1) by omega]⟩
theorem new_tup {h : Hep} {H : Hp} (sm : Sim K h H) {T : Addr} {xs : List Val} {us : List V} (n : H T = none) (r : RVs K H xs us) : Go h H h (upd H T (.tup us)) ∧ Sim K h (upd H T (.tup us)) ∧ RV K (upd H T (.tup us)) (.tup xs) (.ref T) :=
  ⟨go_hid n, sm.hid n, RV.tupN sm n r⟩
theorem wk_enumX {k : Bool} {p : Addr} {s : Src} (f : ∀ h H, Go h0 H0 h H → Sim K h H → pinOk h s.pins → ∃ us, SqX k K H p us ∧ RVs K H s.vals us) : Wk K h0 H0 ⟨enumV 0 s.vals, s.pins⟩ (ItE K k p) where
  go := fun i h H hi g sm pn => by
    obtain ⟨us, a, r⟩ := f h H g sm pn
    have hi : i < (enumV 0 s.vals).length := hi
    rw [enumV_length] at hi
    obtain ⟨u, e, _⟩ := r.get (i := i) (List.getElem?_eq_getElem hi)
    exact ⟨us, u, a, e⟩
  stop := fun h H g sm pn => by
    obtain ⟨us, a, r⟩ := f h H g sm pn
    exact ⟨us, a, by show us.length ≤ (enumV 0 s.vals).length; rw [r.length, enumV_length]; exact Nat.le_refl _⟩
  yld := fun i h H u H' x e g sm pn y => by
    obtain ⟨T, w, rfl, nT, rfl, y⟩ := y
    obtain ⟨us, a, r⟩ := f h _ g sm pn
    obtain ⟨z, e1, rfl⟩ := enumV_get _ _ _ _ e
    obtain ⟨w', e2, q⟩ := r.get e1
    have e3 := y us a
    rw [e2] at e3
    cases e3
    refine new_tup sm nT (RVs.cons ?_ (RVs.cons q RVs.nil))
    rw [Nat.zero_add]
    exact rfl
theorem zipV_length : ∀ (xs ys : List Val), (zipV xs ys).length = min xs.length ys.length
  | [], ys => by simp [zipV]
  | _ :: _, [] => by simp [zipV]
  | x :: xs, y :: ys => by simp only [zipV, List.length_cons, zipV_length]; omega
theorem zipV_get : ∀ (xs ys : List Val) (i : Nat) (x : Val), (zipV xs ys)[i]? = some x → ∃ a b, xs[i]? = some a ∧ ys[i]? = some b ∧ x = .tup [a, b]
  | [], ys, _, _, e => by simp [zipV] at e
  | _ :: _, [], _, _, e => by simp [zipV] at e
  | a :: xs, b :: ys, 0, x, e => by
    simp [zipV] at e
    exact ⟨a, b, rfl, rfl, e.symm⟩
  | a :: xs, b :: ys, i + 1, x, e => by
    simp only [zipV, List.getElem?_cons_succ] at e
    obtain ⟨c, d, h1, h2, h3⟩ := zipV_get xs ys i x e
    exact ⟨c, d, by simpa using h1, by simpa using h2, h3⟩
theorem src_x (sm : Sim K h0 H0) {v : Val} {u : V} (r : RV K H0 v u) {P : Src → Prop} (o : onSrc h0 v P) :
    ∃ k p s, u = .ref p ∧ P s ∧ ∀ h H, Go h0 H0 h H → Sim K h H → pinOk h s.pins → ∃ us, SqX k K H p us ∧ RVs K H s.vals us := by
  cases t : isTupV v with
  | false =>
    obtain ⟨p, s, e, q, f⟩ := src_list sm r t o
    exact ⟨false, p, s, e, q, f⟩
  | true =>
    obtain ⟨p, s, e, q, f⟩ := src_tup sm r t o
    exact ⟨true, p, s, e, q, f⟩
theorem wk_zipX {k k' : Bool} {p q : Addr} {s t : Src} (f : ∀ h H, Go h0 H0 h H → Sim K h H → pinOk h s.pins → ∃ us, SqX k K H p us ∧ RVs K H s.vals us) (f2 : ∀ h H, Go h0 H0 h H → Sim K h H → pinOk h t.pins → ∃ us, SqX k' K H q us ∧ RVs K H t.vals us) :
    Wk K h0 H0 ⟨zipV s.vals t.vals, s.pins ++ t.pins⟩ (ItX K k k' p q) where
  go := fun i h H hi g sm pn => by
    obtain ⟨pn1, pn2⟩ := pinOk_app pn
    obtain ⟨us, a, r⟩ := f h H g sm pn1
    obtain ⟨us2, a2, r2⟩ := f2 h H g sm pn2
    have hi : i < (zipV s.vals t.vals).length := hi
    rw [zipV_length] at hi
    obtain ⟨u, e, _⟩ := r.get (i := i) (List.getElem?_eq_getElem (by omega))
    obtain ⟨u2, e2, _⟩ := r2.get (i := i) (List.getElem?_eq_getElem (by omega))
    exact ⟨us, us2, u, u2, a, a2, e, e2⟩
  stop := fun h H g sm pn => by
    obtain ⟨pn1, pn2⟩ := pinOk_app pn
    obtain ⟨us, a, r⟩ := f h H g sm pn1
    obtain ⟨us2, a2, r2⟩ := f2 h H g sm pn2
    refine ⟨us, us2, a, a2, ?_⟩
    show us.length ≤ (zipV s.vals t.vals).length ∨ us2.length ≤ (zipV s.vals t.vals).length
    rw [r.length, r2.length, zipV_length]
    omega
  yld := fun i h H u H' x e g sm pn y => by
    obtain ⟨pn1, pn2⟩ := pinOk_app pn
    obtain ⟨T, w, w2, rfl, nT, rfl, y, y2⟩ := y
    obtain ⟨us, a, r⟩ := f h _ g sm pn1
    obtain ⟨us2, a2, r2⟩ := f2 h _ g sm pn2
    obtain ⟨z, z2, e1, e2, rfl⟩ := zipV_get _ _ _ _ e
    obtain ⟨v, e3, q3⟩ := r.get e1
    obtain ⟨v2, e4, q4⟩ := r2.get e2
    have e5 := y us a
    have e6 := y2 us2 a2
    rw [e3] at e5
    rw [e4] at e6
    cases e5
    cases e6
    exact new_tup sm nT (RVs.cons q3 (RVs.cons q4 RVs.nil))
end
section
variable {X : Cx} {C : CalT} {tg : Expr} {pos : Pos}
abbrev WIr := Env → Hep → (Src → Hep → Prop) → XQ → Prop
def JI (X : Cx) (tg it : Expr) (w : WIr) : Prop := PI X tg it fun σ H R => ∃ env h Q E, Tk X σ h H E ∧ Sim X.K h H ∧ RVo X.K H env σ ∧ w env h Q E ∧
  ∀ src J h1 H1, Go h H h1 H1 → Sim X.K h1 H1 → Wk X.K h1 H1 src J → Q src h1 → R J H1
theorem PI.imp {e : Expr} {t t' : TI} (p : PI X tg e t) (h : ∀ σ H R, t' σ H R → t σ H R) : PI X tg e t' := ⟨fun pins s σ H R I q => p.run pins s σ H R I (h _ _ _ q)⟩
theorem PI.or {e : Expr} {t t' : TI} (p : PI X tg e t) (p' : PI X tg e t') : PI X tg e fun σ H R => t σ H R ∨ t' σ H R := ⟨fun pins s σ H R I q => q.elim (p.run pins s σ H R I) (p'.run pins s σ H R I)⟩
/-- a list or a tuple, walked: which it is shows when it is there -/
def iSeq (K : PySem.W.Frag) (tl : TE) : TI := fun σ H R => tl σ H fun x H1 => ∃ a, x = .ref a ∧ (((∃ xs, SqL K H1 a xs) ∧ R (Itl K a) H1) ∨ ((∃ xs, SqT K H1 a xs) ∧ R (Itt K a) H1))
theorem pi_seq {l : Expr} {tl : TE} (hl : PE X l tl) : PI X tg l (iSeq X.K tl) := by
  refine ⟨fun pins s σ H R I h => ?_⟩
  refine thn (hl.run pins s σ H _ I h) fun v s1 ⟨x, H1, I1, r1, a, e, q1⟩ => ?_
  subst e
  cases r1
  rcases q1 with ⟨⟨xs, hq⟩, q⟩ | ⟨⟨xs, hq⟩, q⟩
  · obtain ⟨its, rv, p, hz⟩ := I1.list hq
    refine wpAny_pyIter_list p.isList ?_
    refine ⟨s1.heap.objs.size, [s1.heap.objs.size], _, _, H1, rfl, I1.kept (t' := s1.toks) fun b o e => Heap.get?_push_of_some _ e, turn_list a _, ⟨_, Heap.get?_push_size _ rfl, rfl, rfl⟩, fun b hb => ?_, q⟩
    have e : b = s1.heap.objs.size := by simpa using hb
    subst e
    exact I1.fpOk (Nat.le_refl _) (I1.hok.fresh (Nat.le_refl _))
  · obtain ⟨its, rv, p, hz⟩ := I1.tuple hq
    refine wpAny_pyIter_tuple (show s1.heap.IsTuple a its.toArray from p) ?_
    refine ⟨s1.heap.objs.size, [s1.heap.objs.size], _, _, H1, rfl, I1.kept (t' := s1.toks) fun b o e => Heap.get?_push_of_some _ e, turn_tuple a _, ⟨_, Heap.get?_push_size _ rfl, rfl, rfl⟩, fun b hb => ?_, q⟩
    have e : b = s1.heap.objs.size := by simpa using hb
    subst e
    exact I1.fpOk (Nat.le_refl _) (I1.hok.fresh (Nat.le_refl _))
theorem pinsOf {h : Hep} {v : Val} {P : Src → Prop} (o : onSrc h v P) : ∃ s, P s ∧ pinOk h s.pins := by
  have o : onSrc0 _ _ _ := onSrc_out o
  cases v with
  | tup xs => exact ⟨_, o, trivial⟩
  | rom xs => exact ⟨_, o, trivial⟩
  | ref a =>
    obtain ⟨xs, e, o⟩ := onL_elim o
    exact ⟨_, o, e, trivial⟩
  | _ => exact o.elim
theorem onSrc_pins {h : Hep} {v : Val} {P : Src → Prop} (o : onSrc h v P) : onSrc h v fun s => P s ∧ pinOk h s.pins := by
  have o : onSrc0 _ _ _ := onSrc_out o
  cases v with
  | tup xs => exact src_tupI ⟨o, trivial⟩
  | rom xs => exact src_romI ⟨o, trivial⟩
  | ref a =>
    obtain ⟨xs, e, o⟩ := onL_elim o
    exact src_refI e ⟨o, e, trivial⟩
  | _ => exact o.elim
theorem ji_seq {l : Expr} {x : Ex} (jl : JE X l (wE C x)) : JI X tg l (wI C (.seq x)) :=
  PI.imp (pi_seq jl) fun σ H R ⟨env, h, Q, E, tk, sm, rv, q, k⟩ =>
    ⟨env, h, _, E, tk, sm, rv, q, fun u H1 ⟨v, h1, g1, s1, r1, q1⟩ => by
      have q1 := onSrc_pins q1
      cases t : isTupV v with
      | false =>
        obtain ⟨p, s, rfl, ⟨q2, pn⟩, f⟩ := src_list s1 r1 t q1
        obtain ⟨us, a, r⟩ := f h1 H1 (Go.refl _ _) s1 pn
        exact ⟨p, rfl, .inl ⟨⟨us, a⟩, k _ _ _ _ g1 s1 (wk_list f) q2⟩⟩
      | true =>
        obtain ⟨p, s, rfl, ⟨q2, pn⟩, f⟩ := src_tup s1 r1 t q1
        obtain ⟨us, a, r⟩ := f h1 H1 (Go.refl _ _) s1 pn
        exact ⟨p, rfl, .inr ⟨⟨us, a⟩, k _ _ _ _ g1 s1 (wk_tup f) q2⟩⟩⟩
theorem ja1 {e : Expr} {x : Ex} (j : JE X e (wE C x)) (hs : isStar e = false) : JAn X [e] 1 (wA C (.cons x .nil)) := ja_cons j ja_nil (star_cons hs)
theorem ja2 {e e2 : Expr} {x y : Ex} (j : JE X e (wE C x)) (j2 : JE X e2 (wE C y)) (hs : isStar e = false) (hs2 : isStar e2 = false) : JAn X [e, e2] 2 (wA C (.cons x (.cons y .nil))) := ja_cons j (ja1 j2 hs2) (star_cons hs)
theorem ji_rng1 {e : Expr} {x : Ex} {p : Pos} (hg : Gl X "range") (hm : X.mg "range" = none) (j : JE X e (wE C x)) (hs : isStar e = false) : JI X tg (.Call (.Name "range" p) [e] [] pos) (wI C (.rng1 x)) :=
  PI.imp (pi_range1 (pos := pos) (p := p) hg hm (ja1 j hs) (star_cons hs)) fun σ H R ⟨env, h, Q, E, tk, sm, rv, q, k⟩ =>
    ⟨env, h, fun vs h1 => onInt (vs.headD .non) fun i => smI i ∧ Q ⟨rngV 0 i.toNat, []⟩ h1, E, tk, sm, rv, q, fun us H1 hl ⟨vs, h1, g1, s1, r1, q1⟩ => by
      have l := r1.length
      rw [hl] at l
      match vs, l with
      | [v], _ =>
        obtain ⟨u, rfl, r⟩ := RVs.one r1
        obtain ⟨i, rfl, ⟨a, b⟩, q2⟩ := onInt_elim q1
        cases r
        exact ⟨i, rfl, a, b, k _ _ _ _ g1 s1 wk_rng q2⟩⟩
theorem ji_rng2 {e e2 : Expr} {x y : Ex} {p : Pos} (hg : Gl X "range") (hm : X.mg "range" = none) (j : JE X e (wE C x)) (j2 : JE X e2 (wE C y)) (hs : isStar e = false) (hs2 : isStar e2 = false) : JI X tg (.Call (.Name "range" p) [e, e2] [] pos) (wI C (.rng2 x y)) :=
  PI.imp (pi_range2 (pos := pos) (p := p) hg hm (ja2 j j2 hs hs2) (by rw [star_cons hs, star_cons hs2]; rfl) (by rw [star_cons hs2]; rfl)) fun σ H R ⟨env, h, Q, E, tk, sm, rv, q, k⟩ =>
    ⟨env, h, fun vs h1 => onInt (vs.headD .non) fun i => onInt (vs.getD 1 .non) fun j => smI i ∧ smI j ∧ Q ⟨rngV i (j - i).toNat, []⟩ h1, E, tk, sm, rv, q, fun us H1 hl ⟨vs, h1, g1, s1, r1, q1⟩ => by
      have l := r1.length
      rw [hl] at l
      match vs, l with
      | [v, w], _ =>
        obtain ⟨u, z, rfl, r, r2⟩ := RVs.two r1
        obtain ⟨i, rfl, q1⟩ := onInt_elim q1
        obtain ⟨j, e3, ⟨a, b⟩, ⟨c, d⟩, q2⟩ := onInt_elim q1
        have e3 : w = .int j := e3
        subst e3
        cases r
        cases r2
        exact ⟨i, j, rfl, ⟨a, b, c, d⟩, k _ _ _ _ g1 s1 wk_rng q2⟩⟩
theorem ji_enum {e : Expr} {x : Ex} {p tpos : Pos} {elts : List Expr} {kk : Nat} (hg : Gl X "enumerate") (hm : X.mg "enumerate" = none) (j : JE X e (wE C x)) (hs : isStar e = false) : JI X (.Tuple elts kk tpos) (.Call (.Name "enumerate" p) [e] [] pos) (wI C (.enum x)) :=
  PI.imp (pi_enumX (pos := pos) (p := p) hg hm (ja1 j hs) (star_cons hs)) fun σ H R ⟨env, h, Q, E, tk, sm, rv, q, k⟩ =>
    ⟨env, h, fun vs h1 => onSrc h1 (vs.headD .non) fun s => Q ⟨enumV 0 s.vals, s.pins⟩ h1, E, tk, sm, rv, q, fun us H1 hl ⟨vs, h1, g1, s1, r1, q1⟩ => by
      have l := r1.length
      rw [hl] at l
      match vs, l with
      | [v], _ =>
        obtain ⟨u, rfl, r⟩ := RVs.one r1
        have q1 := onSrc_pins q1
        obtain ⟨k1, p, s, rfl, ⟨q2, pn⟩, f⟩ := src_x s1 r q1
        obtain ⟨us, a, r⟩ := f h1 H1 (Go.refl _ _) s1 pn
        exact ⟨k1, p, us, rfl, a, k _ _ _ _ g1 s1 (wk_enumX f) q2⟩⟩
theorem ji_zip {e e2 : Expr} {x y : Ex} {p tpos : Pos} {elts : List Expr} {kk : Nat} (hg : Gl X "zip") (hm : X.mg "zip" = none) (j : JE X e (wE C x)) (j2 : JE X e2 (wE C y)) (hs : isStar e = false) (hs2 : isStar e2 = false) : JI X (.Tuple elts kk tpos) (.Call (.Name "zip" p) [e, e2] [] pos) (wI C (.zip x y)) :=
  PI.imp (pi_zipX (pos := pos) (p := p) hg hm (ja2 j j2 hs hs2) (star_cons hs) (by rw [star_cons hs2]; rfl)) fun σ H R ⟨env, h, Q, E, tk, sm, rv, q, k⟩ =>
    ⟨env, h, fun vs h2 => onSrc h2 (vs.headD .non) fun s => onSrc h2 (vs.getD 1 .non) fun t => Q ⟨zipV s.vals t.vals, s.pins ++ t.pins⟩ h2, E, tk, sm, rv, q, fun us H1 hl ⟨vs, h1, g1, s1, r1, q1⟩ => by
      have l := r1.length
      rw [hl] at l
      match vs, l with
      | [v, w], _ =>
        obtain ⟨u, z, rfl, r, r2⟩ := RVs.two r1
        have q1 := onSrc_pins q1
        obtain ⟨k1, p, s, rfl, ⟨o, pn⟩, f⟩ := src_x s1 r q1
        have o := onSrc_pins o
        obtain ⟨k2, p2, s2, rfl, ⟨q2, pn2⟩, f2⟩ := src_x s1 r2 o
        obtain ⟨us, a, _⟩ := f h1 H1 (Go.refl _ _) s1 pn
        obtain ⟨us2, a2, _⟩ := f2 h1 H1 (Go.refl _ _) s1 pn2
        exact ⟨k1, k2, p, p2, us, us2, rfl, a, a2, k _ _ _ _ g1 s1 (wk_zipX f f2) q2⟩⟩
end
end KM
/-! KMI: that what is asked suffices: list comprehensions. -/
namespace KM
open PySem PySem.Spec PyProof.Rows L2

theorem takes_no {X : Cx} : Takes X (fun _ _ _ _ => False) := fun _ _ x => by
  obtain ⟨a, B, sI, pins, σ, H, cls, d, e, I, nb, up, sky, na, os, ag, w⟩ := x
  exact w.elim
theorem tk_no {X : Cx} {σ : L2.St} {h : Hep} {H : Hp} : Tk X σ h H (fun _ _ => False) := Takes.imp takes_no fun _ _ _ _ ⟨_, _, _, _, _, _, f⟩ => f
theorem wipe_at (σ : L2.St) : ∀ (vs : List Nat) (i : Nat), (wipe σ vs)[i]? = if i ∈ vs ∧ i < σ.length then some none else σ[i]?
  | [], i => by simp [wipe]
  | v :: vs, i => by
    unfold wipe
    rw [List.getElem?_set, wipe_length, wipe_at σ vs i]
    by_cases hv : v = i
    · subst hv
      by_cases hl : v < σ.length
      · simp [hl]
      · simp [hl]
    · have e : ¬ i = v := fun z => hv z.symm
      simp [hv, e]
theorem wipe_sto {is vs : List Nat} {σ σ2 : L2.St} (s : Sto is (wipe σ vs) σ2) (h : ∀ i ∈ is, i ∈ vs) : wipe σ2 vs = wipe σ vs := by
  refine List.ext_getElem? fun i => ?_
  have l : σ2.length = σ.length := by rw [s.1, wipe_length]
  rw [wipe_at, wipe_at, l]
  by_cases hi : i ∈ vs ∧ i < σ.length
  · simp [hi]
  · rw [if_neg hi, if_neg hi]
    by_cases hv : i ∈ vs
    · have : ¬ i < σ.length := fun z => hi ⟨hv, z⟩
      rw [List.getElem?_eq_none (by omega), List.getElem?_eq_none (by omega)]
    · rw [s.2 i (fun z => hv (h i z)), wipe_at, if_neg hi]
theorem rvo_wipe {K : PySem.W.Frag} {H : Hp} {env : Env} {σ : L2.St} (r : RVo K H env σ) : ∀ vs : List Nat, RVo K H (wipeE env vs) (wipe σ vs)
  | [] => r
  | v :: vs => (rvo_wipe r vs).wipe v
def JTs (X : Cx) (ifs : List Expr) (w : WT) : Prop := PTs X ifs (tST X w)
section
variable {X : Cx} {C : CalT} {pos : Pos}
theorem jts_nil : JTs X [] (wCs C .nil) := ⟨fun pins s σ H Q' I ⟨env, h, Q, E, tk, sm, rv, q, k⟩ => (pts_nil).run pins s σ H Q' I (k _ _ ⟨h, Go.refl _ _, sm, q⟩)⟩
theorem jts_one {e : Expr} {x : Ex} {r : Exs} (j : JT X e (wT C x)) : JTs X [e] (wCs C (.cons x r)) := ⟨fun pins s σ H Q' I q => (pts_one j).run pins s σ H Q' I q⟩

theorem je_lc {elt tg iter : Expr} {ifs : List Expr} {scope : Scope} {own : List (Str × Nat)} {x : Ex} {t : Tg} {it : Ir} {cnd : Exs} (hc : X.calm = true) (hN : X.N.Nodup) (ok : BlkOk X.N X.env.scope scope own) (hsl : ∀ i ∈ t.slots, i ∈ own.map (·.2))
    (ji : JI X tg iter (wI C it))
    (jg : ∀ (s : Shared) (H : Hp) (Cc : Addr) (cl : List (Str × Addr)) (fp : List Addr), JG (X.blk s H scope (compEnvC scope cl Cc X.env) fp) tg t)
    (jt : ∀ (s : Shared) (H : Hp) (Cc : Addr) (cl : List (Str × Addr)) (fp : List Addr), JTs (X.blk s H scope (compEnvC scope cl Cc X.env) fp) ifs (wCs C cnd))
    (je : ∀ (s : Shared) (H : Hp) (Cc : Addr) (cl : List (Str × Addr)) (fp : List Addr), JE (X.blk s H scope (compEnvC scope cl Cc X.env) fp) elt (wE C x))
    (hs : ∀ x, foldedSetIterable iter X.env x = pure x) (vs : List Nat) (hvs : own.map (·.2) = vs) :
    ∃ (g : TG) (tt : TT) (te : TE) (wi : TI), PI X tg iter wi ∧
      (∀ (s : Shared) (H : Hp) (Cc : Addr) (cl : List (Str × Addr)) (fp : List Addr), PG (X.blk s H scope (compEnvC scope cl Cc X.env) fp) tg g) ∧
      (∀ (s : Shared) (H : Hp) (Cc : Addr) (cl : List (Str × Addr)) (fp : List Addr), PTs (X.blk s H scope (compEnvC scope cl Cc X.env) fp) ifs tt) ∧
      (∀ (s : Shared) (H : Hp) (Cc : Addr) (cl : List (Str × Addr)) (fp : List Addr), PE (X.blk s H scope (compEnvC scope cl Cc X.env) fp) elt te) ∧
      ∀ σ H Q', tS X (wE C (.lc x t it cnd vs)) σ H Q' → tLc wi g tt te vs σ H Q' := by
  -- the readings over the block's context: they speak of X's K, mg alone
  refine ⟨fun u σ H Q' => ∃ v env env' h, Sim X.K h H ∧ RV X.K H v u ∧ RVo X.K H env σ ∧ bindT t v env = some env' ∧ ∀ σ', Sto t.slots σ σ' → RVo X.K H env' σ' → Q' σ' H,
    fun σ H Q' => ∃ env h Q, Sim X.K h H ∧ RVo X.K H env σ ∧ wCs C cnd env h Q (fun _ _ => False) ∧ ∀ b H', LB X.K h H Q b H' → Q' b H',
    fun σ H Q' => ∃ env h Q, Sim X.K h H ∧ RVo X.K H env σ ∧ wE C x env h Q (fun _ _ => False) ∧ ∀ b H', LQ X.K h H Q b H' → Q' b H',
    _, ji, fun s H Cc cl fp => jg s H Cc cl fp, fun s H Cc cl fp => ⟨fun pins s σ H Q' I ⟨env, h, Q, sm, rv, q, k⟩ => (jt _ _ Cc cl fp).run pins s σ H Q' I ⟨env, h, Q, _, tk_no, sm, rv, q, k⟩⟩,
    fun s H Cc cl fp => PE.imp (je s H Cc cl fp) fun σ H Q' ⟨env, h, Q, sm, rv, q, k⟩ => ⟨env, h, Q, _, tk_no, sm, rv, q, k⟩, ?_⟩
  intro σ H Q' ⟨env, h, Q, E, tk, sm, rv, q, k⟩
  refine ⟨env, h, _, E, tk, sm, rv, q, fun src J h1 H1 g1 s1 wk ⟨smv, q1⟩ D nD => ?_⟩
  have rv1 := rvo_wipe (rv.go sm g1) vs
  have n0 : h1 D = none := s1.free nD
  refine ⟨fun i m H2 => ∃ h2 acc uacc, m = src.vals.length - i ∧ i ≤ src.vals.length ∧ Go h1 H1 h2 H2 ∧ Sim X.K h2 H2 ∧ h2 D = none ∧ H2 D = some (.lst uacc) ∧ RVs X.K H2 acc uacc ∧ uacc.length ≤ i ∧
      lcW (wCs C cnd) (wE C x) (bindT t) src.pins (wipeE env vs) Q (src.vals.drop i) acc h2, ⟨src.vals.length, h1, [], [], rfl, Nat.zero_le _, go_hid nD, s1.hid nD, n0, upd_same, RVs.nil, Nat.zero_le _, q1⟩, ?_⟩
  rintro i m H2 ⟨h2, acc, uacc, rfl, hi, g2, s2, n2, e2, ra, la, w⟩
  by_cases hlt : i < src.vals.length
  · obtain ⟨y, hy⟩ : ∃ y, src.vals[i]? = some y := ⟨_, List.getElem?_eq_getElem hlt⟩
    have hd : src.vals.drop i = y :: src.vals.drop (i + 1) := by
      rw [List.drop_eq_getElem_cons hlt]
      congr 1
      rw [List.getElem?_eq_getElem hlt] at hy
      exact Option.some.inj hy
    rw [hd] at w
    obtain ⟨pn, w⟩ := w
    obtain ⟨env', hb, w⟩ := onO_elim w
    refine .inr ⟨wk.go i h2 H2 hlt g2 s2 pn, fun H' => ∃ h2 acc uacc, i + 1 ≤ src.vals.length ∧ Go h1 H1 h2 H' ∧ Sim X.K h2 H' ∧ h2 D = none ∧ H' D = some (.lst uacc) ∧ RVs X.K H' acc uacc ∧ uacc.length ≤ i + 1 ∧
      lcW (wCs C cnd) (wE C x) (bindT t) src.pins (wipeE env vs) Q (src.vals.drop (i + 1)) acc h2, ?_, ?_⟩
    · rintro H' ⟨h3, acc3, uacc3, a1, a2, a3, a4, a5, a6, a7, a8⟩
      exact ⟨src.vals.length - (i + 1), by omega, h3, acc3, uacc3, rfl, a1, a2, a3, a4, a5, a6, a7, a8⟩
    · intro u H3 yl
      obtain ⟨g3, s3, r3⟩ := wk.yld i h2 H2 u H3 y hy g2 s2 pn yl
      refine ⟨y, _, env', h2, s3, r3, (rv1.go s1 g2).go s2 g3, hb, fun σ' st rv' => ⟨wipe_sto st (by rw [← hvs]; exact hsl), env', h2, _, s3, rv', w, ?_⟩⟩
      rintro b H4 ⟨h4, g4, s4, w4⟩
      have g34 := g3.trans g4
      have e4 : H4 D = some (.lst uacc) := g34.fr D _ e2 n2
      have n4 : h4 D = none := g34.nw D n2 (by rw [e2]; simp)
      have ra4 := (ra.go s2 g3).go s3 g4
      cases b with
      | false => exact ⟨h4, acc, uacc, hlt, g2.trans g34, s4, n4, e4, ra4, by omega, w4⟩
      | true =>
        refine ⟨env', h4, _, s4, rv'.go s3 g4, w4, ?_⟩
        rintro zu H5 ⟨v, h5, g5, s5, r5, w5⟩
        have e5 : H5 D = some (.lst uacc) := g5.fr D _ e4 n4
        have n5 : h5 D = none := g5.nw D n4 (by rw [e4]; simp)
        have ra5 := ra4.go s4 g5
        have sB : Sim X.K (hset h5 D (.lst acc)) H5 := fun a o e => by
          by_cases z : a = D
          · subst z
            rw [hset_same] at e
            cases e
            exact ⟨uacc, e5, ra5⟩
          · rw [hset_ne z] at e
            exact s5 a o e
        have gB : Go (hset h5 D (.lst acc)) H5 (hset (hset h5 D (.lst acc)) D (.lst (acc ++ [v]))) (upd H5 D (.lst (uacc ++ [zu]))) := go_set hset_same
        refine ⟨uacc, e5, ?_, h5, acc ++ [v], uacc ++ [zu], hlt, ?_, ?_, n5, upd_same, RVs.go sB gB (ra5.app (RVs.cons r5 RVs.nil)), by rw [List.length_append]; show uacc.length + 1 ≤ _; omega, w5⟩
        · exact Nat.lt_trans (Nat.lt_of_le_of_lt la hlt) (sm_line smv)
        · have g6 := (g2.trans g34).trans g5
          refine ⟨fun a o e n => ?_, fun a e => ?_, g6.nw⟩
          · rw [upd_ne (ne_of_none e nD)]
            exact g6.fr a o e n
          · by_cases z : a = D
            · subst z; rw [upd_same]; simp
            · rw [upd_ne z]; exact g6.dm a e
        · intro a o e
          have z : a ≠ D := fun y => by subst y; rw [n5] at e; cases e
          exact (sB.set (ob0 := .lst acc) hset_same (xs := acc ++ [v]) (us := uacc ++ [zu]) (ra5.app (RVs.cons r5 RVs.nil))) a o (by rw [hset_ne z, hset_ne z]; exact e)
  · have e : i = src.vals.length := by omega
    subst e
    rw [List.drop_length] at w
    obtain ⟨pn, w⟩ := w
    refine .inl ⟨wk.stop h2 H2 g2 s2 pn, k _ _ ⟨.ref D, hset h2 D (.lst acc), g1.trans ⟨g2.fr, g2.dm, fun a n e => ?_⟩, fun a o e => ?_, rfl, newL_at w D n2⟩⟩
    · have z : a ≠ D := fun y => by subst y; exact e nD
      rw [hset_ne z]
      exact g2.nw a n e
    · by_cases z : a = D
      · subst z
        rw [hset_same] at e
        cases e
        exact ⟨uacc, e2, ra⟩
      · rw [hset_ne z] at e
        exact s2 a o e
end
end KM
/-! KMJ: that what is asked suffices: statements. -/
namespace KM
open PySem PySem.Spec PyProof.Rows L2

def LN (K : PySem.W.Frag) (h : Hep) (H : Hp) (P : Env → Hep → Prop) (σ' : L2.St) (H' : Hp) : Prop := ∃ env' h', Go h H h' H' ∧ Sim K h' H' ∧ RVo K H' env' σ' ∧ P env' h'
theorem LN.trans {K : PySem.W.Frag} {h h1 : Hep} {H H1 H' : Hp} {P : Env → Hep → Prop} {σ' : L2.St} (g : Go h H h1 H1) (q : LN K h1 H1 P σ' H') : LN K h H P σ' H' := by
  obtain ⟨e, h2, g2, s2, r, q⟩ := q
  exact ⟨e, h2, g.trans g2, s2, r, q⟩
def TkS (X : Cx) (h : Hep) (H : Hp) (E : XE') : Prop := Takes X fun cls d σ' H' => ∃ env' ex h', Go h H h' H' ∧ Sim X.K h' H' ∧ RVo X.K H' env' σ' ∧ RX X.K X.mg H' ex cls d ∧ E ex env' h'
theorem TkS.go {X : Cx} {h h1 : Hep} {H H1 : Hp} {E : XE'} (t : TkS X h H E) (g : Go h H h1 H1) : TkS X h1 H1 E := Takes.imp t fun _ _ _ _ ⟨e, x, h', g1, q⟩ => ⟨e, x, h', g.trans g1, q⟩
theorem TkS.ex {X : Cx} {h : Hep} {H : Hp} {E : XE'} {env : Env} {σ : L2.St} (t : TkS X h H E) (sm : Sim X.K h H) (rv : RVo X.K H env σ) : Tk X σ h H (fun x h1 => E x env h1) :=
  Takes.imp t fun _ _ _ _ ⟨e, x, h', g, s, r, q⟩ => by
    subst e
    exact ⟨env, x, h', g, s, rv.go sm g, r, q⟩
structure EOk (K : PySem.W.Frag) (h : Hep) (H : Hp) (D : KD) (D' : Ends) : Prop where
  nx : ∀ σ' H', LN K h H D.nx σ' H' → D'.nx σ' H'
  rt : ∀ u H', LQ K h H D.rt u H' → D'.rt u H'
  bk : ∀ σ' H', LN K h H D.bk σ' H' → D'.bk σ' H'
  ct : ∀ σ' H', LN K h H D.ct σ' H' → D'.ct σ' H'
theorem EOk.go {K : PySem.W.Frag} {h h1 : Hep} {H H1 : Hp} {D : KD} {D' : Ends} (e : EOk K h H D D') (g : Go h H h1 H1) : EOk K h1 H1 D D' :=
  ⟨fun _ _ l => e.nx _ _ (LN.trans g l), fun _ _ l => e.rt _ _ (LQ.trans g l), fun _ _ l => e.bk _ _ (LN.trans g l), fun _ _ l => e.ct _ _ (LN.trans g l)⟩
def tSS (X : Cx) (w : WS) : TS := fun D' σ H => ∃ env h D E, TkS X h H E ∧ Sim X.K h H ∧ RVo X.K H env σ ∧ w env h D E ∧ EOk X.K h H D D'
def JS (X : Cx) (st : Stmt) (w : WS) : Prop := PS X st (tSS X w)
def JSs (X : Cx) (st : List Stmt) (w : WS) : Prop := PSs X st (tSS X w)
section
variable {X : Cx} {C : CalT} {pos : Pos}
theorem LN.here {K : PySem.W.Frag} {h : Hep} {H : Hp} {P : Env → Hep → Prop} {σ : L2.St} {env : Env} (s : Sim K h H) (r : RVo K H env σ) (q : P env h) : LN K h H P σ H := ⟨env, h, Go.refl _ _, s, r, q⟩
theorem js_bad {st : Stmt} : JS X st (wS C .bad) := ⟨fun _ _ _ _ _ _ ⟨_, _, _, _, _, _, _, q, _⟩ => q.elim⟩
theorem js_pass : JS X (.Pass pos) (wS C .pass) := PS.imp ps_pass fun D' σ H ⟨env, h, D, E, tk, sm, rv, q, k⟩ => k.nx _ _ (LN.here sm rv q)
theorem js_brk : JS X (.Break pos) (wS C .brk) := PS.imp ps_break fun D' σ H ⟨env, h, D, E, tk, sm, rv, q, k⟩ => k.bk _ _ (LN.here sm rv q)
theorem js_cont : JS X (.Continue pos) (wS C .cont) := PS.imp ps_continue fun D' σ H ⟨env, h, D, E, tk, sm, rv, q, k⟩ => k.ct _ _ (LN.here sm rv q)
def isComp : Expr → Bool
  | .ListComp .. => true
  | .SetComp .. => true
  | .DictComp .. => true
  | _ => false
theorem swap_no {e : Expr} (h : isComp e = false) {t : Option Expr} {l : Nat} {env : PySem.Env} : swapsWith e t l env = pure false := by
  cases e <;> first | rfl | cases h
theorem js_expr {e : Expr} {x : Ex} (j : JE X e (wE C x)) (hs : isComp e = false) : JS X (.Expr e pos) (wS C (.expr x)) :=
  PS.imp (ps_expr (pos := pos) j (swap_no hs)) fun D' σ H ⟨env, h, D, E, tk, sm, rv, q, k⟩ =>
    ⟨env, h, _, _, tk.ex sm rv, sm, rv, q, fun u H' ⟨v, h1, g1, s1, r1, q1⟩ => k.nx _ _ ⟨env, h1, g1, s1, rv.go sm g1, q1⟩⟩
theorem js_ret {e : Expr} {x : Ex} (j : JE X e (wE C x)) : JS X (.Return (some e) pos) (wS C (.ret x)) :=
  PS.imp (ps_ret (pos := pos) j) fun D' σ H ⟨env, h, D, E, tk, sm, rv, q, k⟩ => ⟨env, h, _, _, tk.ex sm rv, sm, rv, q, fun u H' l => k.rt _ _ l⟩
theorem js_retN : JS X (.Return none pos) (wS C .retN) := PS.imp ps_retN fun D' σ H ⟨env, h, D, E, tk, sm, rv, q, k⟩ => k.rt _ _ (LQ.here (v := .non) sm rfl q)
/-- target = value -/
theorem asg_core {te : TE} {tg e : Expr} {x : Ex} {t : Tg} {D' : Ends} {σ : L2.St} {H : Hp} (z : tSS X (wS C (.asg t x)) D' σ H) :
    tAsg (tS X (wE C x)) (fun u σ H Q' => ∃ v env env' h, Sim X.K h H ∧ RV X.K H v u ∧ RVo X.K H env σ ∧ bindT t v env = some env' ∧ ∀ σ', Sto t.slots σ σ' → RVo X.K H env' σ' → Q' σ' H) D' σ H := by
  obtain ⟨env, h, D, E, tk, sm, rv, q, k⟩ := z
  refine ⟨env, h, _, _, tk.ex sm rv, sm, rv, q, ?_⟩
  rintro u H' ⟨v, h1, g1, s1, r1, q1⟩
  obtain ⟨env', b, q1⟩ := onO_elim q1
  exact ⟨v, env, env', h1, s1, r1, rv.go sm g1, b, fun σ' _ rv' => k.nx _ _ ⟨env', h1, g1, s1, rv', q1⟩⟩
theorem js_asg {tg e : Expr} {x : Ex} {t : Tg} (j : JE X e (wE C x)) (g : JG X tg t) (hs : isComp e = false) (hw : swappedStores [tg] e X.env = pure none) (ht : isStar tg = false) : JS X (.Assign [tg] e pos) (wS C (.asg t x)) :=
  PS.imp (ps_asg (pos := pos) j g (swap_no hs) hw (by cases tg <;> first | rfl | cases ht)) fun D' σ H z => asg_core (te := tS X (wE C x)) (tg := tg) (e := e) z
theorem js_set {i : Nat} {y : Str} {e : Expr} {x : Ex} {p : Pos} (hN : X.N.Nodup) (hi : X.N[i]? = some y) (hx : Loc X.env.scope y) (hf : X.fn y = true ∨ X.env.scope.names.lookup y = some .local) (j : JE X e (wE C x)) (hs : swapsWith e (some (.Name y p)) pos.line X.env = pure false) : JS X (.Assign [.Name y p] e pos) (wS C (.asg (.nm i) x)) :=
  PS.imp (ps_set (pos := pos) (pos' := p) hN hi hx j hs hf) fun D' σ H ⟨env, h, D, E, tk, sm, rv, q, k⟩ =>
    ⟨env, h, _, _, tk.ex sm rv, sm, rv, q, fun u H' ⟨v, h1, g1, s1, r1, q1⟩ => k.nx _ _ ⟨_, h1, g1, s1, (rv.go sm g1).set r1 i, q1⟩⟩
theorem js_par {i j : Nat} {y z : Str} {a b : Expr} {xs : Exs} {py pz pt p2 : Pos} {kt k2 : Nat} (hc : X.calm = true) (hN : X.N.Nodup) (hi : X.N[i]? = some y) (hj : X.N[j]? = some z) (hij : i ≠ j) (hy : X.env.scope.names.lookup y = some .local) (hz : X.env.scope.names.lookup z = some .local)
    (ja : JAn X [a, b] 2 (wA C xs)) (hw : swappedStores [.Tuple [.Name y py, .Name z pz] kt pt] (.Tuple [a, b] k2 p2) X.env = pure (some [y, z])) : JS X (.Assign [.Tuple [.Name y py, .Name z pz] kt pt] (.Tuple [a, b] k2 p2) pos) (wS C (.par [i, j] xs)) :=
  PS.imp (ps_par (pos := pos) hc hN hi hj hij hy hz ja hw rfl) fun D' σ H ⟨env, h, D, E, tk, sm, rv, q, k⟩ =>
    ⟨env, h, _, _, tk.ex sm rv, sm, rv, q, fun us H' hl ⟨vs, h1, g1, s1, r1, q1⟩ => by
      have l := r1.length
      rw [hl] at l
      match vs, l with
      | [v, w], _ =>
        obtain ⟨u, u2, rfl, r, r2⟩ := RVs.two r1
        exact ⟨u, u2, rfl, k.nx _ _ ⟨_, h1, g1, s1, ((rv.go sm g1).set r i).set r2 j, q1⟩⟩⟩
theorem js_par3 {i j l : Nat} {y z w : Str} {a b c : Expr} {xs : Exs} {py pz pw pt p2 : Pos} {kt k2 : Nat} (hc : X.calm = true) (hN : X.N.Nodup) (hi : X.N[i]? = some y) (hj : X.N[j]? = some z) (hl : X.N[l]? = some w) (hij : i ≠ j) (hil : i ≠ l) (hjl : j ≠ l)
    (hy : X.env.scope.names.lookup y = some .local) (hz : X.env.scope.names.lookup z = some .local) (hwl : X.env.scope.names.lookup w = some .local)
    (ja : JAn X [a, b, c] 3 (wA C xs)) (hw : swappedStores [.Tuple [.Name y py, .Name z pz, .Name w pw] kt pt] (.Tuple [a, b, c] k2 p2) X.env = pure (some [y, z, w])) : JS X (.Assign [.Tuple [.Name y py, .Name z pz, .Name w pw] kt pt] (.Tuple [a, b, c] k2 p2) pos) (wS C (.par [i, j, l] xs)) :=
  PS.imp (ps_par3 (pos := pos) hc hN hi hj hl hij hil hjl hy hz hwl ja hw rfl) fun D' σ H ⟨env, h, D, E, tk, sm, rv, q, k⟩ =>
    ⟨env, h, _, _, tk.ex sm rv, sm, rv, q, fun us H' hl ⟨vs, h1, g1, s1, r1, q1⟩ => by
      have l := r1.length
      rw [hl] at l
      match vs, l with
      | [v, w, v3], _ =>
        obtain ⟨u, us', rfl, r, r1⟩ := r1
        obtain ⟨u2, u3, rfl, r2, r3⟩ := RVs.two r1
        exact ⟨u, u2, u3, rfl, k.nx _ _ ⟨_, h1, g1, s1, (((rv.go sm g1).set r i).set r2 j).set r3 _, q1⟩⟩⟩
theorem js_setix {o i e : Expr} {x y z : Ex} {p : Pos} (jo : JE X o (wE C x)) (ji : JE X i (wE C y)) (je : JE X e (wE C z)) (hi : isSlice i = false) (hs : isComp e = false) (hw : swappedStores [.Subscript o i p] e X.env = pure none) : JS X (.Assign [.Subscript o i p] e pos) (wS C (.setix x y z)) :=
  PS.imp (ps_asg (pos := pos) je (pg_sub (pos := p) jo ji opSet_ok (by intro v; cases i <;> first | rfl | cases hi)) (show swapsWith e (some (.Subscript o i p)) pos.line X.env = pure false from swap_no hs) hw rfl) fun D' σ H ⟨env, h, D, E, tk, sm, rv, q, k⟩ =>
    ⟨env, h, _, _, tk.ex sm rv, sm, rv, q, fun u H1 ⟨v, h1, g1, s1, r1, q1⟩ => ⟨env, h1, _, _, (tk.go g1).ex s1 (rv.go sm g1), s1, rv.go sm g1, q1, fun u2 H2 ⟨v2, h2, g2, s2, r2, q2⟩ =>
      ⟨env, h2, _, _, ((tk.go g1).go g2).ex s2 ((rv.go sm g1).go s1 g2), s2, (rv.go sm g1).go s1 g2, q2, fun u3 H3 ⟨v3, h3, g3, s3, r3, q3⟩ =>
        ⟨v2, v3, v, h3, _, s3, RV.go s2 g3 r2, r3, RV.go s2 g3 (RV.go s1 g2 r1), q3, fun H' ⟨h', g', s', q'⟩ => k.nx _ _ ⟨env, h', ((g1.trans g2).trans g3).trans g', s', (((rv.go sm g1).go s1 g2).go s2 g3).go s3 g', q'⟩⟩⟩⟩⟩
theorem js_ife {c : Expr} {a b : List Stmt} {x : Ex} {y z : Sxs} (jc : JT X c (wT C x)) (ja : JSs X a (wSs C y)) (jb : JSs X b (wSs C z)) : JS X (.If c a b pos) (wS C (.ife x y z)) :=
  PS.imp (ps_if (pos := pos) jc ja jb) fun D' σ H ⟨env, h, D, E, tk, sm, rv, q, k⟩ =>
    ⟨env, h, _, _, tk.ex sm rv, sm, rv, q, fun t H1 ⟨h1, g1, s1, q1⟩ => by
      cases t with
      | true => exact ⟨env, h1, D, E, tk.go g1, s1, rv.go sm g1, q1, k.go g1⟩
      | false => exact ⟨env, h1, D, E, tk.go g1, s1, rv.go sm g1, q1, k.go g1⟩⟩
theorem js_whil {c : Expr} {b : List Stmt} {x : Ex} {y : Sxs} (hp : PassesOwn (model X.prog X.w) X.A X.env X.xe) (jc : JT X c (wT C x)) (jb : JSs X b (wSs C y)) : JS X (.While c b [] pos) (wS C (.whil x y)) :=
  PS.imp (ps_while (pos := pos) hp jc jb) fun D' σ H ⟨env, h, D, E, tk, sm, rv, ⟨I, ⟨m, i0⟩, turn⟩, k⟩ => by
    refine ⟨fun m σ' H' => LN X.K h H (fun e2 h2 => I m e2 h2) σ' H', ⟨m, LN.here sm rv i0⟩, ?_⟩
    rintro m σ1 H1 ⟨env1, h1, g1, s1, rv1, i1⟩
    refine ⟨env1, h1, _, _, (tk.go g1).ex s1 rv1, s1, rv1, turn m env1 h1 i1, ?_⟩
    rintro t H2 ⟨h2, g2, s2, q2⟩
    have g12 := g1.trans g2
    cases t with
    | true =>
      refine ⟨fun σ' H' => LN X.K h2 H2 (fun e2 h2 => ∃ m', m' < m ∧ I m' e2 h2) σ' H', ?_, env1, h2, _, E, tk.go g12, s2, rv1.go s1 g2, q2, ⟨fun _ _ l => l, fun _ _ l => k.rt _ _ (LQ.trans g12 l), fun _ _ l => k.nx _ _ (LN.trans g12 l), fun _ _ l => l⟩⟩
      rintro σ' H' ⟨e', h', g', s', r', m', hm, i'⟩
      exact ⟨m', hm, e', h', g12.trans g', s', r', i'⟩
    | false => exact k.nx _ _ ⟨env1, h2, g12, s2, rv1.go s1 g2, q2⟩
theorem js_forr {tg iter : Expr} {b : List Stmt} {t : Tg} {it : Ir} {y : Sxs} (hp : PassesOwn (model X.prog X.w) X.A X.env X.xe) (hc : X.calm = true) (ji : JI X tg iter (wI C it)) (jg : JG X tg t) (jb : JSs X b (wSs C y)) (hs : ∀ x, foldedSetIterable iter X.env x = pure x) :
    JS X (.For tg iter b [] pos) (wS C (.forr t it y)) :=
  PS.imp (ps_for (pos := pos) hp hc ji jg jb hs) fun D' σ H ⟨env, h, D, E, tk, sm, rv, q, k⟩ => by
    refine ⟨env, h, _, _, tk.ex sm rv, sm, rv, q, fun src J h1 H1 g1 s1 wk q1 => ?_⟩
    refine ⟨fun i m σ2 H2 => m = src.vals.length - i ∧ i ≤ src.vals.length ∧ LN X.K h1 H1 (fun e2 h2 => forW (wSs C y) (bindT t) src.pins D E (src.vals.drop i) e2 h2) σ2 H2, ⟨src.vals.length, rfl, Nat.zero_le _, LN.here s1 (rv.go sm g1) q1⟩, ?_⟩
    rintro i m σ2 H2 ⟨rfl, hi, env2, h2, g2, s2, rv2, w⟩
    by_cases hlt : i < src.vals.length
    · obtain ⟨v, hy⟩ : ∃ y, src.vals[i]? = some y := ⟨_, List.getElem?_eq_getElem hlt⟩
      have hd : src.vals.drop i = v :: src.vals.drop (i + 1) := by
        rw [List.drop_eq_getElem_cons hlt]
        congr 1
        rw [List.getElem?_eq_getElem hlt] at hy
        exact Option.some.inj hy
      rw [hd] at w
      obtain ⟨pn, w⟩ := w
      obtain ⟨env', hb, w⟩ := onO_elim w
      refine .inr ⟨wk.go i h2 H2 hlt g2 s2 pn, fun σ' H' => LN X.K h2 H2 (fun e3 h3 => forW (wSs C y) (bindT t) src.pins D E (src.vals.drop (i + 1)) e3 h3) σ' H', ?_, ?_⟩
      · rintro σ' H' l
        exact ⟨src.vals.length - (i + 1), by omega, rfl, hlt, LN.trans g2 l⟩
      · intro u H3 yl
        obtain ⟨g3, s3, r3⟩ := wk.yld i h2 H2 u H3 v hy g2 s2 pn yl
        have g13 := (g1.trans g2).trans g3
        refine ⟨v, env2, env', h2, s3, r3, rv2.go s2 g3, hb, fun σ' _ rv' => ⟨env', h2, _, E, tk.go g13, s3, rv', w, ⟨fun _ _ l => LN.trans g3 l, fun _ _ l => k.rt _ _ (LQ.trans g13 l), fun _ _ l => k.nx _ _ (LN.trans g13 l), fun _ _ l => LN.trans g3 l⟩⟩⟩
    · have e : i = src.vals.length := by omega
      subst e
      rw [List.drop_length] at w
      obtain ⟨pn, w⟩ := w
      exact .inl ⟨wk.stop h2 H2 g2 s2 pn, k.nx _ _ ⟨env2, h2, g1.trans g2, s2, rv2, w⟩⟩
theorem jss_nil : JSs X [] (wSs C .nil) := PSs.imp pss_nil fun D' σ H ⟨env, h, D, E, tk, sm, rv, q, k⟩ => k.nx _ _ (LN.here sm rv q)
theorem jss_cons {st : Stmt} {r : List Stmt} {x : Sx} {xs : Sxs} (j : JS X st (wS C x)) (jr : JSs X r (wSs C xs)) : JSs X (st :: r) (wSs C (.cons x xs)) :=
  PSs.imp (pss_cons j jr) fun D' σ H ⟨env, h, D, E, tk, sm, rv, q, k⟩ =>
    ⟨env, h, _, E, tk, sm, rv, q, ⟨fun σ' H' ⟨e1, h1, g1, s1, r1, q1⟩ => ⟨e1, h1, D, E, tk.go g1, s1, r1, q1, k.go g1⟩, k.rt, k.bk, k.ct⟩⟩
end
end KM
/-! KLA: own errors that hold what they were made with (the guide's block of an own error, for any class and field). -/
namespace PySem
namespace LowX
open PySem.W PySem.Calls PyProof.Rows PySem.HandSPX
/-! ### the text of __init__ -/
def iA (fl : Str) (p1 p2 : Pos) : Arguments := { posonlyargs := [], args := [{ arg := "self", annotation := none, pos := p1 }, { arg := fl, annotation := none, pos := p2 }], vararg := none, kwonlyargs := [], kw_defaults := [], kwarg := none, defaults := [] }
def iB (fl : Str) (q1 q2 q3 q4 : Pos) : List Stmt := [.Assign [.Attribute (.Name "self" q1) fl q2] (.Name fl q3) q4]
def iS (fl : Str) : Scope := { kind := .function, names := [(PySem.Str.ofString "self", .local), (fl, .local)], isGenerator := false, isCoroutine := false, more := [] }
/-- what a field's name has to be like (each name by rfl) -/
structure Fld (fl : Str) : Prop where
  ne : fl ≠ "self"
  hd : (fl == ("__debug__" : Str)) = false
  bind : ∀ (qual : Str) (p1 p2 q1 q2 q3 q4 : Pos) (kV doc pm : Value) (an : Option Addr) (cdv ct a v : Value), bindArgs (fnOf "__init__" qual (iA fl p1 p2) (iB fl q1 q2 q3 q4) (iS fl) .none kV doc pm an cdv ct) ⟨[a, v], []⟩ = pure [(("self" : Str), a), (fl, v)]
  here : ∀ a v : Value, ([(("self" : Str), a), (fl, v)].all fun y : Str × Value => (iS fl).names.lookup y.1 == some .local || (iS fl).names.lookup y.1 == some .cell) = true
  kind : ∀ (qual : Str) (L a : Addr) (cd : Value), (envOfC qual (iS fl) L a cd).kindOf fl = some .local
  kinS : ∀ (qual : Str) (L a : Addr) (cd : Value), (envOfC qual (iS fl) L a cd).kindOf "self" = some .local
  own : ∀ (qual : Str) (L a : Addr) (cd b v : Value), bindL (envOfC qual (iS fl) L a cd).kindOf [(("self" : Str), b), (fl, v)] (fun _ => none) fl = some v
  self : ∀ (qual : Str) (L a : Addr) (cd b v : Value), bindL (envOfC qual (iS fl) L a cd).kindOf [(("self" : Str), b), (fl, v)] (fun _ => none) "self" = some b
/-- what the written part says of Low, at C, and of its __init__, at fI -/
structure LowTxt (K : Frag) (mg : Str → Option Value) (cn fl : Str) (C fI : Addr) : Prop where
  gC : mg cn = some (.ref C)
  cls : ∃ nm q N bs bm sn sub ab col dd k0 k1 k2 k3 k5, K.lookup C = some (excClassObj nm q C N bs bm true sn sub ab col dd k0 k1 k2 k3 k5 "ValueError.__new__") ∧ refsVE bm = true
  sa : findIn K (.ref C) "__setattr__" = some (some (.builtin "object.__setattr__"))
  ga : findIn K (.ref C) "__getattribute__" = some (some (.builtin "BaseException.__getattribute__"))
  gg : findIn K (.ref C) "__getattr__" = some none
  noN : findIn K (.ref C) fl = some none
  iC : findIn K (.ref C) "__init__" = some (some (.ref fI))
  tC : typeIn K (.ref fI) = some (.type "function")
  kC : keepIn K (.ref C) = true
  exC : subIn K (.ref C) (.type "BaseException") = some true
  tyC : typeIn K (.ref C) = some (.type "type")
  hdC : hasDictIn K C = true
  te : exmOne K (.ref C) (.ref C) = some true
  fn : ∃ (oc : Value) (od : Option Addr) (kV doc pm : Value) (an : Option Addr) (cdv ct : Value) (osl : Array (Option Value)) (p1 p2 q1 q2 q3 q4 : Pos),
    K.lookup fI = some ⟨oc, od, .func (fnOf "__init__" (cn ++ ".__init__") (iA fl p1 p2) (iB fl q1 q2 q3 q4) (iS fl) .none kV doc pm an cdv ct), osl⟩ ∧ codeIn K cdv (cn ++ ".__init__") = true
theorem one_size (v : Value) : [v].length ≤ sizeLine := by
  rw [sizeLine_eq]
  exact (by decide : 1 ≤ 16777216)
theorem kept_but {K : Frag} {h h' : Heap} {x : Addr} (X : K.In h) (hx : K.lookup x = none) (k : ∀ b o, b ≠ x → h.get? b = some o → h'.get? b = some o) : K.In h' := fun a o e =>
  k a o (fun z => by rw [z, hx] at e; cases e) (X a o e)
theorem ldC {M : Model} {s : Shared} {name : Str} {scope : Scope} {L a : Addr} {cd : Value} {m : Str → Option Value} {x : Str} {pos : Pos} {v : Value} {Q : Value → Shared → Prop} {A : Around} {E : Value → Shared → Prop} (hn : s.heap.Ns L m) (hv : m x = some v) (h : Q v s)
    (hk : scope.kind = .function := by rfl) (hl : (envOfC name scope L a cd).kindOf x = some .local := by rfl) (hd : (x == ("__debug__" : Str)) = false := by decide) :
    wpAny M A (eval (.Name x pos) (envOfC name scope L a cd)) Q E s := wpAny_Name (wpAny_loadName_local hk hl hn hv h) hd
/-- what __init__ leaves of a fresh exception at x -/
structure InitEnd (fl : Str) (h h' : Heap) (x C dx t1 : Addr) (v : Value) : Prop where
  keep : ∀ b o, b ≠ x → h.get? b = some o → h'.get? b = some o
  obj : h'.get? x = some { cls := .ref C, dict := some dx, data := .fields #[.ref t1, .none, .none, .none, .bool false, .none] }
  dbig : h.objs.size ≤ dx
  dne : dx ≠ x
  ns : h'.Ns1 dx (fun y => if y = fl then some v else none)
/-- a made Low -/
structure OwnMade (fl : Str) (h h' : Heap) (e C d : Addr) (v : Value) : Prop where
  keep : ∀ b o, h.get? b = some o → h'.get? b = some o
  new : h.objs.size ≤ e
  obj : ∃ oe vs, h'.get? e = some oe ∧ oe.cls = .ref C ∧ oe.dict = some d ∧ oe.data = .fields vs ∧ vs[1]? = some .none
  dbig : h.objs.size ≤ d
  dne : d ≠ e
  ns : h'.Ns1 d (fun y => if y = fl then some v else none)
section
variable {prog : Program} {w : World} {A : Around} {E : Value → Shared → Prop} {R : Result → Shared → Prop} {s : Shared} {K : Frag} {mg : Str → Option Value} {C fI : Addr} {cn fl : Str}
theorem low_init (nf : Fld fl) (T : LowTxt K mg cn fl C fI) {x t0 : Addr} {v : Value} (X : K.In s.heap) (hlim : s.heap.NoLimit) (hx : s.heap.get? x = some (excO C t0)) (hnx : K.lookup x = none) (hroom : A.depth < recursionLimit)
    (hq : ∀ h' tk dx, InitEnd fl s.heap h' x C dx t0 v → R (.ok (.ret .none)) { s with heap := h', toks := tk }) :
    codeAny (model prog w) A (.call (.ref fI) ⟨[.ref x, v], []⟩) R s := by
  obtain ⟨oc, od, kV, doc, pm, an, cdv, ct, osl, p1, p2, q1, q2, q3, q4, ho, hcd⟩ := T.fn
  obtain ⟨nm, q, N, bs, bm, sn, sub, ab, col, dd, k0, k1, k2, k3, k5, hC, hbm⟩ := T.cls
  have hcl : clsIn K C = some { name := nm, bases := bs, mro := .ref C :: bm, ns := N, qualname := q, hasDict := true, slotNames := sn, subclasses := sub, abstract := ab, collection := col, hasDel := false } := by unfold clsIn; rw [hC] <;> rfl
  refine Att.call_fn (binds := [("self", .ref x), (fl, v)]) X hlim ho hcd hroom (BindsTo.of_eq (nf.bind _ _ _ _ _ _ _ _ _ _ _ _ _ _ _)) (nf.here _ _) (fun s₁ IC => ?_) rfl rfl rfl
  obtain ⟨h₁, tk₁, rfl⟩ := IC.toInCall.same
  have k : ∀ b o, s.heap.get? b = some o → h₁.get? b = some o := IC.toInCall.keep
  have hn := IC.toInCall.ns
  have hxL : s.heap.objs.size ≠ x := Nat.ne_of_gt (Heap.lt_size hx)
  have X₁ : K.In h₁ := X.keeps k
  have hx₁ := k _ _ hx
  -- self.by = by
  show wpAny _ _ (execs _ _) _ _ _
  refine wpAny_execs_cons (plainObj_wpAny_Assign_Attribute ?_)
  refine ldC (v := v) hn (nf.own _ _ _ _ _ _) (ldC (v := .ref x) hn (nf.self _ _ _ _ _ _) ?_ rfl (nf.kinS _ _ _ _) (by decide)) rfl (nf.kind _ _ _ _) nf.hd
  refine set_plain X₁ (ox := excO C t0) (od := none) ⟨hx₁, rfl, rfl, trivial⟩ T.sa ?_
  refine exc_osa X₁ hx₁ hcl (show refsVE (.ref C :: bm) = true from hbm) rfl T.noN (fun h₃ tk₃ dx k₃ dn dne hx₃ hn₃ => ?_)
  show wpAny _ _ (execs _ _) _ _ _
  have z : s.heap.objs.size < h₁.objs.size := hn.lt
  exact wpAny_execs_nil (hq h₃ tk₃ dx ⟨fun b o hb e => k₃ b o hb (k b o e), hx₃, Nat.le_of_lt (Nat.lt_of_lt_of_le z dn), dne, hn₃⟩)
theorem low_made (nf : Fld fl) (T : LowTxt K mg cn fl C fI) {v : Value} (X : K.In s.heap) (hlim : s.heap.NoLimit) (hroom : A.depth + 1 < recursionLimit)
    (hq : ∀ h' tk e d, OwnMade fl s.heap h' e C d v → R (.ok (.ret (.ref e))) { s with heap := h', toks := tk }) :
    codeAny (model prog w) A (.call (.ref C) ⟨[v], []⟩) R s := by
  obtain ⟨nm, q, N, bs, bm, sn, sub, ab, col, dd, k0, k1, k2, k3, k5, hC, hbm⟩ := T.cls
  obtain ⟨hp, g, dr, tk, os⟩ := s
  have k : ∀ b o, hp.get? b = some o → ((hp.push (kdv_tup [v])).push (excO C hp.objs.size)).get? b = some o := fun b o e => Heap.get?_push_of_some _ (Heap.get?_push_of_some _ e)
  have hget : ((hp.push (kdv_tup [v])).push (excO C hp.objs.size)).get? (hp.objs.size + 1) = some (excO C hp.objs.size) := by heap_get
  have hnx : K.lookup (hp.objs.size + 1) = none := by
    cases e : K.lookup (hp.objs.size + 1) with
    | none => rfl
    | some o =>
      have z : hp.get? (hp.objs.size + 1) = some o := X _ _ e
      exact absurd (Nat.lt_of_succ_lt (Heap.lt_size z)) (Nat.lt_irrefl _)
  refine call_own F.excBase_ValueError (fun X => refsVE_contains X bm hbm) (X _ _ hC) (looks_findIn X T.iC) (fun self => bind_fn X self T.tC) (one_size v) ?_
  refine low_init nf (s := ⟨(hp.push (kdv_tup [v])).push (excO C hp.objs.size), g, dr, tk, os⟩) T (X.keeps k) (hlim.keeps k) hget hnx ?_ fun h' tk' dx ⟨k', hx, dn, dne, hns⟩ => ?_
  · show A.depth + 1 < recursionLimit
    exact hroom
  · have old : ∀ b o, hp.get? b = some o → h'.get? b = some o := fun b o e => k' b o (Nat.ne_of_lt (Nat.lt_succ_of_lt (Heap.lt_size e))) (k b o e)
    have z : hp.objs.size + 1 + 1 ≤ dx := by
      first
        | (simpa only [Heap.size_push] using dn)
        | exact dn
        | (have q := dn; rw [Heap.size_push, Heap.size_push] at q; exact q)
    exact ⟨rfl, hq h' tk' (hp.objs.size + 1) dx ⟨old, Nat.le_succ _, ⟨_, _, hx, rfl, rfl, rfl, rfl⟩, Nat.le_trans (Nat.le_trans (Nat.le_succ _) (Nat.le_succ _)) z, dne, hns⟩⟩
end
end LowX
end PySem
namespace L2
open PySem PySem.Spec PyProof.Rows
theorem relO_low {fl : Str} {v : V} {v' : Value} (r : RelV v v') (g : Str) : RelO (List.lookup g [((fl : Str), v)]) (if g = fl then some v' else none) := by
  by_cases hw : g = fl
  · subst hw
    rw [if_pos rfl, show List.lookup g [((g : Str), v)] = some v by simp [List.lookup]]
    exact r
  · have qw : (g == fl) = false := by simpa using hw
    rw [if_neg hw, show List.lookup g [((fl : Str), v)] = none by simp [List.lookup, qw]]
    trivial
section
variable {X : Cx} {C fI : Addr} {cn fl : Str}
/-- Low(e) -/
def tMkLow (fl : Str) (C : Addr) (ta : TA) : St → Hp → XK → Prop := fun σ H Q => ta σ H fun vs H1 => ∃ v, vs = [v] ∧ ∀ d, H1 d = none → Q (.ref C) (some d) (upd H1 d (.xd [((fl : Str), v)]))
theorem pmk_low (nf : PySem.LowX.Fld fl) (hdb : (cn == ("__debug__" : Str)) = false) {a : Expr} {ta : TA} {p pos : Pos} {k : Nat} (T : PySem.LowX.LowTxt X.K X.mg cn fl C fI) (hr : Room k X.A) (ha : PA X [a] ta) (hg : Gl X cn)
    (he : starEach (a :: []) X.env = (false, eval a X.env) :: starEach [] X.env := by rfl) (hpl : (backTo pos (starEach [] X.env)).any (·.1) = false := by rfl) :
    PMk X (.Call (.Name cn p) [a] [] pos) (tMkLow fl C ta) := by
  intro pins s σ H Q I h
  refine wpAny_Call_Name_kw (ld_glob I hg T.gC ?_ hdb)
  refine PySem.W.callWith_K (h₀ := X.base) I.ok.mod.kin T.kC (thn (ha.run pos pins s σ H _ I h) fun us s1 hh => ?_) he hpl
  obtain ⟨vs, H1, I1, r1, v, ev, q1⟩ := hh
  subst ev
  refine ⟨I1.kIn, ?_⟩
  cases r1 with
  | cons rv rn =>
    rename_i v' us'
    cases rn
    show wpAny _ _ (call (.ref C) [v']) _ _ _
    have hlim := I1.nolimit
    obtain ⟨hp, g, dr, tk, os⟩ := s1
    refine wpAny_call (PySem.LowX.low_made nf T I1.kIn hlim (by have := hr.dp; omega) fun h' tk' e d M => ?_)
    show MkP X pins σ Q (.ref e) ⟨h', g, dr, tk', os⟩
    obtain ⟨oe, fv, hoe, hc, hd, hdat, h1⟩ := M.obj
    have hns := M.ns
    obtain ⟨G', g1, g2⟩ := restrict h' fun b => decide (b ≠ e)
    have gk : ∀ b, b ≠ e → G'.get? b = h'.get? b := fun b hb => g1 b (decide_eq_true hb)
    have ge : G'.get? e = none := g2 e (by simp)
    have old : ∀ b o, hp.get? b = some o → G'.get? b = some o := fun b o q => (gk b (Nat.ne_of_lt (Nat.lt_of_lt_of_le (Heap.lt_size q) M.new))).trans (M.keep b o q)
    have ob : ObjOk X.prog X.w (upd H1 d (.xd [((fl : Str), v)])) G' d (.xd [((fl : Str), v)]) :=
      ⟨_, hns.at (fun o q => (gk d M.dne).trans q), fun f => relO_low rv f⟩
    have J : Inv X pins σ (upd H1 d (.xd [((fl : Str), v)])) ⟨G', g, dr, tk', os⟩ := I1.laid (t' := tk') old M.dbig ob
    refine ⟨e, oe, fv, ⟨G', g, dr, tk', os⟩, _, .ref C, some d, rfl, J, fun b o q => ?_, ge, hoe, ⟨hc, hd⟩, hdat, h1, ?_, rfl, I1.bare, raises_own T.exC T.tyC, q1 d (I1.hok.fresh M.dbig)⟩
    · by_cases hb : b = e
      · have q' : G'.get? b = some o := q
        rw [hb, ge] at q'; cases q'
      · exact (gk b hb).symm.trans q
    · rw [upd_ne (Ne.symm M.dne)]
      exact I1.hok.fresh M.new
/-- raise Low(e) -/
def tRaiseLow (fl : Str) (C : Addr) (W : WX) (ta : TA) : TS := fun _ σ H => tMkLow fl C ta σ H fun cls d H' => W cls d σ H'
theorem ps_raiseLow (nf : PySem.LowX.Fld fl) (hdb : (cn == ("__debug__" : Str)) = false) {a : Expr} {ta : TA} {W : WX} {p pos pos2 : Pos} {k : Nat} (hc : X.calm = true) (T : PySem.LowX.LowTxt X.K X.mg cn fl C fI) (hr : Room k X.A) (tk : Takes X W) (ha : PA X [a] ta) (hg : Gl X cn)
    (he : starEach (a :: []) X.env = (false, eval a X.env) :: starEach [] X.env := by rfl) (hpl : (backTo pos (starEach [] X.env)).any (·.1) = false := by rfl) :
    PS X (.Raise (some (.Call (.Name cn p) [a] [] pos)) none pos2) (tRaiseLow fl C W ta) := ps_raise hc tk (pmk_low nf hdb T hr ha hg he hpl)
/-- low.by, low the exception that the suite holds (at a; its class cls, its dict d) -/
def tByLow (fl : Str) (C : Addr) (a : Addr) (cls : Value) (d : Option Addr) (te : TE) : TE := fun σ H Q => te σ H fun x H1 => x = .ref a ∧ cls = .ref C ∧ ∃ (dd : Addr) (v : V), d = some dd ∧ H1 dd = some (.xd [((fl : Str), v)]) ∧ Q v H1
theorem pe_byLow {a : Addr} {oe : Obj} {cls : Value} {d : Option Addr} {pn : List (Addr × Obj)} {e : Expr} {te : TE} {pos : Pos} (T : PySem.LowX.LowTxt X.K X.mg cn fl C fI) (hz : Zc cls d oe) (hf : ∃ vs, oe.data = .fields vs) (he : PE (X.suite a ((a, oe) :: pn)) e te)
    (hb : attributeBase e fl X.env (eval e X.env) = eval e X.env := by rfl) :
    PE (X.suite a ((a, oe) :: pn)) (.Attribute e fl pos) (tByLow fl C a cls d te) := by
  refine ⟨fun pins s σ H Q I h => ?_⟩
  refine attr_of hb (thn (he.run pins s σ H _ I h) fun u s1 hh => ?_)
  obtain ⟨x, H1, I1, rx, ex, ec, dd, v, ed, ea, q⟩ := hh
  subst ex
  obtain rfl : u = Value.ref a := rx
  subst ec
  subst ed
  obtain ⟨ha, _⟩ := I1.pin (a, oe) (List.mem_append_left _ List.mem_cons_self)
  obtain ⟨vs, hd⟩ := hf
  have hx : ObjOk X.prog X.w H1 s1.heap dd (.xd [((fl : Str), v)]) := I1.hok dd _ ea
  obtain ⟨mA, hns, hr⟩ := hx
  obtain ⟨od, ho, hl⟩ := lookIn_ns hns
  have l : List.lookup (fl : Str) [((fl : Str), v)] = some v := by simp [List.lookup]
  obtain ⟨u, hu, ru⟩ := RelO.some_of (v := v) (o := mA fl) (by rw [← l]; exact hr fl)
  have J : PySem.W.InstAt s1.heap a oe C (some od) := ⟨ha, hz.1, by unfold PySem.W.notCls; rw [hd] <;> rfl, by rw [hz.2]; exact ho⟩
  exact HandSPX.exc_get I1.kIn J T.ga T.gg T.exC (PySem.W.findObj_own T.hdC T.noN rfl (by rw [hl, hu])) (handed_of ru) ⟨v, H1, I1.tok _, ru, q⟩
end
end L2


namespace KM
open PySem PySem.Spec PyProof.Rows L2
/-- an own error of one field -/
def ErrOk (K : PySem.W.Frag) (mg : Str → Option Value) (x f : Str) : Prop := PySem.LowX.Fld f ∧ ∃ C fI, PySem.LowX.LowTxt K mg x f C fI
theorem js_rais {X : Cx} {C : CalT} {x f : Str} {a : Expr} {e : Ex} {k : Nat} {p pos pos2 : Pos} (hc : X.calm = true) (er : ErrOk X.K X.mg x f) (hdb : (x == ("__debug__" : Str)) = false) (hr : Room k X.A) (hg : Gl X x) (ja : JE X a (wE C e))
    (he : starEach (a :: []) X.env = (false, eval a X.env) :: starEach [] X.env) : JS X (.Raise (some (.Call (.Name x p) [a] [] pos)) none pos2) (wS C (.rais x f e)) := by
  obtain ⟨nf, C0, fI, T⟩ := er
  refine ⟨fun pins s σ H D' I ⟨env, h, D, E, tk, sm, rv, q, k0⟩ => ?_⟩
  refine (ps_raiseLow (p := p) (pos := pos) (pos2 := pos2) nf hdb hc T hr tk (pa_cons ja pa_nil he) hg he rfl).run pins s σ H D' I ?_
  refine ⟨env, h, _, _, tk.ex sm rv, sm, rv, q, fun u H1 ⟨v, h1, g1, s1, r1, q1⟩ => ⟨u, rfl, fun d nd => ?_⟩⟩
  have g2 : Go h1 H1 h1 (upd H1 d (.xd [(f, u)])) := go_hid nd
  refine ⟨env, ⟨x, [(f, v)]⟩, h1, g1.trans g2, s1.hid nd, (rv.go sm g1).go s1 g2, ⟨C0, T.gC, rfl, .inr ⟨d, _, rfl, upd_same, rfl, ⟨u, [], rfl, RV.go s1 g2 r1, rfl⟩⟩⟩, q1⟩
end KM
/-! KLB: try with several clauses, some of them named (the guide's rules for several, for one named, put together). -/
namespace L2
open PySem PySem.Spec PyProof.Rows
abbrev HTs : Type := Addr → Value → Option Addr → TS
/-- what a named clause makes of the ends -/
def asD (i : Nat) (D : Ends) : Ends := { nx := fun σ' H' => D.nx (σ'.set i none) H', rt := D.rt, bk := fun σ' H' => D.bk (σ'.set i none) H', ct := fun σ' H' => D.ct (σ'.set i none) H' }
/-- a clause: its class, the slot of its name, its suite's reading -/
def wHs (K : PySem.W.Frag) (Wout : WX) (D : Ends) : List (Value × Option Nat × HTs) → WX
  | [] => Wout
  | (c, none, ts) :: r => fun cls d σ H => ∃ b, PySem.W.exmOne K cls c = some b ∧ (b = true → ∀ a, H a = none → ts a cls d D σ H) ∧ (b = false → wHs K Wout D r cls d σ H)
  | (c, some i, ts) :: r => fun cls d σ H => ∃ b, PySem.W.exmOne K cls c = some b ∧ (b = true → ∀ a, H a = none → ts a cls d (asD i D) (σ.set i (some (.ref a))) H) ∧ (b = false → wHs K Wout D r cls d σ H)
inductive HsOk (X : Cx) : List ExceptHandler → List (Value × Option Nat × HTs) → Prop
  | nil : HsOk X [] []
  | plain {x : Str} {c : Value} {ts : HTs} {b₀ : Stmt} {suite : List Stmt} {np pos' : Pos} {hds : List ExceptHandler} {l : List (Value × Option Nat × HTs)} (hc : Names X x c)
      (hsu : ∀ (a : Addr) (oe : Obj) (cls : Value) (d : Option Addr) (pn : List (Addr × Obj)), Zc cls d oe → (∃ vs, oe.data = .fields vs) → PSs (X.suite a ((a, oe) :: pn)) (b₀ :: suite) (ts a cls d)) (r : HsOk X hds l) :
      HsOk X (.ExceptHandler (some (.Name x np)) none (b₀ :: suite) pos' :: hds) ((c, none, ts) :: l)
  | named {x n : Str} {i : Nat} {c : Value} {ts : HTs} {b₀ : Stmt} {suite : List Stmt} {np pos' : Pos} {hds : List ExceptHandler} {l : List (Value × Option Nat × HTs)} (hc : Names X x c) (hN : X.N.Nodup) (hi : X.N[i]? = some n) (hln : X.env.kindOf n = some .local)
      (hsu : ∀ (a : Addr) (oe : Obj) (cls : Value) (d : Option Addr) (pn : List (Addr × Obj)), Zc cls d oe → (∃ vs, oe.data = .fields vs) → PSs (X.suite a ((a, oe) :: pn)) (b₀ :: suite) (ts a cls d)) (r : HsOk X hds l) :
      HsOk X (.ExceptHandler (some (.Name x np)) (some n) (b₀ :: suite) pos' :: hds) ((c, some i, ts) :: l)
section
variable {X : Cx} {body : List Stmt} {h₀ : ExceptHandler} {hds : List ExceptHandler} {l : List (Value × Option Nat × HTs)} {pos : Pos} {tb : WX → TS} {Wout : WX}
theorem ps_try_hs (hs : X.stack = X.env :: X.outer) (hf : X.env.frame = some X.env.locals) (tk : Takes X Wout)
    (hb : ∀ (W : WX) (pn : List (Addr × Obj)) (xe : Value → Shared → Prop), Takes (X.tr pn xe) W → PassesOwn (model X.prog X.w) X.A X.env xe → PSs (X.tr pn xe) body (tb W))
    (hh : HsOk X (h₀ :: hds) l) : PS X (.Try body (h₀ :: hds) [] [] pos) (fun D σ H => tb (wHs X.K Wout D l) D σ H) := by
  refine ⟨fun pins s σ H D I h => ?_⟩
  have ok := I.ok
  have hfr : X.A.frames = some (X.env :: X.outer) := by rw [ok.frames, hs]
  refine wpAny_Try_except ?_
  refine wpAny_mono ((hb (wHs X.K Wout D l) (X.pn ++ pins) (fun e s₁ => wpAny (model X.prog X.w) X.A (noteFrame e X.env) (fun _ s₂ => wpAny (model X.prog X.w) X.A (setFlight e none) (fun _ s₃ =>
    wpAny (model X.prog X.w) X.A (handleBy e X.env (h₀ :: hds)) (SP X pins D) X.xe s₃) X.xe s₂) X.xe s₁) (fun u s' xx => ?_) PassesOwn.looking).run [] s σ H D (I.toTry _) h) (fun f s1 hsp => ?_) (fun e s1 he => he)
  · -- the catch
    obtain ⟨a, B, sI, pins', σ', H', cls, d, rfl, J', nb, up, sky, na, os, ag, w⟩ := xx
    have J : Inv X pins σ' H' sI := J'.ofTry ok
    have sky' : Sky B (X.env :: X.outer) a (Zc cls d) X.env.locals s'.heap := by rw [← hs]; exact sky
    show wpAny (model X.prog X.w) X.A (noteFrame (.ref a) X.env) _ _ _
    refine Sky.land Zc.steady hfr hf sky' fun h3 fl3 up3 => ?_
    have J3 : Inv X pins σ' H' { s' with heap := h3 } := J.landed nb fl3.1 (up.trans up3) os ag
    obtain ⟨oe3, vs3, he3, hz3, hd3⟩ := fl3.there
    have notFr : ∀ {h : Heap} {o : Obj} {vs : Array Value}, h.FunFrames B (X.env :: X.outer) → h.get? a = some o → o.data = .fields vs → a ∉ frs (X.env :: X.outer) := fun {h o vs} ff e dd hm => by
      obtain ⟨_, o', e', hnf⟩ := ff.mem hm
      rw [e] at e'; cases e'
      exact hnf _ dd
    have nfr := notFr fl3.2.2.1 he3 hd3
    have nL : a ≠ X.env.locals := fun z => nfr (List.mem_filterMap.mpr ⟨X.env, List.mem_cons_self, by rw [hf, z]⟩)
    have nF : a ∉ X.fs := fun hm => by
      obtain ⟨e, he, q⟩ := List.mem_filterMap.mp hm
      exact nfr (List.mem_filterMap.mpr ⟨e, List.mem_cons_of_mem _ he, q⟩)
    have S3 := J3.suite he3 hd3 na nL nF
    have LT : PySem.W.Looks (model X.prog X.w) h3 (typeOf (.ref a)) cls := fun A Q E s k q => wpAny_typeOf_ref (k _ _ he3) (by rw [hz3.1]; exact q)
    have test : ∀ {x : Str} {c : Value} {np : Pos} {Q : Value → Shared → Prop} {E : Value → Shared → Prop}, Names X x c → Q c { s' with heap := h3 } → wpAny (model X.prog X.w) (X.A.mark (some (.ref a))) (eval (.Name x np) X.env) Q E { s' with heap := h3 } := fun {x c np Q E} hc q => by
      obtain ⟨hg, hdbg, hm | ⟨hm, hv, hnn⟩⟩ := hc
      · exact ld_glob (X := X.suite a ((a, oe3) :: (X.pn ++ pins))) S3 hg hm q hdbg
      · exact ld_blt (X := X.suite a ((a, oe3) :: (X.pn ++ pins))) S3 hg hm hv q hnn hdbg
    have go : ∀ {hds' : List ExceptHandler} {l' : List (Value × Option Nat × HTs)}, HsOk X hds' l' → wHs X.K Wout D l' cls d σ' H' →
        wpAny (model X.prog X.w) X.A (handleBy (.ref a) X.env hds') (SP X pins D) X.xe { s' with heap := h3 } := by
      intro hds' l' hk
      induction hk with
      | nil =>
        intro w
        refine wpAny_handleBy_nil ?_
        obtain ⟨k1, k2, k3, oe, vs, T, oT, ts', he, hz, hd, h1, hr⟩ := id fl3
        unfold PySem.passOn
        refine wpAny_bind (wpAny_field he hd h1 ?_)
        rw [if_neg (show ¬ ((Value.ref T == Value.none) = true) from by simp)]
        have fin : wpAny (model X.prog X.w) X.A (setFlight (.ref a) X.env.frame) (fun _ s4 => wpAny (model X.prog X.w) X.A (throw (.ref a) : Sem Flow) (SP X pins D) X.xe s4) X.xe { s' with heap := h3 } := by
          rw [hf]
          refine HandSPX.setFlight_upZ fl3 fun h4 hh4 up4 => wpAny_throw (tk _ _ ?_)
          exact ⟨a, B, sI, pins, σ', H', cls, d, rfl, J, nb, (up.trans up3).trans up4, .inr (.inr (by rw [hs]; exact hh4)), na, os, ag, w⟩
        first
          | exact wpAny_bind (wpAny_pure (wpAny_bind fin))
          | exact wpAny_bind fin
      | @plain x c ts b₀ suite np pos' hds2 l2 hc hsu r ih =>
        intro w
        obtain ⟨b, hb1, hyes, hno⟩ := w
        refine wpAny_handleBy_cons (codeAny_handlers_test ?_) (by intro q; cases q)
        have LM := PySem.W.exm_one (M := model X.prog X.w) (J3.kIn) LT hb1
        refine test hc (LM.here ?_)
        cases b with
        | true =>
          refine codeAny_handlers_suite ?_
          refine HandSPX.lands_againZ fl3 fun h4 fl4 up4 => ?_
          have J4 : Inv X pins σ' H' { s' with heap := h4 } := J.landed nb fl4.1 ((up.trans up3).trans up4) os ag
          obtain ⟨oe4, vs4, he4, hz4, hd4⟩ := fl4.there
          have S4 := J4.suite he4 hd4 na nL nF
          refine wpAny_mono ((hsu a oe4 cls d (X.pn ++ pins) hz4 ⟨_, hd4⟩).run [] _ _ H' _ S4 (hyes rfl a na)) (fun f s6 hsp => ?_) (fun _ _ z => False.elim z)
          cases f with
          | next =>
            obtain ⟨σ6, H6, S6, q6⟩ := hsp
            exact ⟨_, _, S6.unsuite ok, q6⟩
          | brk =>
            obtain ⟨σ6, H6, S6, q6⟩ := hsp
            exact ⟨_, _, S6.unsuite ok, q6⟩
          | cont =>
            obtain ⟨σ6, H6, S6, q6⟩ := hsp
            exact ⟨_, _, S6.unsuite ok, q6⟩
          | ret u =>
            obtain ⟨v6, σ6, H6, S6, r6, q6⟩ := hsp
            exact ⟨_, _, _, S6.unsuite ok, r6, q6⟩
        | false =>
          show wpAny _ X.A (handleBy (.ref a) X.env hds2) _ _ _
          exact ih (hno rfl)
      | @named x n i c ts b₀ suite np pos' hds2 l2 hc hN hi hln hsu r ih =>
        intro w
        obtain ⟨b, hb1, hyes, hno⟩ := w
        have hloc : Loc X.env.scope n := .inl hln
        refine wpAny_handleBy_cons (codeAny_handlers_test ?_) (by intro q; cases q)
        have LM := PySem.W.exm_one (M := model X.prog X.w) (J3.kIn) LT hb1
        refine test hc (LM.here ?_)
        cases b with
        | true =>
          refine codeAny_handlers_suite_as ?_
          refine HandSPX.lands_againZ fl3 fun h4 fl4 up4 => ?_
          have J4 : Inv X pins σ' H' { s' with heap := h4 } := J.landed nb fl4.1 ((up.trans up3).trans up4) os ag
          obtain ⟨oe4, vs4, he4, hz4, hd4⟩ := fl4.there
          have S4 := J4.suite he4 hd4 na nL nF
          refine store_ok (X := X.suite a ((a, oe4) :: (X.pn ++ pins))) (v := .ref a) S4 hN hi hloc rfl (fun s5 S5 => ?_) (.inr hln)
          refine wpAny_mono ((hsu a oe4 cls d (X.pn ++ pins) hz4 ⟨_, hd4⟩).run [] s5 _ H' _ S5 (hyes rfl a na)) (fun f s6 hsp => ?_) (fun _ _ z => False.elim z)
          have end_ : ∀ {σ6 : St} {H6 : Hp} {Q : Shared → Prop}, Inv (X.suite a ((a, oe4) :: (X.pn ++ pins))) [] σ6 H6 s6 → (∀ s7, Inv X pins (σ6.set i none) H6 s7 → Q s7) →
              wpAny (model X.prog X.w) X.A (do bindName X.env n .none; unbindBehindTheSuite X.env n pos') (fun _ s7 => Q s7) X.xe s6 := fun {σ6 H6 Q} S6 hq => gone_ok (S6.unsuite ok) hN hi hln hq
          cases f with
          | next =>
            obtain ⟨σ6, H6, S6, q6⟩ := hsp
            exact end_ S6 fun s7 J7 => ⟨_, _, J7, q6⟩
          | brk =>
            obtain ⟨σ6, H6, S6, q6⟩ := hsp
            exact end_ S6 fun s7 J7 => ⟨_, _, J7, q6⟩
          | cont =>
            obtain ⟨σ6, H6, S6, q6⟩ := hsp
            exact end_ S6 fun s7 J7 => ⟨_, _, J7, q6⟩
          | ret u =>
            obtain ⟨v6, σ6, H6, S6, r6, q6⟩ := hsp
            exact end_ S6 fun s7 J7 => ⟨_, _, _, J7, r6, q6⟩
        | false =>
          show wpAny _ X.A (handleBy (.ref a) X.env hds2) _ _ _
          exact ih (hno rfl)
    exact go hh w
  · cases f with
    | next =>
      obtain ⟨σ', H', J', q⟩ := hsp
      exact wpAny_execs_nil ⟨σ', H', J'.ofTry ok, q⟩
    | brk =>
      obtain ⟨σ', H', J', q⟩ := hsp
      exact ⟨σ', H', J'.ofTry ok, q⟩
    | cont =>
      obtain ⟨σ', H', J', q⟩ := hsp
      exact ⟨σ', H', J'.ofTry ok, q⟩
    | ret u =>
      obtain ⟨v, σ', H', J', r, q⟩ := hsp
      exact ⟨v, σ', H', J'.ofTry ok, r, q⟩
end
end L2
/-! KLC: a lambda without parameters handed to the def that asks it and tells errors. -/
namespace KM
open PySem PySem.Spec PyProof.Rows L2 LamX

/-- room for two frames more -/
structure RoomS (k : Nat) (A : Around) : Prop where
  hd : A.handled = none
  dp : A.depth + 3 * k + 7 < recursionLimit
  un : A.units + 16 * k + 210 < cLine
theorem RoomS.of {k : Nat} {A : Around} (r : Room (k + 1) A) (env : PySem.Env) : RoomS k (A.deeper env) :=
  ⟨r.hd, by have := r.dp; show A.depth + 1 + 3 * k + 7 < _; omega, by have := r.un; show A.units + 3 + 16 * k + 210 < _; omega⟩
theorem RoomS.two {k : Nat} {A : Around} (r : RoomS k A) (e1 e2 : PySem.Env) : Room k ((A.deeper e1).deeper e2) :=
  ⟨r.hd, by have := r.dp; show A.depth + 1 + 1 + 3 * k + 5 < _; omega, by have := r.un; show A.units + 3 + 3 + 16 * k + 200 < _; omega⟩
theorem RoomS.one {k : Nat} {A : Around} (r : RoomS k A) (hk : 1 ≤ k) : Room 1 A :=
  ⟨r.hd, by have := r.dp; omega, by have := r.un; omega⟩

section
variable {X : Cx} {pins : List (Addr × Obj)} {σ : L2.St} {H : Hp} {s : Shared}
/-- a lambda made: its code object is new, or found in the table; every other thing stays -/
theorem lam_make3 {c P : Addr} {q : Str} {params : Arguments} {body : Expr} {scope : Scope} {pos : Pos} {E : Value → Shared → Prop} {Q : Value → Shared → Prop} (I : Inv X pins σ H s) (TB : TabB X.base X.mg c P) (hcode : X.env.code = .ref c)
    (hq : X.env.qual ++ "<lambda>" = q) (hT : TabS H P q) (hdef : defaultsOf params X.env = ([], [])) (hfree : ∀ y ∈ scope.names, y.2 = .free → ∃ c, X.env.cells.lookup y.1 = some c)
    (h : ∀ (f c' : Addr) (pm ctv : Value) (H1 : Hp) (s' : Shared), Inv X pins σ H1 s' → (∀ b o, b ≠ P → H b = some o → H1 b = some o) → TabS H1 P q →
      s'.heap.get? f = some (PySem.W.kla_obj "<lambda>" q params body scope (cloFrom X.env.cells scope.names []) pm c' ctv) → H1 f = none → f ∉ frs X.stack → H1 c' = some (CodeO c' q) → Q (.ref f) s') :
    wpAny (model X.prog X.w) X.A (eval (.Lambda params body scope pos) X.env) Q E s := by
  subst hq
  obtain ⟨ps, hP, ht, ha⟩ := hT
  refine PySem.W.kla_eval hdef ?_
  have bP : s.heap.BuiltinsAt X.mg P := TB.bm.keeps I.bk
  have hP' : s.heap.get? P = some { cls := .none, data := .fields ps } := I.hok P _ hP
  have nofr : ∀ f, s.heap.objs.size ≤ f → f ∉ frs X.stack := fun f hf z => by
    rcases List.mem_cons.mp (I.stkSub _ z) with e | e
    · have h1 := I.lt
      rw [← e] at h1
      exact Nat.lt_irrefl _ (Nat.lt_of_lt_of_le h1 hf)
    · exact I.nofs hf e
  cases hc : codeAmong pos ps.toList with
  | none =>
    refine PySem.W.kla_makeFunction (mg := X.mg) (c := c) (P := P) (ps := ps) (closure_ok hfree) I.ok.glob (I.mod.glob.keeps I.bk) hcode (TB.code.keeps I.bk) hP' ht hc TB.gP bP fun c' ctv h' tk hx hge hlt hrec htb => ?_
    obtain ⟨c2, oc, vs, t, e2, hoc, hd, hv⟩ := hrec
    cases e2
    have hsz : s.heap.objs.size ≤ h'.objs.size := Nat.le_trans hge (Nat.le_of_lt hlt)
    have nC : H c' = none := I.hok.fresh hge
    have I1 := inv_table (t' := tk) (more := #[rawInt pos.line, rawInt pos.col, .ref c']) (h' := h'.push (PySem.W.kla_obj "<lambda>" (X.env.qual ++ "<lambda>") params body scope (cloFrom X.env.cells scope.names []) ((X.mg "__name__").getD .none) c' ctv)) I hP
      (fun b o hb e => Heap.get?_push_of_some _ (hx b o hb e)) (Heap.get?_push_of_some _ htb) hge ⟨oc, vs, t, Heap.get?_push_of_some _ hoc, hd, hv⟩
    have hE : ∀ b o, b ≠ P → H b = some o → upd (upd H P (.tbl (ps ++ #[rawInt pos.line, rawInt pos.col, .ref c']))) c' (CodeO c' (X.env.qual ++ "<lambda>")) b = some o := fun b o hb e => by
      rw [upd_ne (ne_of_none e nC), upd_ne hb]
      exact e
    have eL : (ps ++ #[rawInt pos.line, rawInt pos.col, .ref c']).toList = ps.toList ++ [rawInt pos.line, rawInt pos.col, .ref c'] := by simp
    refine h h'.objs.size c' ((X.mg "__name__").getD .none) ctv _ _ I1 hE ?_ (Heap.get?_push_size _ rfl) ?_ (nofr _ hsz) upd_same
    · refine ⟨_, by rw [upd_ne (ne_of_none hP nC), upd_same], by rw [eL]; exact PySem.TriplesOk_snoc _ _ _ _ ht, fun p' cv hcv => ?_⟩
      rw [eL] at hcv
      rcases among_app _ ht hcv with z | z
      · obtain ⟨c0, e1, e2⟩ := ha p' cv z
        exact ⟨c0, e1, hE _ _ (fun y => by rw [y, hP] at e2; exact codeO_ne _ (Option.some.inj e2).symm) e2⟩
      · exact ⟨c', z, upd_same⟩
    · have n1 : h'.objs.size ≠ c' := Nat.ne_of_gt hlt
      have n2 : h'.objs.size ≠ P := Nat.ne_of_gt (Nat.lt_of_lt_of_le (Heap.lt_size hP') hsz)
      rw [upd_ne n1, upd_ne n2]
      exact I.hok.fresh hsz
  | some cv =>
    obtain ⟨c', e, hco⟩ := ha pos cv hc
    subst e
    refine PySem.W.kla_makeFunctionHit (mg := X.mg) (c := c) (P := P) (ps := ps) (closure_ok hfree) I.ok.glob (I.mod.glob.keeps I.bk) hcode (TB.code.keeps I.bk) hP' ht hc bP fun ctv h' tk hx hsz => ?_
    have I1 : Inv X pins σ H { s with heap := h'.push (PySem.W.kla_obj "<lambda>" (X.env.qual ++ "<lambda>") params body scope (cloFrom X.env.cells scope.names []) ((X.mg "__name__").getD .none) c' ctv), toks := tk } := I.kept fun b o e => Heap.get?_push_of_some _ (hx b o e)
    exact h h'.objs.size c' ((X.mg "__name__").getD .none) ctv H _ I1 (fun _ _ _ e => e) ⟨ps, hP, ht, ha⟩ (Heap.get?_push_size _ rfl) (I.hok.fresh hsz) (nofr _ hsz) hco
/-- a(), in the def that got the lambda; what it lets out is wished of at the slots there -/
theorem pe_actS {CXg : CXT} {Eg : XK} {Ng : List Str} {qg : Str} {sg : Scope} {g f c' : Addr} {cdg pm ctv : Value} {q : Str} {params : Arguments} {body : Expr} {scope : Scope} {i : Nat} {a : Str} {pn : List (Addr × Obj)} {xe : Value → Shared → Prop} {W : WX} {E : XK} {tb : TE} {p1 p2 : Pos}
    (I : Inv X pins σ H s) (L : LamS X.env.scope scope) (hq : X.env.qual ++ "<lambda>" = q) (hf : s.heap.get? f = some (PySem.W.kla_obj "<lambda>" q params body scope (cloFrom X.env.cells scope.names []) pm c' ctv)) (hfn : H f = none) (hfr : f ∉ frs X.stack)
    (hbind : bindArgs (PySem.W.kla_fn "<lambda>" q params body scope (cloFrom X.env.cells scope.names []) pm (.ref c') ctv) ⟨[], []⟩ = pure [])
    (tk : Takes ((cxOf CXg X.prog X.w X.K X.mg X.base Ng qg sg g cdg X.A X.stack s H Eg).tr pn xe) W) (hd0 : X.A.handled = none) (hdp : (X.A.deeper (envOfC qg sg s.heap.objs.size g cdg)).depth < recursionLimit)
    (hbody : ∀ (A : Around) (outer : List PySem.Env) (s1 : Shared) (H1 : Hp), A = X.A.deeper (envOfC qg sg s.heap.objs.size g cdg) → PE (lamCx X A outer s1 H1 E scope f c') body tb)
    (hN : Ng[i]? = some a) (hv : Vis sg a) (hd : (a == ("__debug__" : Str)) = false) (hcd : (a == ("__classdict__" : Str)) = false) :
    PE ((cxOf CXg X.prog X.w X.K X.mg X.base Ng qg sg g cdg X.A X.stack s H Eg).tr pn xe) (.Call (.Name a p1) [] [] p2)
      (fun σZ HZ Q => σZ[i]? = some (some (.ref f)) ∧ HZ c' = some (CodeO c' q) ∧ tb σ HZ Q ∧ ∀ cls d H', E cls d H' → W cls d σZ H') := by
  subst hq
  refine ⟨fun pinsZ sZ σZ HZ Q IZ h => ?_⟩
  obtain ⟨hs, hc, ht, hW⟩ := h
  refine wpAny_Call_Name_kw (thn ((pe_var (pos := p1) (i := i) hN hv hd hcd).run pinsZ sZ σZ HZ (fun v H1 => v = .ref f ∧ H1 = HZ) IZ ⟨.ref f, hs, rfl, rfl⟩) fun u s1 ⟨v, H1, I1, r1, q1⟩ => ?_)
  obtain ⟨ev, eH⟩ := q1
  subst ev
  rw [eH] at I1
  obtain rfl : u = Value.ref f := r1
  have of1 : s1.heap.get? f = some (PySem.W.kla_obj "<lambda>" (X.env.qual ++ "<lambda>") params body scope (cloFrom X.env.cells scope.names []) pm c' ctv) := I1.base.keep f _ hf hfn hfr (fun z => nomatch (show f ∈ ([] : List Addr) from z))
  refine PySem.W.callWith_F0 ⟨_, _, _, _, of1⟩ ?_
  have un : Un (frs X.stack) [] H HZ s.heap s1.heap := I1.base
  obtain ⟨⟨oc, vs, t, hoc, hdc, hvc⟩, _, _⟩ := I1.hok c' _ hc
  have rc : codeAny (model X.prog X.w) (X.A.deeper (envOfC qg sg s.heap.objs.size g cdg)) (.call (.ref f) ⟨[], []⟩) (CR (L2.CX X.prog X.w) (envOfC qg sg s.heap.objs.size g cdg :: X.stack) X.prog X.w HZ s1 Q E) s1 := by
    refine PySem.W.kla_callFunE hdp of1 rfl L.co L.gen rfl ⟨c', oc, vs, t, rfl, hoc, hdc, hvc⟩ ?_
    rw [hbind]
    refine wpAny_pure (wpAny_newFunctionEnv (fun y hy => (L.own y hy).2) (fun y hy => absurd hy (by simp)) (fun h₁ hns hsb => ⟨I1.nolimit.fresh _ hsb, ?_⟩) L.kind)
    show codeAny _ _ (.expr body (lamEnv X scope s1.heap.objs.size f c')) _ _
    have kp : ∀ b o, s1.heap.get? b = some o → h₁.get? b = some o := fun b o e => hsb.extBut b o (Nat.ne_of_lt (Heap.lt_size e)) (Heap.get?_push_of_some _ e)
    have J : Inv (lamCx X (X.A.deeper (envOfC qg sg s.heap.objs.size g cdg)) (envOfC qg sg s.heap.objs.size g cdg :: X.stack) s1 HZ E scope f c') [] σ HZ { s1 with heap := h₁, toks := s1.toks + ([] : List (Str × Value)).length } :=
      lam_start2 I L I1.env0 hd0 un hns kp
    refine PySem.W.kla_codeExpr (wpAny_mono ((hbody _ _ s1 HZ rfl).run [] _ _ HZ Q J ht) (fun v s' hq => ?_) fun e s' hq => hq)
    obtain ⟨w', H', J', rv, q⟩ := hq
    exact ⟨w', H', J'.os, J'.bare, J'.base, J'.hok, rv, q⟩
  refine wpAny_call (codeAny_mono rc fun r s' hq => ?_)
  cases r with
  | error e => exact tk e s' (XE.of_call I1 (fun cls d H' h => hW cls d H' h) hq)
  | ok fl =>
    cases fl with
    | ret u => exact I1.after hq
    | next => exact False.elim hq
    | brk => exact False.elim hq
    | cont => exact False.elim hq
end
end KM
/-! KLD: that what is asked suffices: a lambda asked, errors told by words; raise X() . -/
namespace KM
open PySem PySem.Spec PyProof.Rows L2 LamX

theorem Go.sub {h h1 h2 : Hep} {H H1 : Hp} (g : Go h H h1 H1) (s : Sub h2 h1) : Go h H h2 H1 := ⟨g.fr, g.dm, fun a n e => by
  cases z : h2 a with
  | none => rfl
  | some o =>
    have y := s a o z
    rw [g.nw a n e] at y
    cases y⟩
theorem Sim.sub {K : PySem.W.Frag} {h1 h2 : Hep} {H1 : Hp} (g : Sim K h1 H1) (s : Sub h2 h1) : Sim K h2 H1 := fun a o e => g a o (s a o e)

/-- clauses: each tells a word, with the error's field or with None -/
inductive HdSh (N : List Str) (sc : Scope) : List ExceptHandler → List Hd → Prop
  | nil : HdSh N sc [] []
  | plain {c w : Str} {np q1 q2 q3 q4 q5 : Pos} {j1 j2 m : Nat} {hds : List ExceptHandler} {hs : List Hd} (hg : sc.names.lookup c = some .globalImplicit) (hd : (c == ("__debug__" : Str)) = false) (r : HdSh N sc hds hs) :
      HdSh N sc (.ExceptHandler (some (.Name c np)) none [.Return (some (.Tuple [.Constant (.str w) j1 q1, .Constant .none j2 q2] m q3)) q4] q5 :: hds) ((c, w, none) :: hs)
  | named {c w f n : Str} {i : Nat} {np q1 q2 q3 q4 q5 q6 : Pos} {j1 m : Nat} {hds : List ExceptHandler} {hs : List Hd} (hg : sc.names.lookup c = some .globalImplicit) (hd : (c == ("__debug__" : Str)) = false)
      (hi : N[i]? = some n) (hl : sc.names.lookup n = some .local) (h1 : (n == ("__debug__" : Str)) = false) (h2 : (n == ("__classdict__" : Str)) = false) (r : HdSh N sc hds hs) :
      HdSh N sc (.ExceptHandler (some (.Name c np)) (some n) [.Return (some (.Tuple [.Constant (.str w) j1 q1, .Attribute (.Name n q2) f q3] m q4)) q5] q6 :: hds) ((c, w, some f) :: hs)
/-- one class of a clause -/
def HdK1 (K : PySem.W.Frag) (mg : Str → Option Value) (p : Hd) : Prop := match p.2.2 with
  | none => ∃ C, mg p.1 = some (.ref C) ∧ PySem.W.exmOne K (.ref C) (.ref C) = some true
  | some f => ErrOk K mg p.1 f
/-- the classes of the clauses -/
structure HdK (K : PySem.W.Frag) (mg : Str → Option Value) (hs : List Hd) : Prop where
  each : ∀ p ∈ hs, HdK1 K mg p
  apart : ∀ p ∈ hs, ∀ r ∈ hs, p.1 ≠ r.1 → ∀ C D, mg p.1 = some (.ref C) → mg r.1 = some (.ref D) → PySem.W.exmOne K (.ref C) (.ref D) = some false
theorem HdK1.mg {K : PySem.W.Frag} {mg : Str → Option Value} {p : Hd} (h : HdK1 K mg p) : ∃ C, mg p.1 = some (.ref C) ∧ PySem.W.exmOne K (.ref C) (.ref C) = some true := by
  obtain ⟨c, w, o⟩ := p
  cases o with
  | none => exact h
  | some f =>
    obtain ⟨_, C, fI, T⟩ := h
    exact ⟨C, T.gC, T.te⟩
theorem metH_mem : ∀ {hs : List Hd} {x : Exv} {Q : VQ} {h : Hep}, metH hs x Q h → ∃ p ∈ hs, x.cls = p.1
  | [], _, _, _, m => m.elim
  | p :: r, x, Q, h, m => by
    unfold metH at m
    split at m
    · exact ⟨p, List.mem_cons_self, by assumption⟩
    · obtain ⟨q, h1, h2⟩ := metH_mem m
      exact ⟨q, List.mem_cons_of_mem _ h1, h2⟩
theorem two_size {α : Type} (a b : α) : [a, b].length ≤ sizeLine := by
  rw [sizeLine_eq]
  exact (by decide : 2 ≤ 16777216)
theorem tup2_q {K : PySem.W.Frag} {h : Hep} {H : Hp} {Q : VQ} {w : Str} {v : Val} {u : V} (sm : Sim K h H) (r : RV K H v u) (q : Q (.tup [.str w, v]) h) (p : Addr) (np : H p = none) : LQ K h H Q (.ref p) (upd H p (.tup [.str w, u])) :=
  ⟨.tup [.str w, v], h, go_hid np, sm.hid np, RV.tupN sm np (RVs.cons rfl (RVs.cons r RVs.nil)), q⟩
theorem hds_ok {X : Cx} (hN : X.N.Nodup) : ∀ {hds : List ExceptHandler} {hs : List Hd}, HdSh X.N X.env.scope hds hs → (∀ p ∈ hs, HdK1 X.K X.mg p) →
    ∃ l, HsOk X hds l ∧ ((∀ p ∈ hs, ∀ r ∈ hs, p.1 ≠ r.1 → ∀ C D, X.mg p.1 = some (.ref C) → X.mg r.1 = some (.ref D) → PySem.W.exmOne X.K (.ref C) (.ref D) = some false) →
      ∀ (D : Ends) (σ : L2.St) (H : Hp) (h : Hep) (Q : VQ) (ex : Exv) (cls : Value) (d : Option Addr), X.N.length ≤ σ.length → Sim X.K h H → RX X.K X.mg H ex cls d → metH hs ex Q h → (∀ u H', LQ X.K h H Q u H' → D.rt u H') →
        wHs X.K (fun _ _ _ _ => False) D l cls d σ H)
  | _, _, .nil, _ => ⟨[], .nil, fun _ _ _ _ _ _ _ _ _ _ _ _ m _ => m.elim⟩
  | _, _, @HdSh.plain _ _ c w np q1 q2 q3 q4 q5 j1 j2 m hds hs hg hd r, hk => by
    obtain ⟨l, ok, go⟩ := hds_ok hN r fun p hp => hk p (List.mem_cons_of_mem _ hp)
    obtain ⟨C, hC, te⟩ := (hk _ List.mem_cons_self).mg
    have nm : Names X c (.ref C) := ⟨hg, hd, .inl hC⟩
    refine ⟨(.ref C, none, fun _ _ _ => tRet (tTup (tCons (tC (.str w)) (tCons (tC .non) tNil)))) :: l, .plain nm (fun a oe cls d pn _ _ => pss_one (ps_ret (pe_tup (pa_cons pe_str (pa_cons pe_non pa_nil))))) ok, ?_⟩
    intro ap D σ H h Q ex cls d hl sm rx mm k
    have goR := go (fun p hp r hr => ap p (List.mem_cons_of_mem _ hp) r (List.mem_cons_of_mem _ hr)) D σ H h Q ex cls d hl sm rx
    obtain ⟨C', e1, e2, e3⟩ := rx
    subst e2
    unfold metH at mm
    by_cases z : ex.cls = c
    · rw [if_pos z] at mm
      rw [z, hC] at e1
      cases e1
      exact ⟨true, te, fun _ a na => ⟨two_size _ _, fun p np => k _ _ (tup2_q (v := .non) (u := V.non) sm rfl mm p np)⟩, fun y => by cases y⟩
    · rw [if_neg z] at mm
      obtain ⟨p, hp, ep⟩ := metH_mem mm
      refine ⟨false, ap p (List.mem_cons_of_mem _ hp) _ List.mem_cons_self (by rw [← ep]; exact z) _ _ (by rw [← ep]; exact e1) hC, (fun y => by cases y), fun _ => goR mm k⟩
  | _, _, @HdSh.named _ _ c w f n i np q1 q2 q3 q4 q5 q6 j1 m hds hs hg hd hi hln h1 h2 r, hk => by
    obtain ⟨l, ok, go⟩ := hds_ok hN r fun p hp => hk p (List.mem_cons_of_mem _ hp)
    obtain ⟨nf, C, fI, T⟩ : ErrOk X.K X.mg c f := hk _ List.mem_cons_self
    have hC := T.gC
    have te := T.te
    have nm : Names X c (.ref C) := ⟨hg, hd, .inl hC⟩
    have hi' : i < X.N.length := (List.getElem?_eq_some_iff.mp hi).1
    refine ⟨(.ref C, some i, fun a cls d => tRet (tTup (tCons (tC (.str w)) (tCons (tByLow f C a cls d (tVar i)) tNil)))) :: l,
      .named nm hN hi hln (fun a oe cls d pn hz hf => pss_one (ps_ret (pe_tup (pa_cons pe_str (pa_cons (pe_byLow T hz hf (pe_var (X := X.suite a ((a, oe) :: pn)) hi (.inl hln) h1 h2)) pa_nil))))) ok, ?_⟩
    intro ap D σ H h Q ex cls d hl sm rx mm k
    have goR := go (fun p hp r hr => ap p (List.mem_cons_of_mem _ hp) r (List.mem_cons_of_mem _ hr)) D σ H h Q ex cls d hl sm rx
    obtain ⟨C', e1, e2, e3⟩ := rx
    subst e2
    unfold metH at mm
    by_cases z : ex.cls = c
    · rw [if_pos z] at mm
      rw [z, hC] at e1
      cases e1
      refine ⟨true, te, fun _ a na => ?_, fun y => by cases y⟩
      obtain ⟨ec, fs⟩ := ex
      simp only at mm e3
      match fs, mm, e3 with
      | [(g, v)], mm, e3 =>
        obtain ⟨eg, qq⟩ := mm
        subst eg
        rcases e3 with ⟨_, e4⟩ | ⟨dd, us, e4, e5, e6, e7⟩
        · cases e4
        · match us, e6, e7 with
          | [(g', u)], e6, e7 =>
            have eg : g' = g := by simpa using e6
            subst eg
            obtain ⟨u', r', e8, e9, e10⟩ := e7
            have e11 : u = u' := by
              have := congrArg List.head? e8
              simpa using this
            subst e11
            refine ⟨.ref a, by rw [List.getElem?_set_self (by omega)], rfl, rfl, dd, u, e4, e5, two_size _ _, fun p np => k _ _ (tup2_q sm e9 qq p np)⟩
    · rw [if_neg z] at mm
      obtain ⟨p, hp, ep⟩ := metH_mem mm
      refine ⟨false, ap p (List.mem_cons_of_mem _ hp) _ List.mem_cons_self (by rw [← ep]; exact z) _ _ (by rw [← ep]; exact e1) hC, (fun y => by cases y), fun _ => goR mm k⟩
/-- the def: try: return ("told", ask()) / except .. -/
structure MetSh (bg : List Stmt) (sg : Scope) (N : List Str) (ask : Str) (hs : List Hd) : Prop where
  body : ∃ (h0 : ExceptHandler) (hds : List ExceptHandler) (j m : Nat) (p1 p2 p3 p4 p5 p6 : Pos),
    bg = [.Try [.Return (some (.Tuple [.Constant (.str "told") j p1, .Call (.Name ask p2) [] [] p3] m p4)) p5] (h0 :: hds) [] [] p6] ∧ HdSh N sg (h0 :: hds) hs
  n0 : N[0]? = some ask
  vis : Vis sg ask
  nd : (ask == ("__debug__" : Str)) = false
  nc : (ask == ("__classdict__" : Str)) = false
/-- .. as it stands in K -/
structure MetOk (K : PySem.W.Frag) (mg : Str → Option Value) (m : Str × List Hd) : Prop where
  ex : ∃ (g : Addr) (fd : FuncData) (pg : Arguments) (bg : List Stmt) (sg : Scope) (N : List Str) (ask : Str), mg m.1 = some (.ref g) ∧ FunD K m.1 m.1 pg bg sg [] [] g fd ∧ Binds K fd [ask] [] ∧ FnScope N [ask] sg ∧ MetSh bg sg N ask m.2
  hk : HdK K mg m.2
/-- a def that makes lambdas: its code object, its table -/
def LamOk (C : CalT) (k : Nat) (q : Str) (X : Cx) : Prop := RoomS k X.A ∧ X.env.qual ++ "<lambda>" = q ∧ ∃ c P, X.env.code = .ref c ∧ TabB X.base X.mg c P ∧ ∀ h Q E, C q [] h Q E → 1 ≤ k ∧ ∃ h', Sub h' h ∧ Q (.ref P) h'
/-- an own error without a field -/
def Err0Ok (K : PySem.W.Frag) (mg : Str → Option Value) (x : Str) : Prop := ∃ C, mg x = some (.ref C) ∧ PySem.W.excIn K C He.veBase "ValueError.__new__" = true ∧ PySem.W.keepIn K (.ref C) = true ∧ PySem.W.subIn K (.ref C) (.type "BaseException") = some true ∧ PySem.W.typeIn K (.ref C) = some (.type "type")
def noPar (p : Arguments) : Bool := p.posonlyargs.isEmpty && p.args.isEmpty && p.vararg.isNone && p.kwonlyargs.isEmpty && p.kw_defaults.isEmpty && p.kwarg.isNone && p.defaults.isEmpty
theorem noPar_eq {p : Arguments} (h : noPar p = true) : p = { posonlyargs := [], args := [], vararg := none, kwonlyargs := [], kw_defaults := [], kwarg := none, defaults := [] } := by
  obtain ⟨a, b, c, d, e, f, g⟩ := p
  unfold noPar at h
  simp only [Bool.and_eq_true, List.isEmpty_iff, Option.isNone_iff_eq_none] at h
  obtain ⟨⟨⟨⟨⟨⟨rfl, rfl⟩, rfl⟩, rfl⟩, rfl⟩, rfl⟩, rfl⟩ := h
  rfl
section
variable {X : Cx} {C : CalT} {pos : Pos}
theorem js_rai0 {x : Str} {p pos2 : Pos} (hc : X.calm = true) (er : Err0Ok X.K X.mg x) (hdb : (x == ("__debug__" : Str)) = false) (hg : Gl X x) : JS X (.Raise (some (.Call (.Name x p) [] [] pos)) none pos2) (wS C (.rai0 x)) := by
  obtain ⟨C0, gC, q, kC, h1, h2⟩ := er
  have mk : PMk X (.Call (.Name x p) [] [] pos) (fun _ H Q => Q (.ref C0) none H) := by
    intro pins s σ H Q I h
    refine wpAny_Call_Name_kw (ld_glob I hg gC ?_ hdb)
    refine PySem.W.callWith_K0 I.kIn kC ?_
    obtain ⟨bm, N, nm, qn, bs, hdct, sn, sub, ab, col, dd, k0, k1, k2, k3, k5, mN, hC, hN, hni, T⟩ := exc_obj I.kIn q
    refine wpAny_call_exc_subT F.excBase_ValueError T hC hN hni (fun h' e hm => ?_) (Nat.zero_le _)
    exact mk_of I hm (raises_own h1 h2) h (I.hok.gone hm.new)
  refine ⟨fun pins s σ H D' I ⟨env, h, D, E, tk, sm, rv, q, k0⟩ => (ps_raise hc tk mk).run pins s σ H D' I ?_⟩
  exact ⟨env, ⟨x, []⟩, h, Go.refl _ _, sm, rv, ⟨C0, gC, rfl, .inl ⟨rfl, rfl⟩⟩, q⟩
theorem je_met {k : Nat} {x ask q : Str} {hs : List Hd} {g c P : Addr} {fd : FuncData} {pg : Arguments} {bg : List Stmt} {sg : Scope} {N : List Str} {params : Arguments} {body : Expr} {scope : Scope} {e : Ex} {p lpos : Pos}
    (hgl : Gl X x) (hdb : (x == ("__debug__" : Str)) = false) (hm : X.mg x = some (.ref g)) (F : FunD X.K x x pg bg sg [] [] g fd) (hb : Binds X.K fd [ask] []) (S : FnScope N [ask] sg) (M : MetSh bg sg N ask hs) (HK : HdK X.K X.mg hs)
    (TB : TabB X.base X.mg c P) (hcode : X.env.code = .ref c) (hq : X.env.qual ++ "<lambda>" = q) (hC : ∀ h Q E, C q [] h Q E → 1 ≤ k ∧ ∃ h', Sub h' h ∧ Q (.ref P) h') (hr : RoomS k X.A) (L : LamS X.env.scope scope)
    (hdef : defaultsOf params X.env = ([], [])) (hbind : ∀ (cl : List (Str × Addr)) (pm cv ctv : Value), bindArgs (PySem.W.kla_fn "<lambda>" q params body scope cl pm cv ctv) ⟨[], []⟩ = pure [])
    (hbody : ∀ (A : Around) (outer : List PySem.Env) (s : Shared) (H : Hp) (E : XK) (f c' : Addr), Room k (A.deeper (lamEnv X scope s.heap.objs.size f c')) → JE (lamCx X A outer s H E scope f c') body (wE C e)) :
    JE X (.Call (.Name x p) [.Lambda params body scope lpos] [] pos) (wE C (.met q hs e)) := by
  have kp := F.kp
  obtain ⟨oc, od, dV, kV, doc, pm, an, cdv, ct, osl, rfl, lk, hcd, _, _⟩ := F.ex
  refine PE.of _ _ fun pins s σ H env h Q E Q' I tk sm rv w k0 => ?_
  obtain ⟨k1, h', sb, w⟩ := hC _ _ _ w
  obtain ⟨hP, w⟩ : h' P = some (.tab q) ∧ _ := w
  have sm' := sm.sub sb
  refine wpAny_Call_Name_kw (ld_glob I hgl hm ?_ hdb)
  refine PySem.W.callWith_K (h₀ := X.base) I.ok.mod.kin kp ?_ (by rfl) (by rfl)
  show wpAny _ _ (spliced ((false, eval (.Lambda params body scope lpos) X.env) :: backTo pos (starEach [] X.env))) _ _ s
  refine PySem.Calls.spliced_cons (lam_make3 I TB hcode hq (sm' P _ hP) hdef (L.has I.ok) fun f c' pm' ctv H1 s' I1 hE T1 hf hfn hfr hco => ?_)
  refine PySem.Calls.spliced_nil ⟨I1.kIn, ?_⟩
  have g1 : Go h' H h' H1 := ⟨fun a o e n => hE a o (fun z => by rw [z, hP] at n; cases n) e, fun a e => by
    by_cases z : a = P
    · obtain ⟨ps, t, _⟩ := T1
      rw [z, t]; simp
    · cases y : H a with
      | none => exact absurd y e
      | some o => rw [hE a o z y]; simp, fun a n _ => n⟩
  have s1 : Sim X.K h' H1 := fun a o e => by
    have r := sm' a o e
    by_cases z : a = P
    · subst z
      rw [hP] at e
      cases e
      exact T1
    · cases o with
      | lst xs =>
        obtain ⟨us, e2, r2⟩ := r
        exact ⟨us, hE a _ z e2, RVs.go sm' g1 r2⟩
      | tab y => exact tab_stay r (fun o e2 => hE a o z e2) fun c e2 => g1.fr c _ e2 (sm'.kind e2 codeO_lst codeO_ne)
  have g0 : Go h H h' H1 := ((Go.refl h H).sub sb).trans g1
  have rv1 : RVo X.K H1 env σ := rv.go sm' g1
  have rc : codeAny (model X.prog X.w) X.A (.call (.ref g) ⟨[.ref f], []⟩) (CR C8.CX0 X.stack X.prog X.w H1 s' Q' C8.E0) s' := by
    refine run_ofS (N := N) (ps := [ask]) (us := [.ref f]) (vs := [.ref f]) lk hcd S (hr.one k1) I1.env0 (hb s' [.ref f] I1.kIn rfl) (.cons rfl .nil) rfl fun _ => ?_
    obtain ⟨h0, hds, j, m, p1, p2, p3, p4, p5, p6, rfl, sh⟩ := M.body
    let Z : Cx := cxOf C8.CX0 X.prog X.w X.K X.mg X.base N x sg g cdv X.A X.stack s' H1 C8.E0
    obtain ⟨l, ok, go⟩ := hds_ok (X := Z) S.nd sh HK.each
    let E0 : XK := fun cls d H2 => LX X.K X.mg h' H1 (fun ex h2 => metH hs ex Q h2) cls d H2
    let tb : TE := fun σ' HZ Q2 => σ' = σ ∧ HZ = H1 ∧ ∀ u H2, LQ X.K h' H1 (fun v h2 => Q (.tup [.str "told", v]) h2) u H2 → Q2 u H2
    have hB : ∀ (A : Around) (outer : List PySem.Env) (s2 : Shared) (H2 : Hp), A = X.A.deeper (envOfC x sg s'.heap.objs.size g cdv) → PE (lamCx X A outer s2 H2 E0 scope f c') body tb := fun A outer s2 H2 eA => by
      refine PE.imp (hbody A outer s2 H2 E0 f c' (by rw [eA]; exact hr.two _ _)) fun σ' HZ Q2 ⟨e1, e2, q2⟩ => ?_
      subst e1 e2
      have tk0 : Takes (lamCx X A outer s2 H2 E0 scope f c') (fun cls d _ H' => E0 cls d H') := takes_of (X := lamCx X A outer s2 H2 E0 scope f c') (E := E0) rfl rfl rfl (E₁ := fun e' s'' => L2.CX X.prog X.w outer H2 s2 E0 e' s'') rfl
      exact ⟨env, h', _, _, Takes.imp tk0 fun cls d σ3 H3 ⟨_, lx⟩ => lx, s1, rv1, w, q2⟩
    refine ⟨_, pss_one (ps_try_hs (X := Z) (l := l) (Wout := fun _ _ _ _ => False)
      (tb := fun W => tRet (tTup (tCons (tC (.str "told")) (tCons (fun σZ HZ Q2 => σZ[0]? = some (some (.ref f)) ∧ HZ c' = some (CodeO c' q) ∧ tb σ HZ Q2 ∧ ∀ cls d H', E0 cls d H' → W cls d σZ H') tNil))))
      rfl rfl LamX.takes0 (fun W pn xe tkW _ => pss_one (ps_ret (pe_tup (pa_cons pe_str (pa_cons (pe_actS I1 L hq hf hfn hfr (hbind _ _ _ _) tkW hr.hd (by have := hr.dp; show X.A.depth + 1 < _; omega) hB M.n0 M.vis M.nd M.nc) pa_nil))))) ok), ?_⟩
    refine ⟨rfl, hco, ⟨rfl, rfl, fun u H2 ⟨v, h2, g2, s2, r2, q2⟩ => ⟨two_size _ _, fun p np => k0 _ _ (LQ.trans (g0.trans g2) (tup2_q s2 r2 q2 p np))⟩⟩, ?_⟩
    rintro cls d H2 ⟨ex, h2, g2, s2, rx, mm⟩
    refine go HK.apart _ _ H2 h2 Q ex cls d ?_ s2 rx mm fun u H3 lq => k0 _ _ (LQ.trans (g0.trans g2) lq)
    show N.length ≤ (L2.start N [V.ref f]).length
    unfold L2.start
    rw [List.length_append, List.length_replicate, List.length_map]
    omega
  refine wpAny_call (codeAny_mono rc fun r s2 hq => ?_)
  cases r with
  | error e => exact (show False from hq).elim
  | ok fl =>
    cases fl with
    | ret u => exact I1.after hq
    | next => exact False.elim hq
    | brk => exact False.elim hq
    | cont => exact False.elim hq
theorem je_metOk {k : Nat} {x q : Str} {m : Str × List Hd} {params : Arguments} {body : Expr} {scope : Scope} {e : Ex} {p lpos : Pos} (hx : m.1 = x) (hgl : Gl X x) (hdb : (x == ("__debug__" : Str)) = false) (M : MetOk X.K X.mg m) (lo : LamOk C k q X) (L : LamS X.env.scope scope) (hp : noPar params = true)
    (hbody : ∀ (A : Around) (outer : List PySem.Env) (s : Shared) (H : Hp) (E : XK) (f c' : Addr), Room k (A.deeper (lamEnv X scope s.heap.objs.size f c')) → JE (lamCx X A outer s H E scope f c') body (wE C e)) :
    JE X (.Call (.Name x p) [.Lambda params body scope lpos] [] pos) (wE C (.met q m.2 e)) := by
  subst hx
  obtain ⟨g, fd, pg, bg, sg, N, ask, h1, h2, h3, h4, h5⟩ := M.ex
  obtain ⟨r, hq, c, P, h6, h7, h8⟩ := lo
  have ep := noPar_eq hp
  exact je_met hgl hdb h1 h2 h3 h4 h5 M.hk h7 h6 hq h8 r L (by rw [ep]; rfl) (fun cl pm cv ctv => by rw [ep]; rfl) hbody
end
end KM
/-! KLE: lambdas that capture nothing: made, kept, called. -/
namespace KM
open PySem PySem.Spec PyProof.Rows L2 LamX

section
variable {X : Cx} {pins : List (Addr × Obj)} {σ : L2.St} {H : Hp} {s : Shared}
theorem funO_ok {P : Program} {w : World} {H : Hp} {h : Heap} {f : Lam} {p c' : Addr} {pm ctv : Value} (e : h.get? p = some (PySem.W.kla_obj "<lambda>" f.q f.params f.body f.scope [] pm c' ctv)) : ObjOk P w H h p (FunO f p c') :=
  ⟨⟨pm, ctv, e⟩, ⟨_, e⟩, fun h1 h2 ⟨pm, ctv, e⟩ st => ⟨pm, ctv, st _ e⟩⟩
/-- a lambda made that captures nothing: known from now on -/
theorem lam_makeF {c P : Addr} {f : Lam} {pos : Pos} {E : Value → Shared → Prop} {Q : Value → Shared → Prop} (I : Inv X pins σ H s) (TB : TabB X.base X.mg c P) (hcode : X.env.code = .ref c)
    (hq : X.env.qual ++ "<lambda>" = f.q) (hT : TabS H P f.q) (hdef : defaultsOf f.params X.env = ([], [])) (hfree : ∀ y ∈ f.scope.names, y.2 ≠ .free)
    (h : ∀ (p c' : Addr) (H1 : Hp) (s' : Shared), Inv X pins σ H1 s' → (∀ b o, b ≠ P → H b = some o → H1 b = some o) → TabS H1 P f.q → H1 p = some (FunO f p c') → H1 c' = some (CodeO c' f.q) → Q (.ref p) s') :
    wpAny (model X.prog X.w) X.A (eval (.Lambda f.params f.body f.scope pos) X.env) Q E s := by
  obtain ⟨ps, hP, ht, ha⟩ := hT
  have hcl : cloFrom X.env.cells f.scope.names [] = [] := by
    have key : ∀ l : List (Str × NameKind), (∀ y ∈ l, y.2 ≠ .free) → cloFrom X.env.cells l [] = [] := by
      intro l
      induction l with
      | nil => intro _; rfl
      | cons y l ih =>
        intro hl
        obtain ⟨x, k⟩ := y
        have hk := hl _ List.mem_cons_self
        cases k <;> first | exact absurd rfl hk | exact ih fun z hz => hl z (List.mem_cons_of_mem _ hz)
    exact key _ hfree
  refine PySem.W.kla_eval hdef ?_
  rw [hq]
  have bP : s.heap.BuiltinsAt X.mg P := TB.bm.keeps I.bk
  have hP' : s.heap.get? P = some { cls := .none, data := .fields ps } := I.hok P _ hP
  have hfree' : ∀ y ∈ f.scope.names, y.2 = .free → ∃ c, X.env.cells.lookup y.1 = some c := fun y hy e => absurd e (hfree y hy)
  cases hc : codeAmong pos ps.toList with
  | none =>
    refine PySem.W.kla_makeFunction (mg := X.mg) (c := c) (P := P) (ps := ps) (closure_ok hfree') I.ok.glob (I.mod.glob.keeps I.bk) hcode (TB.code.keeps I.bk) hP' ht hc TB.gP bP fun c' ctv h' tk hx hge hlt hrec htb => ?_
    rw [hcl]
    obtain ⟨c2, oc, vs, t, e2, hoc, hd, hv⟩ := hrec
    cases e2
    have nC : H c' = none := I.hok.fresh hge
    have I1 := inv_table (q := f.q) (t' := tk) (more := #[rawInt pos.line, rawInt pos.col, .ref c']) (h' := h') I hP (fun b o hb e => hx b o hb e) htb hge ⟨oc, vs, t, hoc, hd, hv⟩
    have hE : ∀ b o, b ≠ P → H b = some o → upd (upd H P (.tbl (ps ++ #[rawInt pos.line, rawInt pos.col, .ref c']))) c' (CodeO c' f.q) b = some o := fun b o hb e => by
      rw [upd_ne (ne_of_none e nC), upd_ne hb]
      exact e
    have I2 := I1.laid (a := h'.objs.size) (o := FunO f h'.objs.size c') (t' := tk) (h' := h'.push (PySem.W.kla_obj "<lambda>" f.q f.params f.body f.scope [] ((X.mg "__name__").getD .none) c' ctv)) (fun b o e => Heap.get?_push_of_some _ e) (Nat.le_refl _) (funO_ok (Heap.get?_push_size _ rfl))
    have nf : upd (upd H P (.tbl (ps ++ #[rawInt pos.line, rawInt pos.col, .ref c']))) c' (CodeO c' f.q) h'.objs.size = none := I1.hok.fresh (Nat.le_refl _)
    have up : ∀ b o, upd (upd H P (.tbl (ps ++ #[rawInt pos.line, rawInt pos.col, .ref c']))) c' (CodeO c' f.q) b = some o → upd (upd (upd H P (.tbl (ps ++ #[rawInt pos.line, rawInt pos.col, .ref c']))) c' (CodeO c' f.q)) h'.objs.size (FunO f h'.objs.size c') b = some o := fun b o e => by
      rw [upd_ne (ne_of_none e nf)]
      exact e
    have eL : (ps ++ #[rawInt pos.line, rawInt pos.col, .ref c']).toList = ps.toList ++ [rawInt pos.line, rawInt pos.col, .ref c'] := by simp
    refine h h'.objs.size c' _ _ I2 (fun b o hb e => up _ _ (hE b o hb e)) ?_ upd_same (up _ _ upd_same)
    refine ⟨_, up _ _ (by rw [upd_ne (ne_of_none hP nC), upd_same]), by rw [eL]; exact PySem.TriplesOk_snoc _ _ _ _ ht, fun p' cv hcv => ?_⟩
    rw [eL] at hcv
    rcases among_app _ ht hcv with z | z
    · obtain ⟨c0, e1, e2⟩ := ha p' cv z
      exact ⟨c0, e1, up _ _ (hE _ _ (fun y => by rw [y, hP] at e2; exact codeO_ne _ (Option.some.inj e2).symm) e2)⟩
    · exact ⟨c', z, up _ _ upd_same⟩
  | some cv =>
    obtain ⟨c', e, hco⟩ := ha pos cv hc
    subst e
    refine PySem.W.kla_makeFunctionHit (mg := X.mg) (c := c) (P := P) (ps := ps) (closure_ok hfree') I.ok.glob (I.mod.glob.keeps I.bk) hcode (TB.code.keeps I.bk) hP' ht hc bP fun ctv h' tk hx hsz => ?_
    rw [hcl]
    have nf : H h'.objs.size = none := I.hok.fresh hsz
    have up : ∀ b o, H b = some o → upd H h'.objs.size (FunO f h'.objs.size c') b = some o := fun b o e => by
      rw [upd_ne (ne_of_none e nf)]
      exact e
    have I2 := I.laid (a := h'.objs.size) (o := FunO f h'.objs.size c') (t' := tk) (h' := h'.push (PySem.W.kla_obj "<lambda>" f.q f.params f.body f.scope [] ((X.mg "__name__").getD .none) c' ctv)) (fun b o e => Heap.get?_push_of_some _ (hx b o e)) hsz (funO_ok (Heap.get?_push_size _ rfl))
    exact h h'.objs.size c' _ _ I2 (fun b o _ e => up b o e) ⟨ps, up _ _ hP, ht, fun p' cv hcv => by
      obtain ⟨c0, e1, e2⟩ := ha p' cv hcv
      exact ⟨c0, e1, up _ _ e2⟩⟩ upd_same (up _ _ hco)
end
/-- a step at a table of code objects -/
theorem go_tab {K : PySem.W.Frag} {h : Hep} {H H1 : Hp} {P : Addr} {q : Str} (sm : Sim K h H) (hP : h P = some (.tab q)) (hE : ∀ b o, b ≠ P → H b = some o → H1 b = some o) (T1 : TabS H1 P q) : Go h H h H1 ∧ Sim K h H1 := by
  have g1 : Go h H h H1 := ⟨fun a o e n => hE a o (fun z => by rw [z, hP] at n; cases n) e, fun a e => by
    by_cases z : a = P
    · obtain ⟨ps, t, _⟩ := T1
      rw [z, t]; simp
    · cases y : H a with
      | none => exact absurd y e
      | some o => rw [hE a o z y]; simp, fun a n _ => n⟩
  refine ⟨g1, fun a o e => ?_⟩
  have r := sm a o e
  by_cases z : a = P
  · subst z
    rw [hP] at e
    cases e
    exact T1
  · cases o with
    | lst xs =>
      obtain ⟨us, e2, r2⟩ := r
      exact ⟨us, hE a _ z e2, RVs.go sm g1 r2⟩
    | tab y => exact tab_stay r (fun o e2 => hE a o z e2) fun c e2 => g1.fr c _ e2 (sm.kind e2 codeO_lst codeO_ne)
section
variable {X : Cx} {C : CalT} {pos : Pos}
theorem je_lamF {k : Nat} {f : Lam} (lo : LamOk C k f.q X) (hdef : defaultsOf f.params X.env = ([], [])) (hfree : ∀ y ∈ f.scope.names, y.2 ≠ .free) : JE X (.Lambda f.params f.body f.scope pos) (wE C (.lam f)) := by
  obtain ⟨r, hq, c, P, hcode, TB, hC⟩ := lo
  refine PE.of _ _ fun pins s σ H env h Q E Q' I tk sm rv w k0 => ?_
  obtain ⟨_, h', sb, w⟩ := hC _ _ _ w
  obtain ⟨hP, w⟩ : h' P = some (.tab f.q) ∧ _ := w
  have sm' := sm.sub sb
  refine lam_makeF I TB hcode hq (sm' P _ hP) hdef hfree fun p c' H1 s' I1 hE T1 hf hco => ?_
  obtain ⟨g1, s1⟩ := go_tab sm' hP hE T1
  exact ⟨.ref p, H1, I1, rfl, k0 _ _ ⟨.lam f, h', ((Go.refl h H).sub sb).trans g1, s1, ⟨p, c', rfl, hf, hco⟩, w⟩⟩
end
/-- a call of a lambda -/
def LFn (P : Program) (w : World) (K : PySem.W.Frag) (mg : Str → Option Value) (base : Heap) (C : CalT) (k : Nat) (f : Lam) : Prop :=
  ∀ (A : Around) (outer : List PySem.Env) (s : Shared) (H : Hp) (us : List Value) (vs : List V) (Q : VK) (E : XK) (p c' : Addr), Room k A → Env0 P w K mg base A outer s H → H p = some (FunO f p c') → H c' = some (CodeO c' f.q) → Vals vs us → spC K mg C f.nm vs H Q E →
    codeAny (model P w) A (.call (.ref p) ⟨us, []⟩) (CR (L2.CX P w) outer P w H s Q E) s
section
variable {X : Cx} {C : CalT} {pos : Pos}
theorem fnAt_of {P : Program} {w : World} {H : Hp} {h : Heap} {f : Lam} {p c' : Addr} (x : HOk P w H h) (e : H p = some (FunO f p c')) : PySem.W.FnAt p h := by
  obtain ⟨⟨pm, ctv, z⟩, _, _⟩ := x p _ e
  exact ⟨_, _, _, _, z⟩
theorem je_app {k i n : Nat} {a : Str} {fs : List Lam} {e : Expr} {es : List Expr} {xs : Exs} {p1 : Pos} (hN : X.N[i]? = some a) (hv : Vis X.env.scope a) (hd : (a == ("__debug__" : Str)) = false) (hcd : (a == ("__classdict__" : Str)) = false)
    (F : ∀ f ∈ fs, LFn X.prog X.w X.K X.mg X.base C k f) (hr : Room k X.A) (ja : JAn X (e :: es) n (wA C xs))
    (he : starEach (e :: es) X.env = (false, eval e X.env) :: starEach es X.env) (hpl : (backTo pos (starEach es X.env)).any (·.1) = false) : JE X (.Call (.Name a p1) (e :: es) [] pos) (wE C (.app fs (.var i) xs)) := by
  refine PE.of _ _ fun pins s σ H env h Q E Q' I tk sm rv q k0 => ?_
  obtain ⟨v, hi, q⟩ : ∃ v, env[i]? = some (some v) ∧ onLam fs v (fun nm => wA C xs env h (fun vs h2 => C nm vs h2 Q E) E) := by
    have q' : (match env[i]? with
      | some (some v) => onLam fs v (fun nm => wA C xs env h (fun vs h2 => C nm vs h2 Q E) E)
      | _ => False) := q
    split at q'
    · rename_i v e
      exact ⟨v, e, q'⟩
    · exact q'.elim
  obtain ⟨u, hs, ru⟩ := rv.2 i v hi
  refine wpAny_Call_Name_kw (thn ((pe_var (pos := p1) hN hv hd hcd).run pins s σ H (fun v H1 => v = u ∧ H1 = H) I ⟨u, hs, rfl, rfl⟩) fun uv s1 ⟨v1, H1, I1, r1, q1⟩ => ?_)
  obtain ⟨e1, e2⟩ := q1
  subst e1
  subst e2
  cases v with
  | lam f =>
    obtain ⟨hm, q⟩ : f ∈ fs ∧ wA C xs env h (fun vs h2 => C f.nm vs h2 Q E) E := q
    obtain ⟨p, c', rfl, hf, hco⟩ := ru
    obtain rfl : uv = Value.ref p := r1
    refine PySem.W.callWith_F (fnAt_of I1.hok hf) (thn (ja.run pos pins s1 σ H1 (fun us H' => us.length = n ∧ LA X.K h H1 _ us H') I1 ⟨env, h, _, E, tk, sm, rv, q, fun us H' hl z => ⟨hl, z⟩⟩) fun us s2 hh => ?_) he hpl
    obtain ⟨vs, H2, I2, r, hl, ws, h1, g1, s1', r1', q1⟩ := hh
    have hf2 := g1.fr p _ hf (sm.kind hf funO_lst funO_tbl)
    have hco2 := g1.fr c' _ hco (sm.kind hco codeO_lst codeO_ne)
    refine ⟨fnAt_of I2.hok hf2, ?_⟩
    refine wpAny_call (codeAny_mono (F f hm X.A X.stack s2 H2 us vs Q' (fun cls d H' => LX X.K X.mg h1 H2 E cls d H') p c' hr I2.env0 hf2 hco2 r ⟨ws, h1, Q, E, s1', r1', q1, fun u H' l => k0 _ _ (LQ.trans g1 l), fun _ _ _ z => z⟩) fun r s' hq => ?_)
    cases r with
    | error e => exact passTk (tk.go g1) pins H2 s2 e s' I2 hq
    | ok fl =>
      cases fl with
      | ret u => exact I2.after hq
      | next => exact False.elim hq
      | brk => exact False.elim hq
      | cont => exact False.elim hq
  | _ => exact False.elim q
end
end KM
/-! KMK: a def's text made over into the small language, with the proof that this suffices. -/
namespace KM
open PySem PySem.Spec PyProof.Rows L2 LamX

/-- a constant of the module: a tuple of whole numbers, texts -/
abbrev Cn : Type := Str × List Val
/-- what a constant's name stands for -/
def isErr : List Val → Option Str
  | [.ty t, .str f] => if t = "error" then some f else none
  | _ => none
/-- an own error without a field -/
def isEr0 : List Val → Bool
  | [.ty t] => t == "error"
  | _ => false
def ConK (K : PySem.W.Frag) (mg : Str → Option Value) (p : Cn) : Prop := match isErr p.2 with
  | some f => ErrOk K mg p.1 f
  | none => if isEr0 p.2 = true then Err0Ok K mg p.1 else ∃ a, mg p.1 = some (.ref a) ∧ ∀ H, RV K H (.tup p.2) (.ref a)
theorem ConK.con {K : PySem.W.Frag} {mg : Str → Option Value} {p : Cn} (c : ConK K mg p) (h : isErr p.2 = none) (h2 : isEr0 p.2 = false) : ∃ a, mg p.1 = some (.ref a) ∧ ∀ H, RV K H (.tup p.2) (.ref a) := by
  unfold ConK at c
  rw [h] at c
  simp only [h2] at c
  exact c
theorem ConK.er0 {K : PySem.W.Frag} {mg : Str → Option Value} {p : Cn} (c : ConK K mg p) (h : isErr p.2 = none) (h2 : isEr0 p.2 = true) : Err0Ok K mg p.1 := by
  unfold ConK at c
  rw [h] at c
  simp only [h2] at c
  exact c
theorem ConK.err {K : PySem.W.Frag} {mg : Str → Option Value} {p : Cn} {f : Str} (c : ConK K mg p) (h : isErr p.2 = some f) : ErrOk K mg p.1 f := by
  unfold ConK at c
  rw [h] at c
  exact c
structure Co where
  N : List Str
  sc : Scope
  blk : Option Scope
  fns : List Str
  kcs : List KC
  cons : List Cn
  mets : List (Str × List Hd)
  lam : Option Str
  /-- lambdas that capture nothing; their names by where they stand -/
  lams : List Lam
  lnames : List (Nat × Nat × Str)
def bNames : List Str := ["len", "abs", "int", "all", "any", "sum", "isinstance", "tuple", "list", "range", "zip", "enumerate", "bool", "str", "dict", "sorted", "min", "max", "set"]
def isBN (x : Str) : Bool := bNames.contains x
def Co.fnOk (c : Co) (x : Str) : Prop := match c.blk with
  | none => True
  | some s => s.names.lookup x = some .cell
structure CoOk (C : CalT) (k : Nat) (c : Co) (X : Cx) : Prop where
  fns : ∀ f ∈ c.fns, FOk X C k f
  kcs : ∀ q ∈ c.kcs, FKOk X C k q
  room : Room k X.A
  calm : X.calm = true
  N : X.N = c.N
  nd : c.N.Nodup
  sc : X.env.scope = c.sc
  kind : c.sc.kind = .function
  fn : ∀ x, c.fnOk x → X.fn x = true
  po : PassesOwn (model X.prog X.w) X.A X.env X.xe
  bl : ∀ x, isBN x = true → X.mg x = none
  cons : ∀ p ∈ c.cons, ConK X.K X.mg p
  mets : ∀ m ∈ c.mets, MetOk X.K X.mg m
  lam : ∀ q, c.lam = some q → LamOk C k q X
  lams : ∀ f ∈ c.lams, LFn X.prog X.w X.K X.mg X.base C k f
theorem CoOk.hu {C : CalT} {k : Nat} {c : Co} {X : Cx} (o : CoOk C k c X) : X.A.units + 65 < cLine := by
  have := o.room.un; omega
theorem CoOk.gl {C : CalT} {k : Nat} {c : Co} {X : Cx} (o : CoOk C k c X) {x : Str} (h : c.sc.names.lookup x = some .globalImplicit) : Gl X x := by
  show X.env.scope.names.lookup x = _
  rw [o.sc]; exact h
abbrev SndE (c : Co) (e : Expr) (x : Ex) : Prop := ∀ C k X, CoOk C k c X → JE X e (wE C x) ∧ JT X e (wT C x)
abbrev PEx (c : Co) (e : Expr) := {x : Ex // SndE c e x}
def badE (c : Co) (e : Expr) : PEx c e := ⟨.bad, fun _ _ _ _ => ⟨je_bad, jt_bad⟩⟩
abbrev CE (c : Co) := (e : Expr) → PEx c e

/-! ### names -/
def visB (sc : Scope) (x : Str) : Bool := match sc.names.lookup x with
  | some .local => true
  | some .cell => true
  | some .free => true
  | _ => false
theorem visB_ok {sc : Scope} {x : Str} (h : visB sc x = true) : Vis sc x := by
  unfold visB at h
  split at h
  · exact .inl (by assumption)
  · exact .inr (.inl (by assumption))
  · exact .inr (.inr (by assumption))
  · cases h
def glB (sc : Scope) (x : Str) : Bool := match sc.names.lookup x with
  | some .globalImplicit => true
  | _ => false
theorem glB_ok {sc : Scope} {x : Str} (h : glB sc x = true) : sc.names.lookup x = some .globalImplicit := by
  unfold glB at h
  split at h
  · assumption
  · cases h
def nfB (x : Str) : Bool := !(x == ("__debug__" : Str)) && !(x == ("__classdict__" : Str))
theorem nfB_ok {x : Str} (h : nfB x = true) : (x == ("__debug__" : Str)) = false ∧ (x == ("__classdict__" : Str)) = false := by
  unfold nfB at h
  simpa using h
def tyName (x : Str) : Option String := if x = "list" then some "list" else if x = "tuple" then some "tuple" else if x = "int" then some "int" else if x = "bool" then some "bool" else if x = "str" then some "str" else if x = "dict" then some "dict" else none
theorem tyName_ok {x : Str} {T : String} (h : tyName x = some T) : bootBuiltins x = some (.type T) ∧ isBN x = true ∧ x ≠ "__name__" ∧ (x == ("__debug__" : Str)) = false := by
  unfold tyName at h
  split at h
  · rename_i e; subst e; cases h; exact ⟨by decide +kernel, by decide +kernel, by decide, by decide⟩
  split at h
  · rename_i e; subst e; cases h; exact ⟨by decide +kernel, by decide +kernel, by decide, by decide⟩
  split at h
  · rename_i e; subst e; cases h; exact ⟨by decide +kernel, by decide +kernel, by decide, by decide⟩
  split at h
  · rename_i e; subst e; cases h; exact ⟨by decide +kernel, by decide +kernel, by decide, by decide⟩
  split at h
  · rename_i e; subst e; cases h; exact ⟨by decide +kernel, by decide +kernel, by decide, by decide⟩
  split at h
  · rename_i e; subst e; cases h; exact ⟨by decide +kernel, by decide +kernel, by decide, by decide⟩
  · cases h
def findC (x : Str) : List Cn → Option Cn
  | [] => none
  | p :: r => if p.1 = x then some p else findC x r
theorem findC_ok {x : Str} {q : Cn} : ∀ {l : List Cn}, findC x l = some q → q ∈ l ∧ q.1 = x
  | [], h => by cases h
  | p :: r, h => by
    unfold findC at h
    split at h
    · cases h
      exact ⟨List.mem_cons_self, by assumption⟩
    · obtain ⟨h1, h2⟩ := findC_ok h
      exact ⟨List.mem_cons_of_mem _ h1, h2⟩
def cName (c : Co) (x : Str) (pos : Pos) : PEx c (.Name x pos) :=
  if h : (decide (c.N[c.N.idxOf x]? = some x) && visB c.sc x && nfB x) = true then
    ⟨.var (c.N.idxOf x), fun C k X o => by
      simp only [Bool.and_eq_true, decide_eq_true_eq] at h
      have j : JE X (.Name x pos) (wE C (.var (c.N.idxOf x))) := je_var (by rw [o.N]; exact h.1.1) (by rw [o.sc]; exact visB_ok h.1.2) (nfB_ok h.2).1 (nfB_ok h.2).2
      exact ⟨j, jt_of j fun _ => rfl⟩⟩
  else match e : tyName x with
    | some T => if g : glB c.sc x = true then ⟨.ty T, fun C k X o => by
        obtain ⟨h1, h2, h3, h4⟩ := tyName_ok e
        have j : JE X (.Name x pos) (wE C (.ty T)) := je_con (pe_bltn (v := .ty T) (pos := pos) (o.gl (glB_ok g)) (o.bl x h2) h1 rfl h3 h4) fun _ => rfl
        exact ⟨j, jt_of j fun _ => rfl⟩⟩ else badE c _
    | none => (match hc : findC x c.cons with
      | some q => if g : ((glB c.sc x && nfB x) && ((isErr q.2).isNone && !isEr0 q.2)) = true then ⟨.con (.tup q.2), fun C k X o => by
          rw [Bool.and_eq_true, Bool.and_eq_true, Bool.and_eq_true] at g
          obtain ⟨g, ge⟩ := g
          obtain ⟨q1, q2⟩ := findC_ok hc
          subst q2
          obtain ⟨a, h1, h2⟩ := (o.cons q q1).con (Option.isNone_iff_eq_none.mp ge.1) (by simpa using ge.2)
          have j : JE X (.Name q.1 pos) (wE C (.con (.tup q.2))) := je_con (pe_glob (v := .ref a) (pos := pos) (o.gl (glB_ok g.1)) h1 rfl (nfB_ok g.2).1) h2
          exact ⟨j, jt_of j fun _ => rfl⟩⟩ else badE c _
      | none => badE c _)
def cConst (c : Co) (k : Const) (j : Nat) (pos : Pos) : PEx c (.Constant k j pos) := match k with
  | .none => ⟨.non, fun C k X o => have z : JE X _ (wE C .non) := je_con pe_non fun _ => rfl; ⟨z, jt_of z fun _ => rfl⟩⟩
  | .bool b => ⟨.bl b, fun C k X o => have z : JE X _ (wE C (.bl b)) := je_con pe_bl fun _ => rfl; ⟨z, jt_of z fun _ => rfl⟩⟩
  | .int i => ⟨.int i, fun C k X o => have z : JE X _ (wE C (.int i)) := je_con pe_int fun _ => rfl; ⟨z, jt_of z fun _ => rfl⟩⟩
  | .str s => ⟨.str s, fun C k X o => have z : JE X _ (wE C (.str s)) := je_con pe_str fun _ => rfl; ⟨z, jt_of z fun _ => rfl⟩⟩
  | _ => badE c _

/-! ### lists of expressions -/
def noStars (es : List Expr) : Bool := es.all fun e => !isStar e
theorem noStars_cons {e : Expr} {es : List Expr} (h : noStars (e :: es) = true) : isStar e = false ∧ noStars es = true := by
  unfold noStars at h
  rw [List.all_cons, Bool.and_eq_true] at h
  exact ⟨by simpa using h.1, h.2⟩
abbrev PAs (c : Co) (es : List Expr) := {xs : Exs // noStars es = true → ∀ C k X, CoOk C k c X → JAn X es es.length (wA C xs)}
def cA {c : Co} (f : CE c) : (es : List Expr) → PAs c es
  | [] => ⟨.nil, fun _ _ _ _ _ => ja_nil⟩
  | e :: es => match f e, cA f es with
    | ⟨x, hx⟩, ⟨xs, hxs⟩ => ⟨.cons x xs, fun h C k X o => ja_cons (hx C k X o).1 (hxs (noStars_cons h).2 C k X o) (star_cons (noStars_cons h).1)⟩
def cBs {c : Co} (f : CE c) (op : BoolOp) (pos : Pos) : (es : List Expr) → {x : Ex // es ≠ [] → ∀ C k X, CoOk C k c X → JE X (.BoolOp op es pos) (wE C x) ∧ JW X (.BoolOp op es pos) (wT C x)}
  | [] => ⟨.bad, fun h => (h rfl).elim⟩
  | [e] => match f e with
    | ⟨x, hx⟩ => ⟨x, fun _ C k X o => ⟨je_one (hx C k X o).1, jw_one (hx C k X o).2⟩⟩
  | e :: e2 :: es => match f e, cBs f op pos (e2 :: es) with
    | ⟨x, hx⟩, ⟨y, hy⟩ => match op with
      | .And => ⟨.and x y, fun _ C k X o => ⟨je_and (hx C k X o).1 (hy (by simp) C k X o).1, jw_and (hx C k X o).2 (hy (by simp) C k X o).2⟩⟩
      | .Or => ⟨.or x y, fun _ C k X o => ⟨je_or (hx C k X o).1 (hy (by simp) C k X o).1, jw_or (hx C k X o).2 (hy (by simp) C k X o).2⟩⟩

/-! ### calls -/
def biOf (x : Str) : Option Bi := if x = "len" then some .len else if x = "abs" then some .abs else if x = "int" then some .int else if x = "all" then some .all else if x = "any" then some .any else if x = "sum" then some .sum
  else if x = "isinstance" then some .isi else if x = "tuple" then some .tuple else if x = "list" then some .list else none
theorem biOf_ok {x : Str} {f : Bi} (h : biOf x = some f) : bootBuiltins x = some f.val ∧ isBN x = true ∧ x ≠ "__name__" ∧ (x == ("__debug__" : Str)) = false := by
  unfold biOf at h
  iterate 9
    split at h
    · rename_i e; subst e; cases h; exact ⟨by decide +kernel, by decide +kernel, by decide, by decide⟩
  · cases h
theorem bi_val (f : Bi) : (∃ B, f.val = .builtin B) ∨ ∃ T, f.val = .type T := by
  cases f <;> first | exact .inl ⟨_, rfl⟩ | exact .inr ⟨_, rfl⟩
def cCallN {c : Co} (f : CE c) (x : Str) (p : Pos) (es : List Expr) (pos : Pos) : PEx c (.Call (.Name x p) es [] pos) :=
  if g : glB c.sc x = true then
    if hf : (c.fns.contains x && nfB x) = true then
      match es with
      | [] => ⟨.call x .nil, fun C k X o => by
          rw [Bool.and_eq_true] at hf
          have j : JE X (.Call (.Name x p) [] [] pos) (wE C (.call x .nil)) := je_call0 (o.fns x (by simpa using hf.1)) o.room (o.gl (glB_ok g)) (nfB_ok hf.2).1
          exact ⟨j, jt_of j fun _ => rfl⟩⟩
      | e :: es => if hs : noStars (e :: es) = true then match cA f (e :: es) with
          | ⟨xs, hxs⟩ => ⟨.call x xs, fun C k X o => by
              rw [Bool.and_eq_true] at hf
              have j : JE X (.Call (.Name x p) (e :: es) [] pos) (wE C (.call x xs)) := je_call (o.fns x (by simpa using hf.1)) o.room (o.gl (glB_ok g)) (nfB_ok hf.2).1 (hxs hs C k X o) (star_cons (noStars_cons hs).1) (star_any (noStars_cons hs).2)
              exact ⟨j, jt_of j fun _ => rfl⟩⟩
        else badE c _
    else match hb : biOf x with
      | some b => (match es with
        | e :: es => if hs : noStars (e :: es) = true then match cA f (e :: es) with
            | ⟨xs, hxs⟩ => ⟨.bi b xs, fun C k X o => by
                obtain ⟨h1, h2, h3, h4⟩ := biOf_ok hb
                have j : JE X (.Call (.Name x p) (e :: es) [] pos) (wE C (.bi b xs)) := by
                  rcases bi_val b with ⟨B, z⟩ | ⟨B, z⟩
                  · exact je_biF (id := x) o.calm z (o.gl (glB_ok g)) (o.bl x h2) (by rw [← z]; exact h1) h3 h4 (hxs hs C k X o) (star_cons (noStars_cons hs).1) (star_any (noStars_cons hs).2)
                  · exact je_biT (id := x) o.calm z (o.gl (glB_ok g)) (o.bl x h2) (by rw [← z]; exact h1) h3 h4 (hxs hs C k X o) (star_cons (noStars_cons hs).1) (star_any (noStars_cons hs).2)
                exact ⟨j, jt_of j fun _ => rfl⟩⟩
          else badE c _
        | [] => badE c _)
      | none => badE c _
  else if v : ((decide (c.N[c.N.idxOf x]? = some x) && visB c.sc x) && (nfB x && !c.lams.isEmpty)) = true then
    match es with
    | e :: es => if hs : noStars (e :: es) = true then match cA f (e :: es) with
        | ⟨xs, hxs⟩ => ⟨.app c.lams (.var (c.N.idxOf x)) xs, fun C k X o => by
            simp only [Bool.and_eq_true, decide_eq_true_eq] at v
            obtain ⟨⟨v1, v2⟩, v3, _⟩ := v
            have j : JE X (.Call (.Name x p) (e :: es) [] pos) (wE C (.app c.lams (.var (c.N.idxOf x)) xs)) := je_app (by rw [o.N]; exact v1) (by rw [o.sc]; exact visB_ok v2) (nfB_ok v3).1 (nfB_ok v3).2 o.lams o.room (hxs hs C k X o) (star_cons (noStars_cons hs).1) (star_any (noStars_cons hs).2)
            exact ⟨j, jt_of j fun _ => rfl⟩⟩
      else badE c _
    | [] => badE c _
  else badE c _
def kwNames : List Keyword → Option (List Str)
  | [] => some []
  | ⟨some x, _, _⟩ :: r => (kwNames r).map (x :: ·)
  | ⟨none, _, _⟩ :: _ => none
theorem kwNames_ok {env : PySem.Env} {pos : Pos} : ∀ {kws : List Keyword} {ks : List Str}, kwNames kws = some ks → (backToKw pos (keywordEach kws env)).filterMap (·.1) = ks ∧ (backToKw pos (keywordEach kws env)).all (·.1.isSome) = true ∧ (backToKw pos (keywordEach kws env)).any (·.1.isNone) = false ∧ kws.length = ks.length
  | [], ks, h => by
    simp only [kwNames] at h
    cases h
    exact ⟨rfl, rfl, rfl, rfl⟩
  | ⟨some x, e, p⟩ :: r, ks, h => by
    simp only [kwNames] at h
    cases z : kwNames r with
    | none => rw [z] at h; cases h
    | some ks' =>
      rw [z] at h
      cases h
      obtain ⟨h1, h2, h3, h4⟩ := kwNames_ok (env := env) (pos := pos) z
      unfold backToKw at h1 h2 h3 ⊢
      simp only [keywordEach, List.map_cons, List.filterMap_cons, List.all_cons, List.any_cons, List.length_cons]
      exact ⟨by rw [h1], by rw [h2]; rfl, by rw [h3]; rfl, by rw [h4]⟩
  | ⟨none, _, _⟩ :: _, _, h => by cases h
def cKs {c : Co} (f : CE c) : (kws : List Keyword) → {xs : Exs // ∀ C k X, CoOk C k c X → JKn X kws kws.length (wA C xs)}
  | [] => ⟨.nil, fun _ _ _ _ => jk_nil⟩
  | ⟨nm, e, kp⟩ :: r => match f e, cKs f r with
    | ⟨x, hx⟩, ⟨xs, hxs⟩ => ⟨.cons x xs, fun C k X o => jk_cons (hx C k X o).1 (hxs C k X o)⟩
/-- a call by keywords that is booked -/
def findK (x : Str) (ks : List Str) : List KC → Option KC
  | [] => none
  | q :: r => if q.f = x ∧ q.ks = ks then some q else findK x ks r
theorem findK_ok {x : Str} {ks : List Str} {q : KC} : ∀ {l : List KC}, findK x ks l = some q → q ∈ l ∧ q.f = x ∧ q.ks = ks
  | [], h => by cases h
  | p :: r, h => by
    unfold findK at h
    split at h
    · cases h
      exact ⟨List.mem_cons_self, by assumption⟩
    · obtain ⟨h1, h2⟩ := findK_ok h
      exact ⟨List.mem_cons_of_mem _ h1, h2⟩
def cCallK {c : Co} (f : CE c) (x : Str) (p : Pos) (kws : List Keyword) (pos : Pos) : PEx c (.Call (.Name x p) [] kws pos) :=
  match hn : kwNames kws with
  | some ks => (match hk : findK x ks c.kcs with
    | some q => if h : (glB c.sc x && nfB x) = true then match cKs f kws with
        | ⟨xs, hxs⟩ => ⟨.kall q.f q.perm xs, fun C k X o => by
            rw [Bool.and_eq_true] at h
            obtain ⟨q1, q2, q3⟩ := findK_ok hk
            subst q2
            obtain ⟨h1, h2, h3, h4⟩ := kwNames_ok (env := X.env) (pos := pos) hn
            have j : JE X (.Call (.Name q.f p) [] kws pos) (wE C (.kall q.f q.perm xs)) := je_kall (o.kcs q q1) o.room (o.gl (glB_ok h.1)) (nfB_ok h.2).1 (hxs C k X o) (by rw [h4, q3]) (by rw [h1, q3]) h2 h3
            exact ⟨j, jt_of j fun _ => rfl⟩⟩
      else badE c _
    | none => badE c _)
  | none => badE c _
def mtOf (x : Str) : Option Mt := if x = "append" then some .append else if x = "pop" then some .pop else if x = "extend" then some .extend else none
theorem mtOf_ok {x : Str} {m : Mt} (h : mtOf x = some m) : x = m.name := by
  unfold mtOf at h
  iterate 3
    split at h
    · rename_i e; subst e; cases h; rfl
  · cases h
def cCallM {c : Co} (f : CE c) (o : Expr) (m : Str) (apos : Pos) (es : List Expr) (pos : Pos) : PEx c (.Call (.Attribute o m apos) es [] pos) :=
  match hm : mtOf m with
  | some mt => if h : (plainBase o && (apos.endLine == pos.line) && noStars es && decide (es.length < 30)) = true then
      match f o, es with
      | ⟨x, hx⟩, [] => ⟨.mth mt x .nil, fun C k X ok => by
          simp only [Bool.and_eq_true, decide_eq_true_eq] at h
          have e := mtOf_ok hm
          subst e
          have j : JE X (.Call (.Attribute o mt.name apos) [] [] pos) (wE C (.mth mt x .nil)) := je_mth0 (hx C k X ok).1 h.1.1.1 h.1.1.2
          exact ⟨j, jt_of j fun _ => rfl⟩⟩
      | ⟨x, hx⟩, e :: es => match cA f (e :: es) with
          | ⟨xs, hxs⟩ => ⟨.mth mt x xs, fun C k X ok => by
              simp only [Bool.and_eq_true, decide_eq_true_eq] at h
              have z := mtOf_ok hm
              subst z
              have j : JE X (.Call (.Attribute o mt.name apos) (e :: es) [] pos) (wE C (.mth mt x xs)) := je_mth (hx C k X ok).1 (hxs h.1.2 C k X ok) h.1.1.1 h.1.1.2 h.1.2 h.2
              exact ⟨j, jt_of j fun _ => rfl⟩⟩
    else badE c _
  | none => badE c _

/-! ### places -/
def cO {c : Co} (f : CE c) : (e : Option Expr) → {xs : Exs // ∀ C k X, CoOk C k c X → JO X e (wO C xs)}
  | none => ⟨.nil, fun _ _ _ _ => jo_none⟩
  | some e => match f e with
    | ⟨x, hx⟩ => ⟨.cons x .nil, fun C k X o => jo_some (hx C k X o).1⟩
def cSub {c : Co} (f : CE c) (a b : Expr) (pos : Pos) : PEx c (.Subscript a b pos) :=
  match b with
  | .Slice lo hi none p2 => match f a, cO f lo, cO f hi with
    | ⟨x, hx⟩, ⟨l, hl⟩, ⟨u, hu⟩ => ⟨.sl x l u, fun C k X o => have j : JE X _ (wE C (.sl x l u)) := je_sl (hx C k X o).1 (hl C k X o) (hu C k X o); ⟨j, jt_of j fun _ => rfl⟩⟩
  | .Slice none none (some (.UnaryOp .USub (.Constant (.int 1) n p1) p2)) p3 => match f a with
    | ⟨x, hx⟩ => ⟨.rev x, fun C k X o => have j : JE X _ (wE C (.rev x)) := je_rev (hx C k X o).1; ⟨j, jt_of j fun _ => rfl⟩⟩
  | b => if h : isSlice b = false then match f a, f b with
      | ⟨x, hx⟩, ⟨y, hy⟩ => ⟨.ix x y, fun C k X o => have j : JE X _ (wE C (.ix x y)) := je_ix (hx C k X o).1 (hy C k X o).1 h; ⟨j, jt_of j fun _ => rfl⟩⟩
    else badE c _

/-! ### targets, walks -/
def locB (c : Co) (x : Str) : Bool := match c.sc.names.lookup x with
  | some .local => true
  | some .cell => (match c.blk with
    | none => true
    | some s => decide (s.names.lookup x = some .cell))
  | _ => false
theorem locB_ok {C : CalT} {k : Nat} {c : Co} {X : Cx} (o : CoOk C k c X) {x : Str} (h : locB c x = true) : Loc X.env.scope x ∧ (X.fn x = true ∨ X.env.scope.names.lookup x = some .local) := by
  rw [o.sc]
  unfold locB at h
  split at h
  · rename_i e; exact ⟨.inl e, .inr e⟩
  · rename_i e
    refine ⟨.inr e, .inl (o.fn x ?_)⟩
    unfold Co.fnOk
    split at h
    · trivial
    · simpa using h
  · cases h
mutual
def cG (c : Co) : (e : Expr) → Option {t : Tg // ∀ C k X, CoOk C k c X → JG X e t}
  | .Name x pos => if h : (decide (c.N[c.N.idxOf x]? = some x) && locB c x) = true then some ⟨.nm (c.N.idxOf x), fun C k X o => by
      simp only [Bool.and_eq_true, decide_eq_true_eq] at h
      obtain ⟨l, g⟩ := locB_ok o h.2
      exact jg_name (by rw [o.N]; exact o.nd) (by rw [o.N]; exact h.1) l g⟩ else none
  | .Tuple es k pos => match cGs c es with
    | some ⟨t, ht⟩ => if h : (noStars es && t.isTup && decide (es.length = t.len)) = true then some ⟨t, fun C k X o => by
        simp only [Bool.and_eq_true, decide_eq_true_eq] at h
        exact jg_tup o.calm h.1.1 h.1.2 h.2 (ht h.1.1 C _ X o)⟩ else none
    | none => none
  | _ => none
def cGs (c : Co) : (es : List Expr) → Option {t : Tg // noStars es = true → ∀ C k X, CoOk C k c X → JGs X es t}
  | [] => some ⟨.tn, fun _ _ _ _ _ => jgs_nil⟩
  | e :: es => match cG c e, cGs c es with
    | some ⟨a, ha⟩, some ⟨b, hb⟩ => some ⟨.tc a b, fun h C k X o => jgs_cons (ha C k X o) (hb (noStars_cons h).2 C k X o) (noStars_cons h).1⟩
    | _, _ => none
end
abbrev PIr (c : Co) (tg e : Expr) := {it : Ir // ∀ C k X, CoOk C k c X → JI X tg e (wI C it)}
def seqI {c : Co} (f : CE c) (tg e : Expr) : PIr c tg e := match f e with
  | ⟨x, hx⟩ => ⟨.seq x, fun C k X o => ji_seq (hx C k X o).1⟩
def cI {c : Co} (f : CE c) (tg : Expr) : (e : Expr) → PIr c tg e
  | .Call (.Name x p) [a] [] pos =>
    if h : (x = "range" ∧ glB c.sc x = true ∧ isStar a = false) then match f a with
      | ⟨y, hy⟩ => ⟨.rng1 y, fun C k X o => by
          obtain ⟨rfl, h2, h3⟩ := h
          exact ji_rng1 (o.gl (glB_ok h2)) (o.bl _ (by decide +kernel)) (hy C k X o).1 h3⟩
    else match tg with
      | .Tuple elts kk tpos => if h : (x = "enumerate" ∧ glB c.sc x = true ∧ isStar a = false) then match f a with
          | ⟨y, hy⟩ => ⟨.enum y, fun C k X o => by
              obtain ⟨rfl, h2, h3⟩ := h
              exact ji_enum (o.gl (glB_ok h2)) (o.bl _ (by decide +kernel)) (hy C k X o).1 h3⟩
        else seqI f _ _
      | tg => seqI f _ _
  | .Call (.Name x p) [a, b] [] pos =>
    if h : (x = "range" ∧ glB c.sc x = true ∧ isStar a = false ∧ isStar b = false) then match f a, f b with
      | ⟨y, hy⟩, ⟨z, hz⟩ => ⟨.rng2 y z, fun C k X o => by
          obtain ⟨rfl, h2, h3, h4⟩ := h
          exact ji_rng2 (o.gl (glB_ok h2)) (o.bl _ (by decide +kernel)) (hy C k X o).1 (hz C k X o).1 h3 h4⟩
    else match tg with
      | .Tuple elts kk tpos => if h : (x = "zip" ∧ glB c.sc x = true ∧ isStar a = false ∧ isStar b = false) then match f a, f b with
          | ⟨y, hy⟩, ⟨z, hz⟩ => ⟨.zip y z, fun C k X o => by
              obtain ⟨rfl, h2, h3, h4⟩ := h
              exact ji_zip (o.gl (glB_ok h2)) (o.bl _ (by decide +kernel)) (hy C k X o).1 (hz C k X o).1 h3 h4⟩
        else seqI f _ _
      | tg => seqI f _ _
  | e => seqI f _ _
end KM
/-! KML: expressions, statements, defs made over. -/
namespace KM
open PySem PySem.Spec PyProof.Rows L2 LamX

/-! ### comprehensions -/
def ownOf (c : Co) (s : Scope) : List (Str × Nat) := s.names.filterMap fun (x, k) => if (k == .local || k == .cell) && decide (c.N[c.N.idxOf x]? = some x) then some (x, c.N.idxOf x) else none
def Co.inner (c : Co) (s : Scope) : Co := { N := c.N, sc := relS s c.sc, blk := some s, fns := c.fns, kcs := c.kcs, cons := c.cons, mets := c.mets, lam := none, lams := c.lams, lnames := c.lnames }
theorem CoOk.inner {C : CalT} {k : Nat} {c : Co} {X : Cx} (o : CoOk C k c X) {scope : Scope} (hk : scope.kind = .function) (s : Shared) (H : Hp) (Cc : Addr) (cl : List (Str × Addr)) (fp : List Addr) :
    CoOk C k (c.inner scope) (X.blk s H scope (compEnvC scope cl Cc X.env) fp) where
  fns := o.fns
  kcs := o.kcs
  room := o.room
  calm := o.calm
  N := o.N
  nd := o.nd
  sc := by show relS scope X.env.scope = relS scope c.sc; rw [o.sc]
  kind := hk
  fn := fun x h => by
    have h : scope.names.lookup x = some .cell := h
    show (scope.names.lookup x == some NameKind.cell) = true
    rw [h]; rfl
  po := PassesOwn.never
  bl := o.bl
  cons := o.cons
  mets := o.mets
  lam := fun _ e => by cases e
  lams := o.lams
/-! ### lambdas -/
def Co.lamIn (c : Co) (s : Scope) : Co := { N := c.N, sc := s, blk := some s, fns := c.fns, kcs := c.kcs, cons := c.cons, mets := c.mets, lam := none, lams := c.lams, lnames := c.lnames }
theorem CoOk.lamIn {C : CalT} {k : Nat} {c : Co} {X : Cx} (o : CoOk C k c X) {scope : Scope} (L : LamS X.env.scope scope) {A : Around} {outer : List PySem.Env} {s : Shared} {H : Hp} {E : XK} {f c' : Addr} (hr : Room k (A.deeper (lamEnv X scope s.heap.objs.size f c'))) :
    CoOk C k (c.lamIn scope) (lamCx X A outer s H E scope f c') where
  fns := o.fns
  kcs := o.kcs
  room := hr
  calm := rfl
  N := o.N
  nd := o.nd
  sc := rfl
  kind := L.kind
  fn := fun x h => by
    have h : scope.names.lookup x = some .cell := h
    exact absurd rfl (L.own _ (PySem.mem_of_lookup h)).2
  po := passes_of (X := lamCx X A outer s H E scope f c') (K := fun e s'' => L2.CX X.prog X.w outer H s E e s'') (E₁ := fun e' s'' => L2.CX X.prog X.w outer H s E e' s'') rfl
  bl := o.bl
  cons := o.cons
  mets := o.mets
  lam := fun _ e => by cases e
  lams := o.lams
def findM (x : Str) : List (Str × List Hd) → Option (Str × List Hd)
  | [] => none
  | p :: r => if p.1 = x then some p else findM x r
theorem findM_ok {x : Str} {q : Str × List Hd} : ∀ {l : List (Str × List Hd)}, findM x l = some q → q ∈ l ∧ q.1 = x
  | [], h => by cases h
  | p :: r, h => by
    unfold findM at h
    split at h
    · cases h
      exact ⟨List.mem_cons_self, by assumption⟩
    · obtain ⟨h1, h2⟩ := findM_ok h
      exact ⟨List.mem_cons_of_mem _ h1, h2⟩
def cMet (n : (c : Co) → CE c) (c : Co) (x : Str) (p : Pos) (params : Arguments) (body : Expr) (scope : Scope) (lpos pos : Pos) : PEx c (.Call (.Name x p) [.Lambda params body scope lpos] [] pos) :=
  match hm : findM x c.mets, hl : c.lam with
  | some m, some q => if h : ((glB c.sc x && nfB x) && (lamSB c.sc scope && noPar params)) = true then match n (c.lamIn scope) body with
      | ⟨e, he⟩ => ⟨.met q m.2 e, fun C k X o => by
          simp only [Bool.and_eq_true] at h
          obtain ⟨⟨h1, h2⟩, h3, h4⟩ := h
          obtain ⟨m1, m2⟩ := findM_ok hm
          have L : LamS X.env.scope scope := lamS_by (by rw [o.sc]; exact h3)
          have j : JE X (.Call (.Name x p) [.Lambda params body scope lpos] [] pos) (wE C (.met q m.2 e)) := je_metOk m2 (o.gl (glB_ok h1)) (nfB_ok h2).1 (o.mets m m1) (o.lam q hl) L h4 fun A outer s H E f c' hr => (he C k _ (o.lamIn L hr)).1
          exact ⟨j, jt_of j fun _ => rfl⟩⟩
    else badE c _
  | _, _ => badE c _
def isSet : Expr → Bool
  | .Set .. => true
  | _ => false
theorem fold_no {e : Expr} (h : isSet e = false) {env : PySem.Env} (x : Value) : foldedSetIterable e env x = pure x := by
  cases e <;> first | rfl | cases h
/-- the parts of a comprehension that is taken -/
def lcOk (c : Co) (scope : Scope) (t : Tg) (it : Expr) : Bool :=
  blkC c.N c.sc scope (ownOf c scope) && t.slots.all (fun i => ((ownOf c scope).map (·.2)).contains i) && !isSet it && decide (scope.kind = .function)
structure LcP (X : Cx) (C : CalT) (elt tg iter : Expr) (ifs : List Expr) (scope : Scope) (own : List (Str × Nat)) (x : Ex) (t : Tg) (it : Ir) (cnd : Exs) : Prop where
  ok : BlkOk X.N X.env.scope scope own
  sl : ∀ i ∈ t.slots, i ∈ own.map (·.2)
  ji : JI X tg iter (wI C it)
  jg : ∀ (s : Shared) (H : Hp) (Cc : Addr) (cl : List (Str × Addr)) (fp : List Addr), JG (X.blk s H scope (compEnvC scope cl Cc X.env) fp) tg t
  jt : ∀ (s : Shared) (H : Hp) (Cc : Addr) (cl : List (Str × Addr)) (fp : List Addr), JTs (X.blk s H scope (compEnvC scope cl Cc X.env) fp) ifs (wCs C cnd)
  je : ∀ (s : Shared) (H : Hp) (Cc : Addr) (cl : List (Str × Addr)) (fp : List Addr), JE (X.blk s H scope (compEnvC scope cl Cc X.env) fp) elt (wE C x)
  hs : ∀ x, foldedSetIterable iter X.env x = pure x
theorem LcP.val {X : Cx} {C : CalT} {elt tg iter : Expr} {ifs : List Expr} {scope : Scope} {own : List (Str × Nat)} {x : Ex} {t : Tg} {it : Ir} {cnd : Exs} {pos : Pos} (L : LcP X C elt tg iter ifs scope own x t it cnd) (hc : X.calm = true) (hN : X.N.Nodup) :
    JE X (.ListComp elt [⟨tg, iter, ifs, 0⟩] scope pos) (wE C (.lc x t it cnd (own.map (·.2)))) := by
  obtain ⟨g, tt, te, wi, h1, h2, h3, h4, h5⟩ := je_lc hc hN L.ok L.sl L.ji L.jg L.jt L.je L.hs _ rfl
  exact PE.imp (pe_lc (pos := pos) hc hN h1 L.ok h2 h3 h4 L.hs) h5
theorem LcP.set {X : Cx} {C : CalT} {elt tg iter : Expr} {ifs : List Expr} {scope : Scope} {own : List (Str × Nat)} {x : Ex} {t : Tg} {it : Ir} {cnd : Exs} {pos spos py : Pos} {y : Str} {i : Nat} (L : LcP X C elt tg iter ifs scope own x t it cnd) (hc : X.calm = true) (hN : X.N.Nodup)
    (hy : X.N[i]? = some y) (hyl : X.env.scope.names.lookup y = some .local) (hsw : swapsWith (.ListComp elt [⟨tg, iter, ifs, 0⟩] scope pos) (some (.Name y py)) spos.line X.env = pure true) :
    JS X (.Assign [.Name y py] (.ListComp elt [⟨tg, iter, ifs, 0⟩] scope pos) spos) (wS C (.asg (.nm i) (.lc x t it cnd (own.map (·.2))))) := by
  obtain ⟨g, tt, te, wi, h1, h2, h3, h4, h5⟩ := je_lc hc hN L.ok L.sl L.ji L.jg L.jt L.je L.hs _ rfl
  refine PS.imp (ps_setLc (spos := spos) (py := py) hc hN hy hyl hsw h1 L.ok h2 h3 h4 L.hs) fun D' σ H ⟨env, h, D, E, tk, sm, rv, q, k⟩ => ?_
  refine h5 _ _ _ ⟨env, h, _, _, tk.ex sm rv, sm, rv, q, ?_⟩
  rintro u H' ⟨v, h1, g1, s1, r1, q1⟩
  exact k.nx _ _ ⟨_, h1, g1, s1, (rv.go sm g1).set r1 i, q1⟩
/-- what a comprehension is made of -/
structure LcR (c : Co) (elt tg iter : Expr) (ifs : List Expr) (scope : Scope) where
  x : Ex
  t : Tg
  it : Ir
  cnd : Exs
  ok : ∀ C k X, CoOk C k c X → LcP X C elt tg iter ifs scope (ownOf c scope) x t it cnd
def cIfs {c : Co} (f : CE c) : (es : List Expr) → Option {xs : Exs // ∀ C k X, CoOk C k c X → JTs X es (wCs C xs)}
  | [] => some ⟨.nil, fun _ _ _ _ => jts_nil⟩
  | [e] => match f e with
    | ⟨x, hx⟩ => some ⟨.cons x .nil, fun C k X o => jts_one (hx C k X o).2⟩
  | _ => none
def cLc (n : (c : Co) → CE c) (c : Co) (elt tg iter : Expr) (ifs : List Expr) (scope : Scope) : Option (LcR c elt tg iter ifs scope) :=
  match cG (c.inner scope) tg, cIfs (n (c.inner scope)) ifs, n (c.inner scope) elt, cI (n c) tg iter with
  | some ⟨t, ht⟩, some ⟨cnd, hcnd⟩, ⟨x, hx⟩, ⟨it, hit⟩ =>
    if h : lcOk c scope t iter = true then some ⟨x, t, it, cnd, fun C k X o => by
      unfold lcOk at h
      simp only [Bool.and_eq_true, decide_eq_true_eq, List.all_eq_true, List.contains_iff_mem, Bool.not_eq_true'] at h
      obtain ⟨⟨⟨h1, h2⟩, h3⟩, h4⟩ := h
      exact ⟨by rw [o.N, o.sc]; exact blkOk_by h1, h2, hit C k X o, fun s H Cc cl fp => ht C k _ (o.inner h4 s H Cc cl fp), fun s H Cc cl fp => hcnd C k _ (o.inner h4 s H Cc cl fp), fun s H Cc cl fp => (hx C k _ (o.inner h4 s H Cc cl fp)).1, fold_no h3⟩⟩ else none
  | _, _, _, _ => none

/-- a lambda that captures nothing, with parameters without defaults -/
def plPar (p : Arguments) : Bool := p.posonlyargs.isEmpty && p.vararg.isNone && p.kwonlyargs.isEmpty && p.kw_defaults.isEmpty && p.kwarg.isNone && p.defaults.isEmpty
theorem plPar_eq {p : Arguments} (h : plPar p = true) : p = { posonlyargs := [], args := p.args, vararg := none, kwonlyargs := [], kw_defaults := [], kwarg := none, defaults := [] } := by
  obtain ⟨a, b, c, d, e, f, g⟩ := p
  unfold plPar at h
  simp only [Bool.and_eq_true, List.isEmpty_iff, Option.isNone_iff_eq_none] at h
  obtain ⟨⟨⟨⟨⟨rfl, rfl⟩, rfl⟩, rfl⟩, rfl⟩, rfl⟩ := h
  rfl
def lamName (pos : Pos) : List (Nat × Nat × Str) → Option Str
  | [] => none
  | p :: r => if p.1 = pos.line ∧ p.2.1 = pos.col then some p.2.2 else lamName pos r
def cLam (c : Co) (params : Arguments) (body : Expr) (scope : Scope) (pos : Pos) : PEx c (.Lambda params body scope pos) :=
  match lamName pos c.lnames, hl : c.lam with
  | some nm, some q => if h : (plPar params && scope.names.all fun y => !decide (y.2 = .free)) = true then ⟨.lam ⟨nm, q, params, body, scope⟩, fun C k X o => by
        simp only [Bool.and_eq_true, List.all_eq_true, Bool.not_eq_true', decide_eq_false_iff_not] at h
        have j : JE X (.Lambda params body scope pos) (wE C (.lam ⟨nm, q, params, body, scope⟩)) := je_lamF (f := ⟨nm, q, params, body, scope⟩) (o.lam q hl) (by rw [plPar_eq h.1]; rfl) h.2
        exact ⟨j, jt_of j fun _ => rfl⟩⟩
    else badE c _
  | _, _ => badE c _
/-! ### expressions -/
def cE : Nat → (c : Co) → CE c
  | 0, c, e => badE c e
  | n + 1, c, e => match e with
    | .Name x pos => cName c x pos
    | .Constant k j pos => cConst c k j pos
    | .BinOp a op b pos => match cE n c a, cE n c b with
      | ⟨x, hx⟩, ⟨y, hy⟩ => ⟨.bin op x y, fun C k X o => have j : JE X _ (wE C (.bin op x y)) := je_bin (hx C k X o).1 (hy C k X o).1; ⟨j, jt_of j fun _ => rfl⟩⟩
    | .UnaryOp .USub a pos => match cE n c a with
      | ⟨x, hx⟩ => ⟨.neg x, fun C k X o => have j : JE X _ (wE C (.neg x)) := je_neg (hx C k X o).1; ⟨j, jt_of j fun _ => rfl⟩⟩
    | .UnaryOp .Not a pos => match cE n c a with
      | ⟨x, hx⟩ => ⟨.not x, fun C k X o => ⟨je_not (hx C k X o).1, jt_not (hx C k X o).2⟩⟩
    | .BoolOp op es pos => if h : es ≠ [] then match cBs (cE n c) op pos es with
        | ⟨x, hx⟩ => ⟨x, fun C k X o => ⟨(hx h C k X o).1, PW.pt (hx h C k X o).2⟩⟩
      else badE c _
    | .IfExp t a b pos => match cE n c t, cE n c a, cE n c b with
      | ⟨z, hz⟩, ⟨x, hx⟩, ⟨y, hy⟩ => ⟨.ife z x y, fun C k X o => ⟨je_ife (hz C k X o).2 (hx C k X o).1 (hy C k X o).1, jt_ife (hz C k X o).2 (hx C k X o).2 (hy C k X o).2⟩⟩
    | .Compare a [op] [b] pos => if h : behindInMarks op b = false then match cE n c a, cE n c b with
        | ⟨x, hx⟩, ⟨y, hy⟩ => ⟨.cmp op x y, fun C k X o => ⟨je_cmp o.hu h (hx C k X o).1 (hy C k X o).1, jt_cmp o.hu h (hx C k X o).1 (hy C k X o).1⟩⟩
      else badE c _
    | .Compare a [op, op'] [b, b2] pos => if h : lastMarks [op, op'] [b, b2] = false then match cE n c a, cE n c b, cE n c b2 with
        | ⟨x, hx⟩, ⟨y, hy⟩, ⟨z, hz⟩ => ⟨.chn op op' x y z, fun C k X o => ⟨je_chn o.hu h (hx C k X o).1 (hy C k X o).1 (hz C k X o).1, jt_chn o.hu h (hx C k X o).1 (hy C k X o).1 (hz C k X o).1⟩⟩
      else badE c _
    | .Call (.Name x p) [.Call (.Attribute o m apos) [] [] ipos] [] pos => if h : (((decide (x = "list") && decide (m = "items")) && glB c.sc "list") && (plainBase o && (apos.endLine == ipos.line))) = true then match cE n c o with
        | ⟨a, ha⟩ => ⟨.itl a, fun C k X oo => by
            simp only [Bool.and_eq_true, decide_eq_true_eq] at h
            obtain ⟨⟨⟨h1, h2⟩, h3⟩, h4, h5⟩ := h
            subst h1 h2
            have j : JE X (.Call (.Name "list" p) [.Call (.Attribute o "items" apos) [] [] ipos] [] pos) (wE C (.itl a)) := je_itl oo.calm (oo.gl (glB_ok h3)) (oo.bl "list" (by decide +kernel)) (ha C k X oo).1 (base_plain h4) h5
            exact ⟨j, jt_of j fun _ => rfl⟩⟩
      else cCallN (cE n c) x p [.Call (.Attribute o m apos) [] [] ipos] pos
    | .Call (.Name x p) [.Lambda params body scope lpos] [] pos => cMet (cE n) c x p params body scope lpos pos
    | .Call (.Name x p) es [] pos => cCallN (cE n c) x p es pos
    | .Call (.Attribute o m apos) es [] pos => cCallM (cE n c) o m apos es pos
    | .Call (.Name x p) [] (kw :: kws) pos => cCallK (cE n c) x p (kw :: kws) pos
    | .Subscript a b pos => cSub (cE n c) a b pos
    | .List es pos => if h : (noStars es && decide (es.length ≤ 1000)) = true then match cA (cE n c) es with
        | ⟨xs, hxs⟩ => ⟨.lst xs, fun C k X o => by
            rw [Bool.and_eq_true, decide_eq_true_eq] at h
            have j : JE X (.List es pos) (wE C (.lst xs)) := je_lst h.2 (hxs h.1 C k X o)
            exact ⟨j, jt_of j fun _ => rfl⟩⟩
      else badE c _
    | .Tuple es m pos => if h : (noStars es && decide (es.length ≤ 1000)) = true then match cA (cE n c) es with
        | ⟨xs, hxs⟩ => ⟨.tup xs, fun C k X o => by
            rw [Bool.and_eq_true, decide_eq_true_eq] at h
            have j : JE X (.Tuple es m pos) (wE C (.tup xs)) := je_tup h.2 (hxs h.1 C k X o)
            exact ⟨j, jt_of j fun _ => rfl⟩⟩
      else badE c _
    | .Lambda params body scope pos => cLam c params body scope pos
    | .Dict [] [] pos => ⟨.dct, fun C k X o => have j : JE X (.Dict [] [] pos) (wE C .dct) := je_dct (C := C); ⟨j, jt_of j fun _ => rfl⟩⟩
    | .ListComp elt [⟨tg, iter, ifs, 0⟩] scope pos => match cLc (cE n) c elt tg iter ifs scope with
      | some L => ⟨.lc L.x L.t L.it L.cnd ((ownOf c scope).map (·.2)), fun C k X o => by
          have j : JE X (.ListComp elt [⟨tg, iter, ifs, 0⟩] scope pos) (wE C (.lc L.x L.t L.it L.cnd ((ownOf c scope).map (·.2)))) := (L.ok C k X o).val o.calm (by rw [o.N]; exact o.nd)
          exact ⟨j, jt_of j fun _ => rfl⟩⟩
      | none => badE c _
    | e => badE c e

/-! ### statements -/
abbrev SndS (c : Co) (st : Stmt) (x : Sx) : Prop := ∀ C k X, CoOk C k c X → JS X st (wS C x)
abbrev PSx (c : Co) (st : Stmt) := {x : Sx // SndS c st x}
abbrev PSxs (c : Co) (st : List Stmt) := {x : Sxs // ∀ C k X, CoOk C k c X → JSs X st (wSs C x)}
def badS (c : Co) (st : Stmt) : PSx c st := ⟨.bad, fun _ _ _ _ => js_bad⟩
def namesIn (sc : Scope) (line : Nat) (ts : List Expr) : List Str := ts.filterMap fun
  | .Name id pos => if sc.names.lookup id == some .local && pos.line == line then some id else none
  | _ => none
def anyStar (vs : List Expr) : Bool := vs.any fun | .Starred .. => true | _ => false
/-- whether the stores of «ts = vs» are swapped: some names, none, or not said -/
def swapB (sc : Scope) (ts vs : List Expr) : Option (Option (List Str)) :=
  if (!(ts.length == 2 || ts.length == 3) || vs.length != ts.length) = true then some none
  else if anyStar vs = true then some none
  else
    let names := namesIn sc ((ts.head?.map (·.pos.line)).getD 0) ts
    if (names.length != ts.length || names.eraseDups.length != names.length) = true then some none
    else if vs.all (foldedForSure 8) = true then some none
    else if vs.all (constantsAlone 8) = true then none
    else some (some names)
theorem swapB_ok {env : PySem.Env} {ts vs : List Expr} {kt kv : Nat} {pt pv : Pos} {r : Option (List Str)} (hk : env.scope.kind = .function) (h : swapB env.scope ts vs = some r) : swappedStores [.Tuple ts kt pt] (.Tuple vs kv pv) env = pure r := by
  have hb : env.blockKind = .function := by unfold Env.blockKind; rw [hk]; rfl
  unfold swapB at h
  unfold swappedStores
  simp only [hb, bne_self_eq_false, Bool.or_false]
  have en : ∀ line, (ts.filterMap fun
    | .Name id pos => if env.kindOf id == some .local && pos.line == line then some id else none
    | _ => none) = namesIn env.scope line ts := fun line => rfl
  have es : (vs.any fun | .Starred .. => true | _ => false) = anyStar vs := rfl
  split at h
  · rename_i c; cases h; exact if_pos c
  · rename_i c
    refine (if_neg c).trans ?_
    split at h
    · rename_i c2; cases h; exact if_pos c2
    · rename_i c2
      refine (if_neg c2).trans ?_
      simp only at h
      split at h
      · rename_i c3; cases h; exact if_pos c3
      · rename_i c3
        refine (if_neg c3).trans ?_
        split at h
        · rename_i c4; cases h; exact if_pos c4
        · rename_i c4
          refine (if_neg c4).trans ?_
          split at h
          · cases h
          · rename_i c5
            cases h
            exact if_neg c5
end KM
/-! KMM: statements, defs made over; the table. -/
namespace KM
open PySem PySem.Spec PyProof.Rows L2 LamX

def isTupE : Expr → Bool
  | .Tuple .. => true
  | _ => false
theorem sw_none {e : Expr} (h : isTupE e = false) {ts : List Expr} {k : Nat} {p : Pos} {env : PySem.Env} : swappedStores [.Tuple ts k p] e env = pure none := by
  cases e <;> first | rfl | cases h
theorem sw_sub {o i e : Expr} {p : Pos} {env : PySem.Env} : swappedStores [.Subscript o i p] e env = pure none := by
  cases e <;> rfl
/-- whether a comprehension's store is swapped with what it lets go -/
def swLc (sc scope : Scope) (y : Str) (py pos : Pos) : Bool :=
  sc.names.lookup y == some .local && py.line == pos.line && !(scope.names.any fun (n, k) => n == y && (k == .local || k == .cell))
theorem swLc_ok {elt : Expr} {gs : List Comprehension} {scope : Scope} {pos py : Pos} {y : Str} {l : Nat} {env : PySem.Env} (hk : env.scope.kind = .function) :
    swapsWith (.ListComp elt gs scope pos) (some (.Name y py)) l env = pure (swLc env.scope scope y py pos) := by
  have hb : env.blockKind = .function := by unfold Env.blockKind; rw [hk]; rfl
  unfold swapsWith swLc
  simp only [hb]
  rfl
def cAsg (n : (c : Co) → CE c) (c : Co) (tg e : Expr) (pos : Pos) : PSx c (.Assign [tg] e pos) :=
  match tg with
  | .Name y p =>
    if h : (decide (c.N[c.N.idxOf y]? = some y) && locB c y) = true then
      match e with
      | .ListComp elt [⟨tg2, iter, ifs, 0⟩] scope pos2 => (match cLc n c elt tg2 iter ifs scope with
        | some L => if hs : swLc c.sc scope y p pos2 = true then ⟨.asg (.nm (c.N.idxOf y)) (.lc L.x L.t L.it L.cnd ((ownOf c scope).map (·.2))), fun C k X o => by
              simp only [Bool.and_eq_true, decide_eq_true_eq] at h
              have hl : X.env.scope.names.lookup y = some .local := by
                unfold swLc at hs
                simp only [Bool.and_eq_true, beq_iff_eq] at hs
                rw [o.sc]; exact hs.1.1
              exact (L.ok C k X o).set o.calm (by rw [o.N]; exact o.nd) (by rw [o.N]; exact h.1) hl (by rw [swLc_ok (by rw [o.sc]; exact o.kind), o.sc, hs])⟩
            else ⟨.asg (.nm (c.N.idxOf y)) (.lc L.x L.t L.it L.cnd ((ownOf c scope).map (·.2))), fun C k X o => by
              simp only [Bool.and_eq_true, decide_eq_true_eq] at h
              obtain ⟨l, g⟩ := locB_ok o h.2
              have j : JE X (.ListComp elt [⟨tg2, iter, ifs, 0⟩] scope pos2) (wE C (.lc L.x L.t L.it L.cnd ((ownOf c scope).map (·.2)))) := (L.ok C k X o).val o.calm (by rw [o.N]; exact o.nd)
              exact js_set (by rw [o.N]; exact o.nd) (by rw [o.N]; exact h.1) l g j (by rw [swLc_ok (by rw [o.sc]; exact o.kind), o.sc]; simp only [Bool.not_eq_true] at hs; rw [hs])⟩
        | none => badS c _)
      | e => if hc : isComp e = false then match n c e with
          | ⟨x, hx⟩ => ⟨.asg (.nm (c.N.idxOf y)) x, fun C k X o => by
              simp only [Bool.and_eq_true, decide_eq_true_eq] at h
              obtain ⟨l, g⟩ := locB_ok o h.2
              exact js_set (by rw [o.N]; exact o.nd) (by rw [o.N]; exact h.1) l g (hx C k X o).1 (swap_no hc)⟩
        else badS c _
    else badS c _
  | .Tuple ts kt pt => (match e with
    | .Tuple vs kv pv => (match hw : swapB c.sc ts vs with
      | some none => (match cG c (.Tuple ts kt pt), n c (.Tuple vs kv pv) with
        | some ⟨t, ht⟩, ⟨x, hx⟩ => ⟨.asg t x, fun C k X o => js_asg (hx C k X o).1 (ht C k X o) rfl (swapB_ok (by rw [o.sc]; exact o.kind) (by rw [o.sc]; exact hw)) rfl⟩
        | none, _ => badS c _)
      | some (some [y, z]) => (match ts, vs with
        | [.Name y' py, .Name z' pz], [a, b] => if h : (decide (y' = y) && decide (z' = z) && decide (c.N[c.N.idxOf y]? = some y) && decide (c.N[c.N.idxOf z]? = some z) && decide (c.N.idxOf y ≠ c.N.idxOf z) && decide (c.sc.names.lookup y = some .local) && decide (c.sc.names.lookup z = some .local) && noStars [a, b]) = true then
            match cA (n c) [a, b] with
            | ⟨xs, hxs⟩ => ⟨.par [c.N.idxOf y, c.N.idxOf z] xs, fun C k X o => by
                simp only [Bool.and_eq_true, decide_eq_true_eq] at h
                obtain ⟨⟨⟨⟨⟨⟨⟨rfl, rfl⟩, h1⟩, h2⟩, h3⟩, h4⟩, h5⟩, h6⟩ := h
                exact js_par o.calm (by rw [o.N]; exact o.nd) (by rw [o.N]; exact h1) (by rw [o.N]; exact h2) h3 (by rw [o.sc]; exact h4) (by rw [o.sc]; exact h5) (hxs h6 C k X o) (swapB_ok (by rw [o.sc]; exact o.kind) (by rw [o.sc]; exact hw))⟩
          else badS c _
        | _, _ => badS c _)
      | some (some [y, z, w]) => (match ts, vs with
        | [.Name y' py, .Name z' pz, .Name w' pw], [a, b, d] => if h : (decide (y' = y) && decide (z' = z) && decide (w' = w) && decide (c.N[c.N.idxOf y]? = some y) && decide (c.N[c.N.idxOf z]? = some z) && decide (c.N[c.N.idxOf w]? = some w) && decide (c.N.idxOf y ≠ c.N.idxOf z) && decide (c.N.idxOf y ≠ c.N.idxOf w) && decide (c.N.idxOf z ≠ c.N.idxOf w) && decide (c.sc.names.lookup y = some .local) && decide (c.sc.names.lookup z = some .local) && decide (c.sc.names.lookup w = some .local) && noStars [a, b, d]) = true then
            match cA (n c) [a, b, d] with
            | ⟨xs, hxs⟩ => ⟨.par [c.N.idxOf y, c.N.idxOf z, c.N.idxOf w] xs, fun C k X o => by
                simp only [Bool.and_eq_true, decide_eq_true_eq] at h
                obtain ⟨⟨⟨⟨⟨⟨⟨⟨⟨⟨⟨⟨rfl, rfl⟩, rfl⟩, h1⟩, h2⟩, h3⟩, h4⟩, h5⟩, h6⟩, h7⟩, h8⟩, h9⟩, h10⟩ := h
                exact js_par3 o.calm (by rw [o.N]; exact o.nd) (by rw [o.N]; exact h1) (by rw [o.N]; exact h2) (by rw [o.N]; exact h3) h4 h5 h6 (by rw [o.sc]; exact h7) (by rw [o.sc]; exact h8) (by rw [o.sc]; exact h9) (hxs h10 C k X o) (swapB_ok (by rw [o.sc]; exact o.kind) (by rw [o.sc]; exact hw))⟩
          else badS c _
        | _, _ => badS c _)
      | _ => badS c _)
    | e => if h : (isTupE e = false ∧ isComp e = false) then match cG c (.Tuple ts kt pt), n c e with
        | some ⟨t, ht⟩, ⟨x, hx⟩ => ⟨.asg t x, fun C k X o => js_asg (hx C k X o).1 (ht C k X o) h.2 (sw_none h.1) rfl⟩
        | none, _ => badS c _
      else badS c _)
  | .Subscript o i p => if h : (isSlice i = false ∧ isComp e = false) then match n c o, n c i, n c e with
      | ⟨x, hx⟩, ⟨y, hy⟩, ⟨z, hz⟩ => ⟨.setix x y z, fun C k X ok => js_setix (hx C k X ok).1 (hy C k X ok).1 (hz C k X ok).1 h.1 h.2 sw_sub⟩
    else badS c _
  | tg => badS c _
def cSs {c : Co} (f : (st : Stmt) → PSx c st) : (sts : List Stmt) → PSxs c sts
  | [] => ⟨.nil, fun _ _ _ _ => jss_nil⟩
  | st :: r => match f st, cSs f r with
    | ⟨x, hx⟩, ⟨xs, hxs⟩ => ⟨.cons x xs, fun C k X o => jss_cons (hx C k X o) (hxs C k X o)⟩
def cRaise (n : (c : Co) → CE c) (c : Co) (x : Str) (p : Pos) (a : Expr) (pos pos2 : Pos) : PSx c (.Raise (some (.Call (.Name x p) [a] [] pos)) none pos2) :=
  match hc : findC x c.cons with
  | some q => (match he : isErr q.2 with
    | some f => if g : ((glB c.sc x && nfB x) && noStars [a]) = true then match n c a with
        | ⟨e, hx⟩ => ⟨.rais x f e, fun C k X o => by
            rw [Bool.and_eq_true, Bool.and_eq_true] at g
            obtain ⟨q1, q2⟩ := findC_ok hc
            have er := (o.cons q q1).err he
            rw [q2] at er
            exact js_rais o.calm er (nfB_ok g.1.2).1 o.room (o.gl (glB_ok g.1.1)) (hx C k X o).1 (star_cons (noStars_cons g.2).1)⟩
      else badS c _
    | none => badS c _)
  | none => badS c _
def cRais0 (c : Co) (x : Str) (p : Pos) (pos pos2 : Pos) : PSx c (.Raise (some (.Call (.Name x p) [] [] pos)) none pos2) :=
  match hc : findC x c.cons with
  | some q => if g : ((glB c.sc x && nfB x) && ((isErr q.2).isNone && isEr0 q.2)) = true then ⟨.rai0 x, fun C k X o => by
      simp only [Bool.and_eq_true] at g
      obtain ⟨⟨g1, g2⟩, g3, g4⟩ := g
      obtain ⟨q1, q2⟩ := findC_ok hc
      have er := (o.cons q q1).er0 (Option.isNone_iff_eq_none.mp g3) g4
      rw [q2] at er
      exact js_rai0 o.calm er (nfB_ok g2).1 (o.gl (glB_ok g1))⟩
    else badS c _
  | none => badS c _
def cS (d : Nat) : Nat → (c : Co) → (st : Stmt) → PSx c st
  | 0, c, st => badS c st
  | n + 1, c, st => match st with
    | .Expr e pos => if h : isComp e = false then match cE d c e with
        | ⟨x, hx⟩ => ⟨.expr x, fun C k X o => js_expr (hx C k X o).1 h⟩
      else badS c _
    | .Return none pos => ⟨.retN, fun C k X o => js_retN⟩
    | .Return (some e) pos => match cE d c e with
      | ⟨x, hx⟩ => ⟨.ret x, fun C k X o => js_ret (hx C k X o).1⟩
    | .Assign [tg] e pos => cAsg (cE d) c tg e pos
    | .If t a b pos => match cE d c t, cSs (cS d n c) a, cSs (cS d n c) b with
      | ⟨x, hx⟩, ⟨y, hy⟩, ⟨z, hz⟩ => ⟨.ife x y z, fun C k X o => js_ife (hx C k X o).2 (hy C k X o) (hz C k X o)⟩
    | .While t b [] pos => match cE d c t, cSs (cS d n c) b with
      | ⟨x, hx⟩, ⟨y, hy⟩ => ⟨.whil x y, fun C k X o => js_whil o.po (hx C k X o).2 (hy C k X o)⟩
    | .For tg it b [] pos => if h : isSet it = false then match cG c tg, cI (cE d c) tg it, cSs (cS d n c) b with
        | some ⟨t, ht⟩, ⟨i, hi⟩, ⟨y, hy⟩ => ⟨.forr t i y, fun C k X o => js_forr o.po o.calm (hi C k X o) (ht C k X o) (hy C k X o) (fold_no h)⟩
        | none, _, _ => badS c _
      else badS c _
    | .Raise (some (.Call (.Name x p) [] [] pos)) none pos2 => cRais0 c x p pos pos2
    | .Raise (some (.Call (.Name x p) [a] [] pos)) none pos2 => cRaise (cE d) c x p a pos pos2
    | .Pass pos => ⟨.pass, fun C k X o => js_pass⟩
    | .Break pos => ⟨.brk, fun C k X o => js_brk⟩
    | .Continue pos => ⟨.cont, fun C k X o => js_cont⟩
    | st => badS c st

/-! ### defs -/
def scopeB (N ps : List Str) (sc : Scope) : Bool :=
  decide (sc.kind = .function) && !sc.isCoroutine && !sc.isGenerator && decide N.Nodup && decide (N.take ps.length = ps) && (ps.all fun x => decide (sc.names.lookup x = some .local) || decide (sc.names.lookup x = some .cell)) && (sc.names.all fun y => decide (y.2 ≠ .free))
theorem scopeB_ok {N ps : List Str} {sc : Scope} (h : scopeB N ps sc = true) : FnScope N ps sc := by
  unfold scopeB at h
  simp only [Bool.and_eq_true, decide_eq_true_eq, List.all_eq_true, Bool.or_eq_true, Bool.not_eq_true'] at h
  obtain ⟨⟨⟨⟨⟨⟨h1, h2⟩, h3⟩, h4⟩, h5⟩, h6⟩, h7⟩ := h
  exact ⟨h1, h2, h3, h4, h5, h6, h7⟩
def mkCo (fns : List Str) (kcs : List KC) (cons : List Cn) (mets : List (Str × List Hd)) (lam : Option Str) (lams : List Lam) (lnames : List (Nat × Nat × Str)) (N : List Str) (sc : Scope) : Co := { N := N, sc := sc, blk := none, fns := fns, kcs := kcs, cons := cons, mets := mets, lam := lam, lams := lams, lnames := lnames }
/-- a def's body made over -/
def cF (fns : List Str) (kcs : List KC) (cons : List Cn) (mets : List (Str × List Hd)) (lam : Option Str) (lams : List Lam) (lnames : List (Nat × Nat × Str)) (N : List Str) (st : Stmt) : Sxs := (cSs (cS 40 20 (mkCo fns kcs cons mets lam lams lnames N (defScope st))) (defBody st)).1
/-- a lambda's body made over -/
def cFL (fns : List Str) (kcs : List KC) (cons : List Cn) (mets : List (Str × List Hd)) (lams : List Lam) (lnames : List (Nat × Nat × Str)) (ps : List Str) (f : Lam) : Ex := (cE 40 (mkCo fns kcs cons mets none lams lnames ps f.scope) f.body).1
section
variable {P : Program} {w : World} {K : PySem.W.Frag} {mg : Str → Option Value} {base : Heap}
/-- the slots at the entry -/
theorem start_rvo {h : Hep} {H : Hp} {N : List Str} {vs : List Val} {us : List V} (r : RVs K H vs us) : RVo K H (startE N.length vs) (L2.start N us) := by
  have lr := r.length
  refine ⟨?_, fun i v e => ?_⟩
  · unfold startE L2.start
    rw [List.length_append, List.length_append, List.length_map, List.length_map, List.length_replicate, List.length_replicate, lr]
  · unfold startE at e
    unfold L2.start
    by_cases hi : i < vs.length
    · rw [List.getElem?_append_left (by simpa using hi), List.getElem?_map] at e
      cases z : vs[i]? with
      | none => rw [z] at e; cases e
      | some y =>
        rw [z] at e
        cases e
        obtain ⟨u, h1, h2⟩ := r.get z
        refine ⟨u, ?_, h2⟩
        rw [List.getElem?_append_left (by rw [List.length_map, lr]; exact hi), List.getElem?_map, h1]
        rfl
    · rw [List.getElem?_append_right (by simpa using hi), List.getElem?_replicate] at e
      split at e <;> cases e
theorem fok_succ' {T : Str → Option Fc} {k : Nat} {f : Str} {st : Stmt} {N ps fns : List Str} {kcs : List KC} {cons : List Cn} {mets : List (Str × List Hd)} {lam : Option Str} {lams : List Lam} {lnames : List (Nat × Nat × Str)} {a : Addr} {fd : FuncData} {code : Fc} (hm : mg f = some (.ref a)) (F : FunD K f f (defArgs st) (defBody st) (defScope st) [] [] a fd)
    (hT : T f = some code) (hc : cF fns kcs cons mets lam lams lnames N st = code.body) (hp : code.params = ps.length) (hs : code.slots = N.length) (S : scopeB N ps (defScope st) = true)
    (hbl : ∀ x, isBN x = true → mg x = none) (ih : ∀ g ∈ fns, FOk' P w K mg base (Calls T k) k g) (ihk : ∀ q ∈ kcs, FKOk' P w K mg base (Calls T k) k q) (hcn : ∀ p ∈ cons, ConK K mg p) (hmt : ∀ m ∈ mets, MetOk K mg m) (hls : ∀ f ∈ lams, LFn P w K mg base (Calls T k) k f)
    (hlm : ∀ q, lam = some q → (f ++ ".<locals>.") ++ "<lambda>" = q ∧ ∃ c P, fd.code = .ref c ∧ TabB base mg c P ∧ ∀ h Q E, Calls T k q [] h Q E → 1 ≤ k ∧ ∃ h', Sub h' h ∧ Q (.ref P) h') : FnOk P w K mg base (CX P w) (k + 1) a fd ps (spC K mg (Calls T (k + 1)) f) := by
  have len : ∀ vs H Q E, spC K mg (Calls T (k + 1)) f vs H Q E → vs.length = ps.length := fun us H Q' E' ⟨vs, h, Q, E, sm, r, c, _, _⟩ => by
    rw [Calls_succ hT] at c
    rw [r.length, c.1, hp]
  have S0 := scopeB_ok S
  obtain ⟨oc, od, dV, kV, doc, pm, an, cdv, ct, osl, efd, lk, hcd, _, _⟩ := F.ex
  subst efd
  refine ⟨len, fun A outer s H args xs us Q' E' hr1 e0 hbd rvs sp => run_ofS (N := N) lk hcd S0 hr1 e0 hbd rvs (len _ _ _ _ sp) fun hr => ?_⟩
  obtain ⟨vs, h, Q, E, sm, r, c, k1, k2⟩ := sp
  rw [Calls_succ hT] at c
  obtain ⟨c1, c⟩ := c
  have S' := scopeB_ok S
  let X : Cx := cxOf (L2.CX P w) P w K mg base N f (defScope st) a cdv A outer s H E'
  have hlo : ∀ q, lam = some q → LamOk (Calls T k) k q X := fun q eq => by
    obtain ⟨e1, c0, P0, e2, e3, e4⟩ := hlm q eq
    have e5 : X.env.qual = f ++ ".<locals>." := rfl
    have e6 : X.env.code = cdv := rfl
    have e7 : cdv = .ref c0 := e2
    have e8 : RoomS k X.A := RoomS.of hr1 (envOfC f (defScope st) s.heap.objs.size a cdv)
    unfold LamOk
    rw [e5, e6]
    exact ⟨e8, e1, c0, P0, e7, e3, e4⟩
  have o : CoOk (Calls T k) k (mkCo fns kcs cons mets lam lams lnames N (defScope st)) X := ⟨ih, ihk, hr, rfl, rfl, S'.nd, rfl, S'.kind, fun _ _ => rfl, passes_of (X := X) (K := fun e s'' => L2.CX P w outer H s E' e s'') (E₁ := fun e' s'' => L2.CX P w outer H s E' e' s'') rfl, hbl, hcn, hmt, hlo, hls⟩
  have j := (cSs (cS 40 20 (mkCo fns kcs cons mets lam lams lnames N (defScope st))) (defBody st)).2 (Calls T k) k X o
  refine ⟨_, j, ?_⟩
  have tk : Takes X (fun cls d _ H' => E' cls d H') := takes_of (X := X) (E := E') rfl rfl rfl (E₁ := fun e' s'' => L2.CX P w outer H s E' e' s'') rfl
  refine ⟨startE code.slots vs, h, { nx := fun _ h1 => Dr h1 (Q .non), rt := fun v h1 => Dr h1 (Q v), bk := fun _ _ => False, ct := fun _ _ => False }, fun x _ h1 => Dr h1 (E x), Takes.imp tk fun cls d σ' H' ⟨env', ex, h', g, s', rv', rx, h2, sb, q⟩ => k2 _ _ _ ⟨ex, h2, g.sub sb, s'.sub sb, rx, q⟩, sm, ?_, ?_, ⟨fun σ' H' ⟨e1, h1, g1, s1, r1, h2, sb, q1⟩ => k1 _ _ ⟨.non, h2, g1.sub sb, s1.sub sb, rfl, q1⟩, fun u H' ⟨v, h1, g1, s1, r1, h2, sb, q1⟩ => k1 _ _ ⟨v, h2, g1.sub sb, s1.sub sb, r1, q1⟩, fun _ _ ⟨_, _, _, _, _, z⟩ => z.elim, fun _ _ ⟨_, _, _, _, _, z⟩ => z.elim⟩⟩
  · rw [hs]
    exact start_rvo (h := h) r
  · show wSs (Calls T k) (cF fns kcs cons mets lam lams lnames N st) (startE code.slots vs) h _ _
    rw [hc]
    exact c
/-- a lambda that captures nothing, by its body -/
theorem lfn_succ {T : Str → Option Fc} {k : Nat} {f : Lam} {ps fns : List Str} {kcs : List KC} {cons : List Cn} {mets : List (Str × List Hd)} {lams : List Lam} {lnames : List (Nat × Nat × Str)} {code : Ex}
    (hT : T f.nm = some ⟨ps.length, ps.length, .cons (.ret code) .nil⟩) (hc : cFL fns kcs cons mets lams lnames ps f = code) (S : scopeB ps ps f.scope = true)
    (hb : ∀ (pm cdv ctv : Value) (us : List Value), us.length = ps.length → bindArgs (PySem.W.kla_fn "<lambda>" f.q f.params f.body f.scope [] pm cdv ctv) ⟨us, []⟩ = pure (ps.zip us))
    (hbl : ∀ x, isBN x = true → mg x = none) (ih : ∀ g ∈ fns, FOk' P w K mg base (Calls T k) k g) (ihk : ∀ q ∈ kcs, FKOk' P w K mg base (Calls T k) k q) (hcn : ∀ p ∈ cons, ConK K mg p) (hmt : ∀ m ∈ mets, MetOk K mg m) (hls : ∀ f ∈ lams, LFn P w K mg base (Calls T k) k f) :
    LFn P w K mg base (Calls T (k + 1)) (k + 1) f := by
  intro A outer s H us vs Q E p c' hr e0 hf hco rvs sp
  obtain ⟨vals, h, Qv, Ev, sm, r, c, k1, k2⟩ := sp
  rw [Calls_succ hT] at c
  obtain ⟨c1, c⟩ := c
  have c : wE (Calls T k) code (startE ps.length vals) h (fun v h1 => Dr h1 (Qv v)) (fun x h1 => Dr h1 (Ev x)) := c
  have S' := scopeB_ok S
  have hl : vs.length = ps.length := by rw [r.length]; exact c1
  have hlu : us.length = ps.length := by rw [← rvs.length]; exact hl
  obtain ⟨⟨pm, ctv, hp⟩, _, _⟩ := e0.hok p _ hf
  obtain ⟨⟨oc, vs', t, hoc, hdc, hvc⟩, _, _⟩ := e0.hok c' _ hco
  have lim : s.heap.NoLimit := e0.mod.nolimit.keeps fun b o e => (e0.bs b o e).1
  have hkind : ∀ y ∈ ps.zip us, f.scope.names.lookup y.1 = some .local ∨ (f.scope.names.lookup y.1 = some .cell ∧ ((cellsFrom (s.heap.objs.size + 1) f.scope.names []).lookup y.1).isSome = true) := fun ⟨n, v⟩ hy => by
    rcases S'.par n (List.of_mem_zip hy).1 with q | q
    · exact .inl q
    · exact .inr ⟨q, PySem.W.cellsFrom_some _ _ _ (.inl q)⟩
  refine PySem.W.kla_callFunE hr.depth hp rfl S'.co S'.gen rfl ⟨c', oc, vs', t, rfl, hoc, hdc, hvc⟩ ?_
  rw [hb pm (.ref c') ctv us hlu]
  refine wpAny_pure (wpAny_newFunctionEnv_cells S'.kind hkind fun env he s1 x => ?_)
  subst he
  refine ⟨lim.keeps x.toInCall.keep, ?_⟩
  let X : Cx := cxOf (L2.CX P w) P w K mg base ps f.q f.scope p (.ref c') A outer s H E
  have I : Inv X [] (L2.start ps vs) H s1 := inv_start S' hr.hd e0 hl rvs x
  have o : CoOk (Calls T k) k (mkCo fns kcs cons mets none lams lnames ps f.scope) X := ⟨ih, ihk, hr.deeper _, rfl, rfl, S'.nd, rfl, S'.kind, fun _ _ => rfl, passes_of (X := X) (K := fun e s'' => L2.CX P w outer H s E e s'') (E₁ := fun e' s'' => L2.CX P w outer H s E e' s'') rfl, hbl, hcn, hmt, fun _ z => (by cases z), hls⟩
  have j := ((cE 40 (mkCo fns kcs cons mets none lams lnames ps f.scope) f.body).2 (Calls T k) k X o).1
  have tk : Takes X (fun cls d _ H' => E cls d H') := takes_of (X := X) (E := E) rfl rfl rfl (E₁ := fun e' s'' => L2.CX P w outer H s E e' s'') rfl
  have c' : wE (Calls T k) (cFL fns kcs cons mets lams lnames ps f) (startE ps.length vals) h (fun v h1 => Dr h1 (Qv v)) (fun x h1 => Dr h1 (Ev x)) := by rw [hc]; exact c
  refine PySem.W.kla_codeExpr (wpAny_mono (j.run [] s1 _ H Q I ⟨startE ps.length vals, h, fun v h1 => Dr h1 (Qv v), fun x h1 => Dr h1 (Ev x), Takes.imp tk fun cls d σ' H' ⟨_, ex, h', g, s', rx, h2, sb, q⟩ => k2 _ _ _ ⟨ex, h2, g.sub sb, s'.sub sb, rx, q⟩, sm, start_rvo (h := h) r, c',
    fun u H' ⟨v, h1, g1, s1, r1, h2, sb, q1⟩ => k1 _ _ ⟨v, h2, g1.sub sb, s1.sub sb, r1, q1⟩⟩) (fun v s' hq => ?_) fun e s' hq => hq)
  obtain ⟨w', H', J', rv, q⟩ := hq
  exact ⟨w', H', J'.os, J'.bare, J'.base, J'.hok, rv, q⟩
end
end KM
/-! KMN: a table of defs; from the law's want to the row. -/
namespace KM
open PySem PySem.Spec PyProof.Rows L2 LamX

structure Ent where
  f : Str
  st : Stmt
  N : List Str
  ps : List Str
  code : Sxs
  /-- whether it makes lambdas -/
  lam : Bool := false
/-- the name of the code objects of its lambdas -/
def Ent.q (e : Ent) : Str := (e.f ++ ".<locals>.") ++ "<lambda>"
def Ent.lamQ (e : Ent) : Option Str := if e.lam = true then some e.q else none
/-- a lambda that captures nothing, its parameters, its body's code -/
structure LEnt where
  f : Lam
  ps : List Str
  code : Ex
def LEnt.fc (le : LEnt) : Fc := ⟨le.ps.length, le.ps.length, .cons (.ret le.code) .nil⟩
def AllP {α : Type} (P : α → Prop) : List α → Prop
  | [] => True
  | x :: r => P x ∧ AllP P r
theorem AllP.mem {α : Type} {P : α → Prop} : ∀ {l : List α}, AllP P l → ∀ x ∈ l, P x
  | _ :: _, ⟨a, b⟩, x, h => by
    rcases List.mem_cons.mp h with rfl | h
    · exact a
    · exact AllP.mem b x h
def tblOf (tb : List Ent) (f : Str) : Option Fc := (tb.find? fun e => decide (e.f = f)).map fun e => ⟨e.ps.length, e.N.length, e.code⟩
/-- .. and the tables of code objects, by their names -/
def tabFc (P : Addr) : Fc := ⟨0, 0, .cons (.ret (.con (.ref P))) .nil⟩
def tblT (tabs : List (Str × Addr)) (lfs : List LEnt) (tb : List Ent) (f : Str) : Option Fc := match tblOf tb f with
  | some c => some c
  | none => (match lfs.find? fun le => decide (le.f.nm = f) with
    | some le => some le.fc
    | none => (tabs.lookup f).map tabFc)
theorem tblT_of {tabs : List (Str × Addr)} {lfs : List LEnt} {tb : List Ent} {f : Str} {c : Fc} (h : tblOf tb f = some c) : tblT tabs lfs tb f = some c := by
  unfold tblT
  rw [h]
theorem find_le {lfs : List LEnt} (nd : (lfs.map (·.f.nm)).Nodup) {le : LEnt} (h : le ∈ lfs) : lfs.find? (fun r => decide (r.f.nm = le.f.nm)) = some le := by
  induction lfs with
  | nil => cases h
  | cons r t ih =>
    rw [List.map_cons, List.nodup_cons] at nd
    rcases List.mem_cons.mp h with rfl | h
    · rw [List.find?_cons]
      simp
    · have ne : ¬ r.f.nm = le.f.nm := fun z => nd.1 (by rw [z]; exact List.mem_map.mpr ⟨le, h, rfl⟩)
      rw [List.find?_cons]
      simp only [ne, decide_false]
      exact ih nd.2 h
theorem tabCall {T : Str → Option Fc} {k : Nat} {q : Str} {P : Addr} (h : T q = some (tabFc P)) : ∀ h Q E, Calls T k q [] h Q E → 1 ≤ k ∧ ∃ h', Sub h' h ∧ Q (.ref P) h' := by
  intro h' Q E c
  cases k with
  | zero => exact (Calls_zero c).elim
  | succ k =>
    rw [Calls_succ h] at c
    exact ⟨Nat.succ_le_succ (Nat.zero_le _), c.2⟩
/-- what is checked of a def's entry -/
structure EntOk (fns : List Str) (kcs : List KC) (cons : List Cn) (mets : List (Str × List Hd)) (lams : List Lam) (lnames : List (Nat × Nat × Str)) (T : Str → Option Fc) (e : Ent) : Prop where
  code : cF fns kcs cons mets e.lamQ lams lnames e.N e.st = e.code
  scope : scopeB e.N e.ps (defScope e.st) = true
  tbl : T e.f = some ⟨e.ps.length, e.N.length, e.code⟩
  bind : ∀ (kV doc pm : Value) (an : Option Addr) (cdv ct : Value) (us : List Value), us.length = e.ps.length → bindArgs (PySem.W.fnOf e.f e.f (defArgs e.st) (defBody e.st) (defScope e.st) .none kV doc pm an cdv ct) ⟨us, []⟩ = pure (e.ps.zip us)
/-- .. of a lambda that captures nothing -/
structure LEntOk (fns : List Str) (kcs : List KC) (cons : List Cn) (mets : List (Str × List Hd)) (lams : List Lam) (lnames : List (Nat × Nat × Str)) (le : LEnt) : Prop where
  code : cFL fns kcs cons mets lams lnames le.ps le.f = le.code
  scope : scopeB le.ps le.ps le.f.scope = true
  bind : ∀ (pm cdv ctv : Value) (us : List Value), us.length = le.ps.length → bindArgs (PySem.W.kla_fn "<lambda>" le.f.q le.f.params le.f.body le.f.scope [] pm cdv ctv) ⟨us, []⟩ = pure (le.ps.zip us)
/-- .. of a call by keywords -/
def KcOk (tb : List Ent) (q : KC) : Prop := ∃ e ∈ tb, e.f = q.f ∧ ∀ (kV doc pm : Value) (an : Option Addr) (cdv ct : Value) (ws : List Value), ws.length = q.ks.length →
  bindArgs (PySem.W.fnOf e.f e.f (defArgs e.st) (defBody e.st) (defScope e.st) .none kV doc pm an cdv ct) ⟨[], q.ks.zip ws⟩ = pure (e.ps.zip (permL q.perm ws))
section
variable {P : Program} {w : World} {K : PySem.W.Frag} {mg : Str → Option Value} {base : Heap} {tb : List Ent} {kcs : List KC} {cons : List Cn} {mets : List (Str × List Hd)} {lfs : List LEnt} {lnames : List (Nat × Nat × Str)}
abbrev FnE (K : PySem.W.Frag) (mg : Str → Option Value) (e : Ent) (a : Addr) (fd : FuncData) : Prop := mg e.f = some (.ref a) ∧ FunD K e.f e.f (defArgs e.st) (defBody e.st) (defScope e.st) [] [] a fd
theorem FunD.bindK {x qual : Str} {params : Arguments} {body : List Stmt} {scope : Scope} {f : Addr} {fd : FuncData} {ps ks : List Str} {perm : List Nat} (F : FunD K x qual params body scope [] [] f fd)
    (h : ∀ (kV doc pm : Value) (an : Option Addr) (cdv ct : Value) (ws : List Value), ws.length = ks.length → bindArgs (PySem.W.fnOf x qual params body scope .none kV doc pm an cdv ct) ⟨[], ks.zip ws⟩ = pure (ps.zip (permL perm ws))) :
    KBn K fd ps 0 ks (fun us ws => permL perm (us ++ ws)) (fun vs zs => permL perm (vs ++ zs)) := by
  obtain ⟨oc, od, dV, kV, doc, pm, an, cdv, ct, osl, rfl, lk, hcd, hD, hK⟩ := F.ex
  rcases hD with ⟨_, rfl⟩ | ⟨e, _⟩
  · refine ⟨fun s us ws _ h1 h2 => ?_, fun {vs us zs ws} r1 r2 => permL_vals (r1.append r2) perm⟩
    rw [List.eq_nil_of_length_eq_zero h1, List.nil_append]
    exact .of_eq (h kV doc pm an cdv ct ws h2)
  · exact absurd rfl e
/-- an own error with a field: its class, the field, the text of its __init__ -/
structure ErrE where
  cn : Str
  fl : Str
  ist : Stmt
def isFnS : Stmt → Bool
  | .FunctionDef .. => true
  | _ => false
/-- the first def of a class -/
def initOf : Stmt → Stmt
  | .ClassDef _ _ _ body _ _ _ _ _ _ pos => (body.find? isFnS).getD (.Pass pos)
  | s => s
structure ErrSh (e : ErrE) : Prop where
  fld : PySem.LowX.Fld e.fl
  sh : ∃ (p1 p2 q1 q2 q3 q4 : Pos), defArgs e.ist = PySem.LowX.iA e.fl p1 p2 ∧ defBody e.ist = PySem.LowX.iB e.fl q1 q2 q3 q4 ∧ defScope e.ist = PySem.LowX.iS e.fl
def ErrE.d (e : ErrE) : He.DefD := ⟨(e.cn, some "__init__"), "__init__", e.cn ++ ".__init__", defArgs e.ist, defBody e.ist, defScope e.ist, [], []⟩
/-- the class as it stands -/
def clsB (K : PySem.W.Frag) (C : Addr) : Bool := match K.lookup C with
  | some ⟨.type "type", _, .cls cd, sl⟩ => (match cd.mro, sl.toList with
    | .ref C' :: bm, [_, _, _, _, some (.builtin n), _] => C' == C && n == "ValueError.__new__" && !cd.hasDel && cd.hasDict && PySem.HandSPX.refsVE bm
    | _, _ => false)
  | _ => false
theorem clsB_ok {K : PySem.W.Frag} {C : Addr} (q : clsB K C = true) : ∃ nm qn N bs bm sn sub ab col dd k0 k1 k2 k3 k5, K.lookup C = some (excClassObj nm qn C N bs bm true sn sub ab col dd k0 k1 k2 k3 k5 "ValueError.__new__") ∧ PySem.HandSPX.refsVE bm = true := by
  unfold clsB at q
  split at q
  · rename_i dd cd sl ho
    split at q
    · rename_i C' bm k0 k1 k2 k3 n k5 hm hs
      simp only [Bool.and_eq_true, beq_iff_eq, Bool.not_eq_true'] at q
      obtain ⟨⟨⟨⟨rfl, rfl⟩, hdel⟩, hdi⟩, ht⟩ := q
      obtain ⟨nm, bs, mro, ns, qn, hd, sn, sub, ab, col, del⟩ := cd
      dsimp only at hm hdel hdi
      subst hm hdel hdi
      have hsl : sl = #[k0, k1, k2, k3, some (.builtin "ValueError.__new__"), k5] := by
        obtain ⟨l⟩ := sl
        simp only at hs
        rw [hs]
      subst hsl
      exact ⟨nm, qn, ns, bs, bm, sn, sub, ab, col, dd, k0, k1, k2, k3, k5, ho, ht⟩
    · cases q
  · cases q
def errB (K : PySem.W.Frag) (cn fl : Str) : Bool :=
  clsB K (He.ga K cn) && (He.eqO (PySem.W.findIn K (.ref (He.ga K cn)) "__setattr__") (some (some (.builtin "object.__setattr__"))) && (He.eqO (PySem.W.findIn K (.ref (He.ga K cn)) "__getattribute__") (some (some (.builtin "BaseException.__getattribute__"))) &&
    (He.eqO (PySem.W.findIn K (.ref (He.ga K cn)) "__getattr__") (some none) && (He.eqO (PySem.W.findIn K (.ref (He.ga K cn)) fl) (some none) && (He.eqO (PySem.W.findIn K (.ref (He.ga K cn)) "__init__") (some (some (.ref (He.ma K (He.ga K cn) "__init__")))) &&
    (decide (PySem.W.typeIn K (.ref (He.ma K (He.ga K cn) "__init__")) = some (.type "function")) && (PySem.W.keepIn K (.ref (He.ga K cn)) && (decide (PySem.W.subIn K (.ref (He.ga K cn)) (.type "BaseException") = some true) &&
    (decide (PySem.W.typeIn K (.ref (He.ga K cn)) = some (.type "type")) && (PySem.W.hasDictIn K (He.ga K cn) && decide (PySem.W.exmOne K (.ref (He.ga K cn)) (.ref (He.ga K cn)) = some true)))))))))))
theorem errB_ok {K : PySem.W.Frag} {mg : Str → Option Value} {e : ErrE} {fd : FuncData} (g : mg e.cn = some (.ref (He.ga K e.cn))) (b : errB K e.cn e.fl = true) (sh : ErrSh e) (F : FunD K e.d.name e.d.qual e.d.params e.d.body e.d.scope (e.d.dvs K) (e.d.kws K) (He.fAd K e.d.at_) fd) : ErrOk K mg e.cn e.fl := by
  unfold errB at b
  obtain ⟨b1, b⟩ := He.ba b
  obtain ⟨b2, b⟩ := He.ba b
  obtain ⟨b3, b⟩ := He.ba b
  obtain ⟨b4, b⟩ := He.ba b
  obtain ⟨b5, b⟩ := He.ba b
  obtain ⟨b6, b⟩ := He.ba b
  obtain ⟨b7, b⟩ := He.ba b
  obtain ⟨b8, b⟩ := He.ba b
  obtain ⟨b9, b⟩ := He.ba b
  obtain ⟨b10, b⟩ := He.ba b
  obtain ⟨b11, b12⟩ := He.ba b
  refine ⟨sh.fld, _, He.ma K (He.ga K e.cn) "__init__", ⟨g, clsB_ok b1, He.eqO_ok b2, He.eqO_ok b3, He.eqO_ok b4, He.eqO_ok b5, He.eqO_ok b6, of_decide_eq_true b7, b8, of_decide_eq_true b9, of_decide_eq_true b10, b11, of_decide_eq_true b12, ?_⟩⟩
  obtain ⟨oc, od, dV, kV, doc, pm, an, cdv, ct, osl, efd, lk, hcd, hD, _⟩ := F.ex
  obtain ⟨p1, p2, q1, q2, q3, q4, h1, h2, h3⟩ := sh.sh
  subst efd
  rcases hD with ⟨_, rfl⟩ | ⟨z, _⟩
  · refine ⟨oc, od, kV, doc, pm, an, cdv, ct, osl, p1, p2, q1, q2, q3, q4, ?_, hcd⟩
    rw [← h1, ← h2, ← h3]
    exact lk
  · exact absurd rfl z
/-- the error's entry among the constants -/
def hdCn (p : Hd) : Cn := match p.2.2 with
  | none => (p.1, [Val.ty "error"])
  | some f => (p.1, [Val.ty "error", Val.str f])
/-- the def that asks lambdas is in the table -/
structure MetE (tb : List Ent) (cons : List Cn) (m : Str × List Hd) : Prop where
  ent : ∃ e ∈ tb, e.f = m.1 ∧ ∃ ask, e.ps = [ask] ∧ MetSh (defBody e.st) (defScope e.st) e.N ask m.2
  hds : AllP (fun p => hdCn p ∈ cons) m.2
theorem tb_fns {tabs : List (Str × Addr)} (hbl : ∀ x, isBN x = true → mg x = none) (hF : ∀ e ∈ tb, ∃ a fd, FnE K mg e a fd) (hE : ∀ e ∈ tb, EntOk (tb.map (·.f)) kcs cons mets (lfs.map (·.f)) lnames (tblOf tb) e) (hK : ∀ q ∈ kcs, KcOk tb q) (hC : ∀ p ∈ cons, ConK K mg p)
    (hM : ∀ m ∈ mets, MetOk K mg m) (hA : ∀ le ∈ lfs, LEntOk (tb.map (·.f)) kcs cons mets (lfs.map (·.f)) lnames le ∧ tblT tabs lfs tb le.f.nm = some le.fc) (hL : ∀ e ∈ tb, e.lam = true → ∀ a fd, FnE K mg e a fd → ∃ c P, fd.code = .ref c ∧ TabB base mg c P ∧ tblT tabs lfs tb e.q = some (tabFc P)) :
    ∀ k, (∀ e ∈ tb, ∀ a fd, FnE K mg e a fd → FnOk P w K mg base (CX P w) k a fd e.ps (spC K mg (Calls (tblT tabs lfs tb) k) e.f)) ∧ ∀ f ∈ lfs.map (·.f), LFn P w K mg base (Calls (tblT tabs lfs tb) k) k f := by
  have bs : ∀ e ∈ tb, ∀ a fd, FnE K mg e a fd → Binds K fd e.ps [] := fun e he a fd F => F.2.bindsN (hE e he).bind
  intro k
  induction k with
  | zero =>
    refine ⟨?_, fun f _ _ _ _ _ _ _ _ _ _ _ _ _ _ _ _ ⟨_, _, _, _, _, _, z, _⟩ => (Calls_zero z).elim⟩
    intro e he a fd F
    exact ⟨fun _ _ _ _ ⟨_, _, _, _, _, _, z, _⟩ => (Calls_zero z).elim, fun _ _ _ _ _ _ _ _ _ _ _ _ _ ⟨_, _, _, _, _, _, z, _⟩ => (Calls_zero z).elim⟩
  | succ k ih0 =>
    obtain ⟨ih, ihl⟩ := ih0
    have i1 : ∀ g ∈ tb.map (·.f), FOk' P w K mg base (Calls (tblT tabs lfs tb) k) k g := by
      intro g hg
      obtain ⟨e', he', rfl⟩ := List.mem_map.mp hg
      obtain ⟨a', fd', F'⟩ := hF e' he'
      exact ⟨a', fd', e'.ps, F'.1, F'.2.kp, ih e' he' a' fd' F', bs e' he' a' fd' F'⟩
    have i2 : ∀ q ∈ kcs, FKOk' P w K mg base (Calls (tblT tabs lfs tb) k) k q := by
      intro q hq
      obtain ⟨e', he', e1, hb⟩ := hK q hq
      obtain ⟨a', fd', F'⟩ := hF e' he'
      exact ⟨a', fd', e'.ps, by rw [← e1]; exact F'.1, F'.2.kp, by rw [← e1]; exact ih e' he' a' fd' F', FunD.bindK F'.2 hb⟩
    refine ⟨?_, fun f hf => ?_⟩
    rotate_left
    · obtain ⟨le, hle, rfl⟩ := List.mem_map.mp hf
      obtain ⟨ok, hT⟩ := hA le hle
      exact lfn_succ hT ok.code ok.scope ok.bind hbl i1 i2 hC hM ihl
    intro e he a fd F
    refine (fok_succ' (P := P) (w := w) (base := base) (T := tblT tabs lfs tb) (k := k) F.1 F.2 (tblT_of (hE e he).tbl) (hE e he).code rfl rfl (hE e he).scope hbl i1 i2 hC hM ihl fun q eq => ?_)
    unfold Ent.lamQ at eq
    split at eq
    · rename_i hl
      cases eq
      obtain ⟨c, P, h1, h2, h3⟩ := hL e he hl a fd F
      exact ⟨rfl, c, P, h1, h2, tabCall h3⟩
    · cases eq
/-! ### the law -/
theorem cx_no {s : Shared} {H : Hp} {e : Value} {s' : Shared} (h : L2.CX P w [] H s (fun _ _ _ => False) e s') : False := by
  obtain ⟨_, _, _, _, _, _, _, _, _, _, _, _, z⟩ := h
  exact z.elim
end
theorem walk_km {l : PySem.W.OpenLaw} {n k : Nat} {q : Program} {loose : List Str} {XP : (Str → Option Value) → Heap → Prop} {YP : World → Heap → Prop} {d : DefRec} {x : Str}
    (hn : l.most = some n) (hn2 : n ≤ sizeLine) (hdf : d.params.defaults = []) (hr : Room k callerA)
    (F : ∀ (w : World) (mg : Str → Option Value) (fa : Addr) (h : Heap), YP w h → h.Ns mainGlobals mg → mg d.name = some (.ref fa) →
      ∃ (K : PySem.W.Frag) (fd : FuncData) (sp : Sp), K.In h ∧ (∀ (s : Shared) (u : Value), BindsTo s fd ⟨[u], []⟩ [(x, u)]) ∧
        (∀ (H : Hp) (a : Addr) (ns : List Int), ns.length ≤ n → Only H → SqL K H a (ns.map V.int) → sp [.ref a] H (fun v _ => v = .bl true) fun _ _ _ => False) ∧
        ∀ base : Heap, K.In base → base.Ns mainGlobals mg → FnOk l.prog w K mg base (L2.CX l.prog w) k fa fd [x] sp) :
    PySem.W.WalkO q loose XP YP l.row.toRowW d [] (fun f vs => PySem.call f vs) := by
  refine Att.attach_call hn hdf fun w s₀ s₁ mg mb fa o pm cd doc a vs ns G Y ho hd hcd hmg hobj hints hlen hg => ?_
  obtain ⟨K, fd, sp, KX, hb, hsp, hF⟩ := F w mg fa _ Y G.T.g hmg
  exact law_call KX G.T.g G.T.b G.T.builtins G.T.nolimit hg hobj hints (Nat.le_trans hlen hn2) hr hF hb (fun H hO hS => hsp H a ns hlen hO hS) fun H e s' => cx_no
/-- .. from tables of code objects on -/
theorem walk_kmT {l : PySem.W.OpenLaw} {n k : Nat} {q : Program} {loose : List Str} {XP : (Str → Option Value) → Heap → Prop} {YP : World → Heap → Prop} {d : DefRec} {x : Str}
    (hn : l.most = some n) (hn2 : n ≤ sizeLine) (hdf : d.params.defaults = []) (hr : Room k callerA)
    (F : ∀ (w : World) (mg : Str → Option Value) (fa : Addr) (h : Heap), YP w h → h.Ns mainGlobals mg → mg d.name = some (.ref fa) →
      ∃ (K : PySem.W.Frag) (fd : FuncData) (cs : List (Addr × Addr)) (sp : Sp), K.In h ∧ (∀ p ∈ cs, h.get? p.2 = some { cls := .none, data := .fields #[] }) ∧ (∀ p ∈ cs, K.lookup p.2 = none) ∧ (∀ p ∈ cs, PySem.W.CodeHd h p.1 p.2) ∧
        (∀ (s : Shared) (u : Value), BindsTo s fd ⟨[u], []⟩ [(x, u)]) ∧
        (∀ (H : Hp) (a : Addr) (ns : List Int), ns.length ≤ n → (∀ p ∈ cs, H p.2 = some (.tbl #[])) → SqL K H a (ns.map V.int) → sp [.ref a] H (fun v _ => v = .bl true) fun _ _ _ => False) ∧
        ∀ base : Heap, K.In base → base.Ns mainGlobals mg → (∀ p ∈ cs, TabB base mg p.1 p.2) → FnOk l.prog w K mg base (L2.CX l.prog w) k fa fd [x] sp) :
    PySem.W.WalkO q loose XP YP l.row.toRowW d [] (fun f vs => PySem.call f vs) := by
  refine Att.attach_call hn hdf fun w s₀ s₁ mg mb fa o pm cd doc a vs ns G Y ho hd hcd hmg hobj hints hlen hg => ?_
  obtain ⟨K, fd, cs, sp, KX, hT, nT, C, hb, hsp, hF⟩ := F w mg fa _ Y G.T.g hmg
  exact law_callTs KX G.T.g G.T.b G.T.builtins G.T.nolimit hg hT nT C G.T.bmain hobj hints (Nat.le_trans hlen hn2) hr hF hb (fun H hH hS => hsp H a ns hlen hH hS) fun H e s' => cx_no
/-- own errors without fields; which clause takes which error -/
def faX (cons : List Cn) (mets : List (Str × List Hd)) : List He.Fa :=
  cons.flatMap (fun p => if isEr0 p.2 = true then [He.Fa.exc p.1] else []) ++ mets.flatMap fun m => m.2.flatMap fun p => m.2.map fun r => He.Fa.exm p.1 r.1 (decide (p.1 = r.1))
def faOf (tb : List Ent) (cons : List Cn) (mets : List (Str × List Hd)) : List He.Fa := tb.map (fun e => He.Fa.glo e.f) ++ (bNames.map He.Fa.free ++ (cons.map (fun p => He.Fa.glo p.1) ++ faX cons mets))
def dvOf : Val → He.Dv
  | .int i => .int i
  | .str x => .str x
  | .bl b => .bl b
  | _ => .non
def dvOk : Val → Bool
  | .int _ => true
  | .str _ => true
  | .bl _ => true
  | .non => true
  | _ => false
theorem dvOf_ok {K : PySem.W.Frag} {H : Hp} {v : Val} (h : dvOk v = true) : RV K H v (He.Dv.v K (dvOf v)) := by
  cases v <;> first | rfl | cases h
theorem dvOf_all {K : PySem.W.Frag} {H : Hp} : ∀ {vs : List Val}, vs.all dvOk = true → RVs K H vs ((vs.map dvOf).map (He.Dv.v K))
  | [], _ => rfl
  | v :: vs, h => by
    rw [List.all_cons, Bool.and_eq_true] at h
    exact ⟨_, _, rfl, dvOf_ok h.1, dvOf_all h.2⟩
/-- the constants as they stand in the heap; the tables stand apart -/
def exOf (cons : List Cn) (tb : List Ent) (K : PySem.W.Frag) : Bool := (cons.all fun p => match isErr p.2 with
  | some f => errB K p.1 f
  | none => isEr0 p.2 || (He.tupB K p.1 (p.2.map dvOf) && p.2.all dvOk)) && decide (((tb.filter (·.lam)).map fun e => (He.cT K (e.f, none)).2).Nodup)
def fnOf (tb : List Ent) (errs : List ErrE) : List He.DefD := tb.map (fun e => ⟨(e.f, none), e.f, e.f, defArgs e.st, defBody e.st, defScope e.st, [], []⟩) ++ errs.map ErrE.d
def tfOf (tb : List Ent) : List He.Defn := (tb.filter (·.lam)).map fun e => (e.f, none)
/-- the view from which the law is asked: its tables alone, and maybe the script -/
def view0 (tabs : List (Str × Addr)) (sc : Option (Addr × List Val)) : Hep := fun a => match sc with
  | some (b, xs) => if a = b then some (.lst xs) else (tabs.find? fun p => decide (p.2 = a)).map fun p => .tab p.1
  | none => (tabs.find? fun p => decide (p.2 = a)).map fun p => .tab p.1
theorem find_tab {tabs : List (Str × Addr)} (nd : (tabs.map (·.2)).Nodup) {p : Str × Addr} (hp : p ∈ tabs) : tabs.find? (fun r => decide (r.2 = p.2)) = some p := by
  induction tabs with
  | nil => cases hp
  | cons r t ih =>
    rw [List.map_cons, List.nodup_cons] at nd
    rcases List.mem_cons.mp hp with rfl | h
    · rw [List.find?_cons]
      simp
    · have ne : ¬ r.2 = p.2 := fun z => nd.1 (by rw [z]; exact List.mem_map.mpr ⟨p, h, rfl⟩)
      rw [List.find?_cons]
      simp only [ne, decide_false]
      exact ih nd.2 h
theorem walk_tbT {l : PySem.W.OpenLaw} {k m : Nat} {q : Program} {loose : List Str} {XP : (Str → Option Value) → Heap → Prop} {d : DefRec} {x : Str} {tb : List Ent} {kcs : List KC} {cons : List Cn} {mets : List (Str × List Hd)} {errs : List ErrE} {lfs : List LEnt} {lnames : List (Nat × Nat × Str)} {e0 : Ent}
    (hn : l.most = some 63) (hdf : d.params.defaults = []) (hr : Room k callerA) (he0 : e0 ∈ tb) (hname : d.name = e0.f) (hps : e0.ps = [x])
    (hE : ∀ e ∈ tb, EntOk (tb.map (·.f)) kcs cons mets (lfs.map (·.f)) lnames (tblOf tb) e) (hK : ∀ q ∈ kcs, KcOk tb q) (hM : ∀ m ∈ mets, MetE tb cons m) (hI : ∀ p ∈ cons, ∀ f, isErr p.2 = some f → ∃ e ∈ errs, e.cn = p.1 ∧ e.fl = f ∧ ErrSh e)
    (hN : ∀ e ∈ tb, e.lam = true → tblOf tb e.q = none ∧ (lfs.find? fun le => decide (le.f.nm = e.q)) = none) (hLe : ∀ le ∈ lfs, LEntOk (tb.map (·.f)) kcs cons mets (lfs.map (·.f)) lnames le) (hLn : ∀ le ∈ lfs, tblOf tb le.f.nm = none) (hLd : (lfs.map (·.f.nm)).Nodup) (hq : ((tb.filter (·.lam)).map Ent.q).Nodup)
    (law : ∀ (tabs : List (Str × Addr)) (h0 : Hep) (v : Val) (ns : List Int), tabs.map (·.1) = (tb.filter (·.lam)).map Ent.q → (∀ p ∈ tabs, h0 p.2 = some (.tab p.1)) → (v = .rom (ns.map Val.int) ∨ ∃ a, v = .ref a ∧ h0 a = some (.lst (ns.map Val.int))) → ns.length ≤ 63 →
      Calls (tblT tabs lfs tb) k e0.f [v] h0 (fun v _ => v = .bl true) (fun _ _ => False)) :
    PySem.W.WalkO q loose XP (He.hookX m (faOf tb cons mets) (fnOf tb errs) [] (tfOf tb) (exOf cons tb)).says l.row.toRowW d [] (fun f vs => PySem.call f vs) := by
  refine walk_kmT (n := 63) (k := k) (x := x) hn (by rw [sizeLine_eq]; decide) hdf hr fun w mg fa h Y G hmg => ?_
  obtain ⟨K, KX, cx⟩ := Y
  have c : He.SaysD (faOf tb cons mets) (fnOf tb errs) K := congrArg (fun z : He.AlT => z.1) cx.t
  have hF : ∀ e ∈ tb, ∃ a fd, FnE K mg e a fd := by
    intro e he
    have h1 : He.Fa.glo e.f ∈ faOf tb cons mets := List.mem_append_left _ (List.mem_map.mpr ⟨e, he, rfl⟩)
    have h2 : (⟨(e.f, none), e.f, e.f, defArgs e.st, defBody e.st, defScope e.st, [], []⟩ : He.DefD) ∈ fnOf tb errs := List.mem_append_left _ (List.mem_map.mpr ⟨e, he, rfl⟩)
    obtain ⟨fd, F⟩ := c.defs h2
    exact ⟨_, fd, He.glo_ok KX G (c.facts h1), F⟩
  have hga : ∀ e ∈ tb, ∀ a, mg e.f = some (.ref a) → a = He.ga K e.f := by
    intro e he a z
    have h1 : He.Fa.glo e.f ∈ faOf tb cons mets := List.mem_append_left _ (List.mem_map.mpr ⟨e, he, rfl⟩)
    rw [He.glo_ok KX G (c.facts h1)] at z
    cases z
    rfl
  have hbl : ∀ x, isBN x = true → mg x = none := by
    intro y hy
    have hm : y ∈ bNames := by
      unfold isBN at hy
      exact List.contains_iff_mem.mp hy
    have h1 : He.Fa.free y ∈ faOf tb cons mets := List.mem_append_right _ (List.mem_append_left _ (List.mem_map.mpr ⟨y, hm, rfl⟩))
    exact He.free_ok KX G (c.facts h1)
  have hcg : ∀ p ∈ cons, mg p.1 = some (.ref (He.ga K p.1)) := by
    intro p hp
    have h1 : He.Fa.glo p.1 ∈ faOf tb cons mets := List.mem_append_right _ (List.mem_append_right _ (List.mem_append_left _ (List.mem_map.mpr ⟨p, hp, rfl⟩)))
    exact He.glo_ok KX G (c.facts h1)
  have hx : ∀ f ∈ faX cons mets, f.ok K = true := fun f hf => c.facts (List.mem_append_right _ (List.mem_append_right _ (List.mem_append_right _ hf)))
  have more := cx.more
  unfold exOf at more
  rw [Bool.and_eq_true, decide_eq_true_eq] at more
  obtain ⟨more, nd⟩ := more
  have hC : ∀ p ∈ cons, ConK K mg p := by
    intro p hp
    have h2 := List.all_eq_true.mp more p hp
    unfold ConK
    cases ee : isErr p.2 with
    | some f =>
      rw [ee] at h2
      obtain ⟨e, he, e1, e2, sh⟩ := hI p hp f ee
      have h1 : e.d ∈ fnOf tb errs := List.mem_append_right _ (List.mem_map.mpr ⟨e, he, rfl⟩)
      obtain ⟨fd, F⟩ := c.defs h1
      have z := errB_ok (mg := mg) (e := e) (by rw [e1]; exact hcg p hp) (by rw [e1, e2]; exact h2) sh F
      rw [e1, e2] at z
      exact z
    | none =>
      rw [ee] at h2
      simp only at h2 ⊢
      split
      · rename_i z
        have h1 : He.Fa.exc p.1 ∈ faX cons mets := List.mem_append_left _ (List.mem_flatMap.mpr ⟨p, hp, by rw [if_pos z]; exact List.mem_singleton.mpr rfl⟩)
        obtain ⟨e1, e2, e3, e4⟩ := He.exc_ok (hx _ h1)
        exact ⟨_, hcg p hp, e1, e2, e3, e4⟩
      · rename_i z
        rw [Bool.or_eq_true, Bool.and_eq_true] at h2
        rcases h2 with h2 | h2
        · exact absurd h2 z
        · exact ⟨_, hcg p hp, fun H => ⟨_, _, rfl, He.tupB_ok h2.1 H, dvOf_all h2.2⟩⟩
  have hMt : ∀ m ∈ mets, MetOk K mg m := by
    intro mm hm
    have M := hM mm hm
    have ex : ∀ p ∈ mm.2, ∀ r ∈ mm.2, PySem.W.exmOne K (.ref (He.ga K p.1)) (.ref (He.ga K r.1)) = some (decide (p.1 = r.1)) := fun p hp r hr =>
      He.exm_ok (hx _ (List.mem_append_right _ (List.mem_flatMap.mpr ⟨mm, hm, List.mem_flatMap.mpr ⟨p, hp, List.mem_map.mpr ⟨r, hr, rfl⟩⟩⟩)))
    have gm : ∀ p ∈ mm.2, mg p.1 = some (.ref (He.ga K p.1)) := fun p hp => by
      have z := M.hds.mem p hp
      obtain ⟨c1, w1, o1⟩ := p
      cases o1 with
      | none => exact hcg (c1, [Val.ty "error"]) z
      | some f => exact hcg (c1, [Val.ty "error", Val.str f]) z
    refine ⟨?_, fun p hp => ?_, fun p hp r hr ne C D e1 e2 => ?_⟩
    · obtain ⟨e, he, e1, ask, e2, sh⟩ := M.ent
      obtain ⟨a, fd, F⟩ := hF e he
      have S := scopeB_ok (hE e he).scope
      have B := F.2.bindsN (hE e he).bind
      rw [e2] at S B
      rw [← e1]
      exact ⟨a, fd, _, _, _, e.N, ask, F.1, F.2, B, S, sh⟩
    · have z := M.hds.mem p hp
      obtain ⟨c1, w1, o1⟩ := p
      cases o1 with
      | none =>
        refine ⟨_, hcg (c1, [Val.ty "error"]) z, ?_⟩
        have y := ex _ hp _ hp
        rw [decide_eq_true rfl] at y
        exact y
      | some f => exact (hC _ z).err rfl
    · rw [gm p hp] at e1
      rw [gm r hr] at e2
      cases e1
      cases e2
      rw [ex p hp r hr, decide_eq_false ne]
  obtain ⟨a0, fd0, F0⟩ := hF e0 he0
  have e : fa = a0 := by
    rw [hname, F0.1] at hmg
    cases hmg
    rfl
  subst e
  let cs : List (Addr × Addr) := (tfOf tb).map (He.cT K)
  let tabs : List (Str × Addr) := (tb.filter (·.lam)).map fun e => (e.q, (He.cT K (e.f, none)).2)
  have mem_cs : ∀ p ∈ cs, ∃ d ∈ tfOf tb, He.cT K d = p := fun p hp => List.mem_map.mp hp
  have tabs1 : tabs.map (·.1) = (tb.filter (·.lam)).map Ent.q := by
    show ((tb.filter (·.lam)).map fun e => (e.q, (He.cT K (e.f, none)).2)).map (·.1) = _
    rw [List.map_map]
    rfl
  have tabs2 : (tabs.map (·.2)).Nodup := by
    have z : tabs.map (·.2) = (tb.filter (·.lam)).map fun e => (He.cT K (e.f, none)).2 := by
      show ((tb.filter (·.lam)).map fun e => (e.q, (He.cT K (e.f, none)).2)).map (·.2) = _
      rw [List.map_map]
      rfl
    rw [z]
    exact nd
  have tabsC : ∀ p ∈ tabs, ∃ r ∈ cs, r.2 = p.2 := by
    intro p hp
    obtain ⟨e, he, rfl⟩ := List.mem_map.mp hp
    exact ⟨He.cT K (e.f, none), List.mem_map.mpr ⟨(e.f, none), List.mem_map.mpr ⟨e, he, rfl⟩, rfl⟩, rfl⟩
  refine ⟨K, fd0, cs, spC K mg (Calls (tblT tabs lfs tb) k) e0.f, KX, fun p hp => ?_, fun p hp => ?_, fun p hp => ?_, fun s u => ?_, fun H a ns hl hT hS => ?_, fun base _ _ TB => ?_⟩
  · obtain ⟨d, hd, rfl⟩ := mem_cs p hp
    exact cx.empty d hd
  · obtain ⟨d, hd, rfl⟩ := mem_cs p hp
    exact cx.out d hd
  · obtain ⟨d, hd, rfl⟩ := mem_cs p hp
    exact PySem.W.codeHd_of_K KX (cx.hd d hd)
  · have z := F0.2.bindsA (hE e0 he0).bind s [u] (by rw [hps]; rfl)
    rw [hps] at z
    exact z
  · have noLst : ∀ p ∈ tabs, H p.2 = some (.tbl #[]) := fun p hp => by
      obtain ⟨r, hr, e⟩ := tabsC p hp
      rw [← e]
      exact hT r hr
    have tabOk : ∀ b o, ((tabs.find? fun p => decide (p.2 = b)).map fun p => Ob.tab p.1) = some o → RO K H b o := by
      intro b o e
      cases z : tabs.find? fun p => decide (p.2 = b) with
      | none => rw [z] at e; cases e
      | some p =>
        rw [z] at e
        cases e
        have m1 := List.mem_of_find?_eq_some z
        have m2 : p.2 = b := by simpa using List.find?_some z
        rw [← m2]
        exact TabS.nil (noLst p m1)
    have fin : ∀ (h0 : Hep) (v : Val), Sim K h0 H → RV K H v (.ref a) → (∀ p ∈ tabs, h0 p.2 = some (.tab p.1)) → (v = .rom (ns.map Val.int) ∨ ∃ a, v = .ref a ∧ h0 a = some (.lst (ns.map Val.int))) → spC K mg (Calls (tblT tabs lfs tb) k) e0.f [.ref a] H (fun v _ => v = .bl true) fun _ _ _ => False := by
      intro h0 v sm rv ht hv
      refine ⟨[v], h0, _, _, sm, RVs.cons rv RVs.nil, law tabs h0 v ns tabs1 ht hv hl, ?_, ?_⟩
      · rintro u H' ⟨v, h', _, _, r, rfl⟩
        exact r
      · rintro cls dd H' ⟨_, _, _, _, _, z⟩
        exact z.elim
    rcases hS with (h | ⟨o, h⟩) | h
    · refine fin (view0 tabs (some (a, ns.map Val.int))) (.ref a) (fun b o e => ?_) rfl (fun p hp => ?_) (.inr ⟨a, rfl, ?_⟩)
      · unfold view0 at e
        simp only at e
        split at e
        · rename_i z
          cases e
          exact ⟨_, by rw [z]; exact h, RVs.of_ints ns⟩
        · exact tabOk b o e
      · unfold view0
        simp only
        have ne : ¬ p.2 = a := fun z => by
          have y := noLst p hp
          rw [z, h] at y
          cases y
        rw [if_neg ne, find_tab tabs2 hp]
        rfl
      · unfold view0
        simp
    · refine fin (view0 tabs none) (.rom (ns.map Val.int)) (fun b o e => tabOk b o e) ⟨a, ns.map V.int, rfl, .inl ⟨o, h⟩, RVs.of_ints ns⟩ (fun p hp => ?_) (.inl rfl)
      unfold view0
      simp only
      rw [find_tab tabs2 hp]
      rfl
    · refine fin (view0 tabs none) (.rom (ns.map Val.int)) (fun b o e => tabOk b o e) ⟨a, ns.map V.int, rfl, .inr h, RVs.of_ints ns⟩ (fun p hp => ?_) (.inl rfl)
      unfold view0
      simp only
      rw [find_tab tabs2 hp]
      rfl
  · rw [← hps]
    refine (tb_fns hbl hF hE hK hC hMt (fun le hle => ⟨hLe le hle, ?_⟩) (fun e he hl a fd F => ?_) k).1 e0 he0 _ fd0 F0
    · unfold tblT
      rw [hLn le hle]
      simp only
      rw [find_le hLd hle]
    have ea := hga e he a F.1
    obtain ⟨oc, od, dV, kV, doc, pm, an, cdv, ct, osl, efd, lk, hcd, _, _⟩ := F.2.ex
    obtain ⟨c, ec⟩ := He.codeIn_ref hcd
    subst efd
    have hm : e ∈ tb.filter (·.lam) := List.mem_filter.mpr ⟨he, hl⟩
    have hc : (He.cT K (e.f, none)).1 = c := He.codeOf_eq (p := (e.f, none)) (by show K.lookup (He.ga K e.f) = _; rw [← ea]; exact lk) ec
    refine ⟨c, (He.cT K (e.f, none)).2, ec, ?_, ?_⟩
    · have z := TB (He.cT K (e.f, none)) (List.mem_map.mpr ⟨(e.f, none), List.mem_map.mpr ⟨e, hm, rfl⟩, rfl⟩)
      rw [hc] at z
      exact z
    · unfold tblT
      rw [(hN e he hl).1]
      simp only
      rw [(hN e he hl).2]
      have z : tabs.lookup e.q = some (He.cT K (e.f, none)).2 := by
        have hmem : (e.q, (He.cT K (e.f, none)).2) ∈ tabs := List.mem_map.mpr ⟨e, hm, rfl⟩
        have nd1 : (tabs.map (·.1)).Nodup := by rw [tabs1]; exact hq
        clear_value tabs
        clear tabsC tabs1 tabs2
        induction tabs with
        | nil => cases hmem
        | cons r t ih =>
          rw [List.map_cons, List.nodup_cons] at nd1
          rcases List.mem_cons.mp hmem with y | y
          · subst y
            simp [List.lookup]
          · have ne : (e.q == r.1) = false := by
              simp only [beq_eq_false_iff_ne]
              exact fun u => nd1.1 (by rw [← u]; exact List.mem_map.mpr ⟨_, y, rfl⟩)
            rw [List.lookup_cons, ne]
            exact ih y nd1.2
      rw [z]
      rfl
/-! ### a lambda in a statement, by its place -/
def exKids : Expr → List Expr
  | .BoolOp _ vs _ => vs
  | .BinOp a _ b _ => [a, b]
  | .UnaryOp _ a _ => [a]
  | .IfExp a b c _ => [a, b, c]
  | .ListComp e _ _ _ => [e]
  | .Compare a _ bs _ => a :: bs
  | .Call f as kws _ => f :: (as ++ kws.map fun k => k.value)
  | .Attribute a _ _ => [a]
  | .Subscript a b _ => [a, b]
  | .List es _ => es
  | .Tuple es _ _ => es
  | _ => []
def stExs : Stmt → List Expr
  | .Return (some e) _ => [e]
  | .Assign _ e _ => [e]
  | .If t _ _ _ => [t]
  | .While t _ _ _ => [t]
  | .For _ it _ _ _ => [it]
  | .Expr e _ => [e]
  | _ => []
def stSubs : Stmt → List Stmt
  | .FunctionDef _ _ b _ _ _ _ _ _ _ => b
  | .For _ _ b _ _ => b
  | .While _ b _ _ => b
  | .If _ b o _ => b ++ o
  | _ => []
def stAt (s : Stmt) : List Nat → Stmt
  | [] => s
  | i :: r => stAt ((stSubs s).getD i s) r
def exAt (e : Expr) : List Nat → Expr
  | [] => e
  | i :: r => exAt ((exKids e).getD i e) r
def lamAt (nm q : Str) (s : Stmt) (p : List Nat) (i : Nat) (r : List Nat) : Lam := match exAt ((stExs (stAt s p)).getD i (.Name "" ⟨0, 0, 0, 0⟩)) r with
  | .Lambda params body scope _ => ⟨nm, q, params, body, scope⟩
  | e => ⟨nm, q, { posonlyargs := [], args := [], vararg := none, kwonlyargs := [], kw_defaults := [], kwarg := none, defaults := [] }, e, { kind := .function, names := [], isGenerator := false, isCoroutine := false }⟩
end KM
/-! KMS: what the laws' own helpers do: draws, copies, sameness. -/
namespace KM
open PySem PySem.Spec PyProof.Rows L2

def c__law_draw : Sxs := .cons (.setix (.var 0) (.int 2) (.bin .Add (.ix (.var 0) (.int 2)) (.int 1))) (.cons (.whil (.and (.cmp .Eq (.ix (.var 0) (.int 1)) (.int 0)) (.cmp .NotEq (.ix (.var 0) (.int 0)) (.lst .nil))) (.cons (.asg (.nm 2) (.bi .abs (.cons (.mth .pop (.ix (.var 0) (.int 0)) (.cons (.int 0) .nil)) .nil))) (.cons (.setix (.var 0) (.int 3) (.bin .Mod (.bi .int (.cons (.bin .Add (.bin .Add (.bin .Mult (.ix (.var 0) (.int 3)) (.int 8191)) (.var 2)) (.int 3)) .nil)) (.int 2147483647))) (.cons (.setix (.var 0) (.int 1) (.ife (.cmp .GtE (.var 2) (.bin .Pow (.int 10) (.int 18))) (.var 2) (.int 0))) .nil)))) (.cons (.ife (.cmp .Gt (.ix (.var 0) (.int 1)) (.int 0)) (.cons (.asg (.nm 3) (.bin .Mod (.bi .int (.cons (.ix (.var 0) (.int 1)) .nil)) (.var 1))) (.cons (.setix (.var 0) (.int 1) (.bin .FloorDiv (.ix (.var 0) (.int 1)) (.var 1))) (.cons (.ret (.var 3)) .nil))) .nil) (.cons (.asg (.nm 4) (.bin .Mod (.bi .int (.cons (.bin .Pow (.bin .Add (.bin .Add (.ix (.var 0) (.int 3)) (.bin .Mult (.int 7919) (.ix (.var 0) (.int 2)))) (.int 104729)) (.int 5)) .nil)) (.int 2147483629))) (.cons (.ret (.bin .Mod (.bin .Mod (.bi .int (.cons (.bin .Pow (.bin .Add (.bin .Add (.bin .Mult (.var 4) (.int 48271)) (.bin .Mult (.int 30011) (.ix (.var 0) (.int 2)))) (.int 29)) (.int 3)) .nil)) (.int 1000000007)) (.var 1))) .nil))))

/-! ### views -/
theorem Sub.at {h h' : Hep} (s : Sub h h') {a : Addr} {o : Ob} (e : h a = some o) : h' a = some o := s a o e
theorem Sub.new {h h' : Hep} (s : Sub h h') {p : Addr} {o : Ob} (n : h' p = none) : Sub h (hset h' p o) := fun a ob e => by
  have z : a ≠ p := fun y => by subst y; rw [s _ _ e] at n; cases n
  rw [hset_ne z]; exact s a ob e
theorem Sub.set {h h' : Hep} (s : Sub h h') (p : Addr) (o : Ob) : Sub (hset h p o) (hset h' p o) := fun a ob e => by
  by_cases z : a = p
  · subst z; rw [hset_same] at e ⊢; exact e
  · rw [hset_ne z] at e ⊢; exact s a ob e

/-! ### the stream of draws -/
structure Strm where
  a : Addr
  b : Addr
  cells : List Int
  d : Int
  n : Int
  m : Int
def Strm.on (S : Strm) (h : Hep) : Hep := hset (hset h S.b (.lst (S.cells.map Val.int))) S.a (.lst [.ref S.b, .int S.d, .int S.n, .int S.m])
structure Strm.Ok (S : Strm) (h : Hep) (left : Nat) : Prop where
  ab : S.a ≠ S.b
  ha : h S.a = none
  hb : h S.b = none
  d0 : 0 ≤ S.d
  n0 : 0 ≤ S.n
  nb : S.n + left ≤ 1000000000
  m0 : 0 ≤ S.m
  m1 : S.m < 2147483647
  len : S.cells.length ≤ 63
/-- the same list, drawn from -/
def Strm.Same (S S' : Strm) : Prop := S'.a = S.a ∧ S'.b = S.b
theorem Strm.at_a {S : Strm} {h : Hep} : S.on h S.a = some (.lst [.ref S.b, .int S.d, .int S.n, .int S.m]) := hset_same
theorem Strm.at_b {S : Strm} {h : Hep} (ab : S.a ≠ S.b) : S.on h S.b = some (.lst (S.cells.map Val.int)) := by
  unfold Strm.on
  rw [hset_ne (Ne.symm ab), hset_same]
theorem Sub.a {S : Strm} {h g : Hep} (s : Sub (S.on h) g) : g S.a = some (.lst [.ref S.b, .int S.d, .int S.n, .int S.m]) := s _ _ Strm.at_a
theorem Sub.b {S : Strm} {h g : Hep} (s : Sub (S.on h) g) (ab : S.a ≠ S.b) : g S.b = some (.lst (S.cells.map Val.int)) := s _ _ (Strm.at_b ab)
theorem Sub.seta {S : Strm} {h g : Hep} (s : Sub (S.on h) g) {d n m : Int} : Sub ({ S with d := d, n := n, m := m }.on h) (hset g S.a (.lst [.ref S.b, .int d, .int n, .int m])) := fun x o e => by
  unfold Strm.on at e s
  by_cases z : x = S.a
  · subst z
    rw [hset_same] at e ⊢
    exact e
  · rw [hset_ne z] at e ⊢
    exact s x o (by rw [hset_ne z]; exact e)
theorem Sub.setb {S : Strm} {h g : Hep} (s : Sub (S.on h) g) (ab : S.a ≠ S.b) {cs : List Int} : Sub ({ S with cells := cs }.on h) (hset g S.b (.lst (cs.map Val.int))) := fun x o e => by
  unfold Strm.on at e s
  by_cases z : x = S.a
  · subst z
    rw [hset_same] at e
    rw [hset_ne ab]
    cases e
    exact s _ _ (by rw [hset_same])
  · rw [hset_ne z] at e
    by_cases y : x = S.b
    · subst y
      rw [hset_same] at e ⊢
      exact e
    · rw [hset_ne y] at e ⊢
      exact s x o (by rw [hset_ne z, hset_ne y]; exact e)
theorem datN_ints (n : Nat) (h : Hep) : ∀ cs : List Int, (cs.map Val.int).mapM (datN n h) = some (cs.map PyData.int)
  | [] => rfl
  | c :: cs => by
    rw [List.map_cons, List.mapM_cons, datN_ints n h cs]
    cases n <;> rfl
theorem datN_lst {n : Nat} {h : Hep} {a : Addr} {xs : List Val} {ds : List PyData} (e : h a = some (.lst xs)) (m : xs.mapM (datN n h) = some ds) : datN (n + 1) h (.ref a) = some (.list ds) := by
  simp only [datN, e, m]
  rfl
theorem shaped_ints : ∀ cs : List Int, SeqAt.shaped (.list (cs.map PyData.int)) = true := by
  have h1 : ∀ cs : List Int, PyData.canLayAll0 (cs.map PyData.int) = true := by
    intro cs
    induction cs with
    | nil => rfl
    | cons c cs ih => rw [List.map_cons]; simp only [PyData.canLayAll0, PyData.canLay0, ih]; rfl
  have h2 : ∀ cs : List Int, PyData.depthAll (cs.map PyData.int) = 0 := by
    intro cs
    induction cs with
    | nil => rfl
    | cons c cs ih => rw [List.map_cons]; simp only [PyData.depthAll, PyData.depth, ih]; rfl
  intro cs
  unfold SeqAt.shaped
  simp only [PyData.canLay0, h1, PyData.depth, h2]
  rfl
theorem cp_small {i j : Int} (h0 : 0 ≤ i) (h1 : i < 18446744073709551616) (h2 : 0 ≤ j) (h3 : j ≤ 1000) : CPow i j := ⟨h2, by omega, by omega⟩
theorem mulw_small {i j : Int} (h : i.natAbs < 2 ^ 64) (h' : j.natAbs < 2 ^ 64) : CMulW i j := wide_mul h h' (by decide) (by decide) (by decide)

theorem ifT {c : Bool} {A B : Prop} (h : c = true) (a : A) : if c = true then A else B := by rw [if_pos h]; exact a
theorem ifF {c : Bool} {A B : Prop} (h : c = false) (a : B) : if c = true then A else B := by rw [h]; exact a
theorem nT {c : Bool} {A B : Prop} (h : c = true ∧ A) : if c = true then A else B := ifT h.1 h.2
theorem nF {c : Bool} {A B : Prop} (h : c = false ∧ B) : if c = true then A else B := ifF h.1 h.2
theorem fmod_pos {x m : Int} (h : 0 < m) : 0 ≤ x.fmod m ∧ x.fmod m < m := by
  rw [Int.fmod_eq_emod_of_nonneg x (Int.le_of_lt h)]
  exact ⟨Int.emod_nonneg x (by omega), Int.emod_lt_of_pos x h⟩
theorem onD_list {h : Hep} {a : Addr} {P : PyData → Prop} {xs : List Val} {ds : List PyData} (e : h a = some (.lst xs)) (m : xs.mapM (datN 19 h) = some ds) (s : SeqAt.shaped (.list ds) = true) (p : P (.list ds)) : onD h (.ref a) P := onD_in (datN_lst e m) s p
def c_draw_end : Sxs := .cons (.ife (.cmp .Gt (.ix (.var 0) (.int 1)) (.int 0)) (.cons (.asg (.nm 3) (.bin .Mod (.bi .int (.cons (.ix (.var 0) (.int 1)) .nil)) (.var 1))) (.cons (.setix (.var 0) (.int 1) (.bin .FloorDiv (.ix (.var 0) (.int 1)) (.var 1))) (.cons (.ret (.var 3)) .nil))) .nil) (.cons (.asg (.nm 4) (.bin .Mod (.bi .int (.cons (.bin .Pow (.bin .Add (.bin .Add (.ix (.var 0) (.int 3)) (.bin .Mult (.int 7919) (.ix (.var 0) (.int 2)))) (.int 104729)) (.int 5)) .nil)) (.int 2147483629))) (.cons (.ret (.bin .Mod (.bin .Mod (.bi .int (.cons (.bin .Pow (.bin .Add (.bin .Add (.bin .Mult (.var 4) (.int 48271)) (.bin .Mult (.int 30011) (.ix (.var 0) (.int 2)))) (.int 29)) (.int 3)) .nil)) (.int 1000000007)) (.var 1))) .nil))
theorem draw_end {C : CalT} {S S1 : Strm} {many : Int} {h g : Hep} {b : Nat} {Q : VQ} {E : XE'} {x : Option Val} (ok1 : S1.Ok h b) (sm : S.Same S1) (sb : Sub (S1.on h) g) (m0 : 0 < many) (m1 : many.natAbs.log2 < 9000)
    (q : ∀ (d : Int) (S' : Strm), S.Same S' → S'.Ok h b → 0 ≤ d → d < many → Q (.int d) (S'.on h)) :
    wSs C c_draw_end [some (.ref S.a), some (.int many), x, none, none] g { nx := fun _ h1 => Dr h1 (Q .non), rt := fun v h1 => Dr h1 (Q v), bk := fun _ _ => False, ct := fun _ _ => False } E := by
  obtain ⟨ea, eb⟩ := sm
  obtain ⟨Sa, Sb, Sc, Sd, Sn, Sm'⟩ := S
  obtain ⟨S1a, S1b, S1c, S1d, S1n, S1m⟩ := S1
  dsimp only at ea eb
  subst ea
  subst eb
  have sa := sb.a
  dsimp only at sa
  have k0 := ok1.d0
  have k1 := ok1.n0
  have k2 := ok1.nb
  have k3 := ok1.m0
  have k4 := ok1.m1
  dsimp only at k0 k1 k2 k3 k4
  refine onL_in sa ?_
  by_cases d0 : 0 < S1d
  · refine ifT (decide_eq_true d0) ?_
    refine onL_in sa ?_
    refine ⟨by omega, ?_⟩
    refine onL_in sa ?_
    refine ⟨⟨by omega, m1⟩, ?_⟩
    refine onL_in sa ?_
    have z := fmod_pos (x := S1d) m0
    have hd : 0 ≤ S1d.fdiv many := by
      rw [Int.fdiv_eq_ediv_of_nonneg _ (by omega)]
      exact Int.ediv_nonneg k0 (by omega)
    have s2 := sb.seta (d := S1d.fdiv many) (n := S1n) (m := S1m)
    exact ⟨_, s2, q _ ⟨S1a, S1b, S1c, S1d.fdiv many, S1n, S1m⟩ ⟨rfl, rfl⟩ ⟨ok1.ab, ok1.ha, ok1.hb, hd, k1, k2, k3, k4, ok1.len⟩ z.1 z.2⟩
  · refine ifF (decide_eq_false d0) ?_
    refine onL_in sa ?_
    refine onL_in sa ?_
    refine ⟨mulw_small (by decide) (by show S1n.natAbs < 2 ^ 64; omega), ?_⟩
    refine ⟨cp_small (by omega) (by omega) (by decide) (by decide), by decide, ?_⟩
    generalize hv : Int.fmod _ _ = v
    have z : 0 ≤ v ∧ v < 2147483629 := by rw [← hv]; exact fmod_pos (by decide)
    refine ⟨mulw_small (by show v.natAbs < 2 ^ 64; omega) (by decide), ?_⟩
    refine onL_in sa ?_
    refine ⟨mulw_small (by decide) (by show S1n.natAbs < 2 ^ 64; omega), ?_⟩
    refine ⟨cp_small (by omega) (by omega) (by decide) (by decide), by decide, by omega, ?_⟩
    have z2 : ∀ y : Int, 0 ≤ y.fmod many ∧ y.fmod many < many := fun y => fmod_pos m0
    exact ⟨_, sb, q _ _ ⟨rfl, rfl⟩ ok1 (z2 _).1 (z2 _).2⟩
/-- a draw -/
theorem draw_ok {T : Str → Option Fc} (hT : T "_law_draw" = some ⟨2, 5, c__law_draw⟩) {k : Nat} {S : Strm} {many : Int} {h : Hep} {b : Nat} {Q : VQ} {E : XQ} (ok : S.Ok h (b + 1)) (m0 : 0 < many) (m1 : many.natAbs.log2 < 9000)
    (q : ∀ (d : Int) (S' : Strm), S.Same S' → S'.Ok h b → 0 ≤ d → d < many → Q (.int d) (S'.on h)) : Calls T (k + 1) "_law_draw" [.ref S.a, .int many] (S.on h) Q E := by
  refine Calls_eq [some (.ref S.a), some (.int many), none, none, none] hT rfl rfl ?_
  have nb := ok.nb
  have n0 := ok.n0
  have mm0 := ok.m0
  have mm1 := ok.m1
  -- stream[2] = stream[2] + 1
  refine onL_in Strm.at_a ?_
  refine onL_in Strm.at_a ?_
  -- the cells taken
  refine ⟨fun m env g => ∃ (S1 : Strm) (x : Option Val), S.Same S1 ∧ S1.Ok h b ∧ env = [some (.ref S.a), some (.int many), x, none, none] ∧ Sub (S1.on h) g ∧ m = S1.cells.length,
    ⟨_, { S with n := S.n + 1 }, none, ⟨rfl, rfl⟩, ⟨ok.ab, ok.ha, ok.hb, ok.d0, by show 0 ≤ S.n + 1; omega, by show S.n + 1 + b ≤ _; omega, mm0, mm1, ok.len⟩, rfl, (Sub.refl _).seta (d := S.d) (n := S.n + 1) (m := S.m), rfl⟩, ?_⟩
  clear nb n0 mm0 mm1 ok
  rintro m env g ⟨S1, x, ⟨ea, eb⟩, ok1, rfl, sb, rfl⟩
  obtain ⟨Sa, Sb, Sc, Sd, Sn, Sm'⟩ := S
  obtain ⟨S1a, S1b, S1c, S1d, S1n, S1m⟩ := S1
  dsimp only at ea eb
  subst ea
  subst eb
  have sa := sb.a
  dsimp only at sa
  have k0 := ok1.d0
  have k1 := ok1.n0
  have k2 := ok1.nb
  have k3 := ok1.m0
  have k4 := ok1.m1
  dsimp only at k0 k1 k2 k3 k4
  refine onL_in sa ?_
  by_cases d0 : S1d = 0
  · refine ifT (decide_eq_true d0) ?_
    refine onL_in sa ?_
    refine newL_in fun p np => ?_
    have sp := sb.new (o := .lst []) np
    have spa := sp.a
    dsimp only at spa
    refine onD_list (sp.b ok1.ab) (datN_ints _ _ _) (shaped_ints _) ?_
    refine onD_list hset_same (datN_ints _ _ []) (shaped_ints []) ?_
    cases hc : S1c with
    | nil =>
      refine ifF rfl ?_
      exact draw_end ok1 ⟨rfl, rfl⟩ sp m0 m1 q
    | cons c cs =>
      refine ifT rfl ?_
      have spb := sp.b ok1.ab
      rw [hc] at spb
      -- cell = abs(stream[0].pop(0))
      refine onL_in spa ?_
      refine ⟨onL_in spb trivial, onL_in spb ⟨rfl, ?_⟩⟩
      have s1 := sp.setb ok1.ab (cs := cs)
      have s1a := s1.a
      dsimp only at s1a
      -- stream[3] = ..
      refine onL_in s1a ?_
      refine ⟨mulw_small (by show S1m.natAbs < 2 ^ 64; omega) (by decide), by decide, ?_⟩
      refine onL_in s1a ?_
      generalize hm' : Int.fmod _ _ = m'
      have hm2 := fmod_pos (x := S1m * 8191 + (if c < 0 then -c else c) + 3) (m := 2147483647) (by decide)
      have em : Int.fmod (S1m * 8191 + (if c < 0 then -c else c) + 3) 2147483647 = m' := hm'
      rw [em] at hm2
      have s2 := s1.seta (d := S1d) (n := S1n) (m := m')
      have s2a := s2.a
      dsimp only at s2a
      have okm : ∀ d : Int, 0 ≤ d → (⟨S1a, S1b, cs, d, S1n, m'⟩ : Strm).Ok h b := fun d hd => ⟨ok1.ab, ok1.ha, ok1.hb, hd, k1, k2, hm2.1, hm2.2, by
        have z : S1c.length ≤ 63 := ok1.len
        rw [hc, List.length_cons] at z
        show cs.length ≤ 63
        omega⟩
      refine ⟨⟨by decide, by decide, by decide⟩, ?_⟩
      by_cases hg : (10 : Int) ^ (18 : Int).toNat ≤ (if c < 0 then -c else c)
      · refine ifT (decide_eq_true hg) ?_
        refine onL_in s2a ?_
        have s3 := s2.seta (d := if c < 0 then -c else c) (n := S1n) (m := m')
        exact ⟨_, by rw [List.length_cons]; exact Nat.lt_succ_self _, ⟨S1a, S1b, cs, if c < 0 then -c else c, S1n, m'⟩, _, ⟨rfl, rfl⟩, okm _ (by split <;> omega), rfl, s3, rfl⟩
      · refine ifF (decide_eq_false hg) ?_
        refine onL_in s2a ?_
        have s3 := s2.seta (d := 0) (n := S1n) (m := m')
        exact ⟨_, by rw [List.length_cons]; exact Nat.lt_succ_self _, ⟨S1a, S1b, cs, 0, S1n, m'⟩, _, ⟨rfl, rfl⟩, okm _ (by omega), rfl, s3, rfl⟩
  · refine ifF (decide_eq_false d0) ?_
    refine ifF rfl ?_
    exact draw_end ok1 ⟨rfl, rfl⟩ sb m0 m1 q
/-- any view that holds the stream is the stream over a view -/
theorem Strm.split {S : Strm} {h g : Hep} {n : Nat} (ok : S.Ok h n) (sb : Sub (S.on h) g) : ∃ h', g = S.on h' ∧ Sub h h' ∧ S.Ok h' n := by
  refine ⟨fun x => if x = S.a ∨ x = S.b then none else g x, ?_, fun x o e => ?_, ⟨ok.ab, by simp, by simp, ok.d0, ok.n0, ok.nb, ok.m0, ok.m1, ok.len⟩⟩
  · funext x
    unfold Strm.on
    by_cases z : x = S.a
    · subst z
      rw [hset_same]
      exact sb.a
    · rw [hset_ne z]
      by_cases y : x = S.b
      · subst y
        rw [hset_same]
        exact sb.b ok.ab
      · rw [hset_ne y]
        simp [z, y]
  · have za : x ≠ S.a := fun z => by subst z; rw [ok.ha] at e; cases e
    have zb : x ≠ S.b := fun z => by subst z; rw [ok.hb] at e; cases e
    show (if x = S.a ∨ x = S.b then none else g x) = _
    rw [if_neg (by simp [za, zb])]
    exact sb x o (by unfold Strm.on; rw [hset_ne za, hset_ne zb]; exact e)
theorem Strm.Ok.le {S : Strm} {h : Hep} {n m : Nat} (ok : S.Ok h n) (l : m ≤ n) : S.Ok h m := ⟨ok.ab, ok.ha, ok.hb, ok.d0, ok.n0, by have := ok.nb; omega, ok.m0, ok.m1, ok.len⟩
theorem Strm.sub {S : Strm} {h h' : Hep} (s : Sub h h') : Sub (S.on h) (S.on h') := (s.set _ _).set _ _
theorem Strm.under {S : Strm} {h : Hep} {n : Nat} (ok : S.Ok h n) : Sub h (S.on h) := fun x o e => by
  have za : x ≠ S.a := fun z => by subst z; rw [ok.ha] at e; cases e
  have zb : x ≠ S.b := fun z => by subst z; rw [ok.hb] at e; cases e
  unfold Strm.on
  rw [hset_ne za, hset_ne zb]
  exact e

/-! ### data that is read -/
inductive D where
  | dct | non | bl (b : Bool) | int (i : Int) | str (x : Str) | lst (ds : List D) | tup (ds : List D)
  deriving Inhabited
mutual
/-- v reads as this, in the view h -/
def Rd (h : Hep) : D → Val → Prop
  | .non, v => v = .non
  | .bl b, v => v = .bl b
  | .int i, v => v = .int i
  | .str x, v => v = .str x
  | .dct, v => v = .dct
  | .lst ds, v => ∃ a xs, v = .ref a ∧ h a = some (.lst xs) ∧ Rds h ds xs
  | .tup ds, v => ∃ xs, v = .tup xs ∧ Rds h ds xs
def Rds (h : Hep) : List D → List Val → Prop
  | [], vs => vs = []
  | d :: ds, vs => ∃ v r, vs = v :: r ∧ Rd h d v ∧ Rds h ds r
end
mutual
theorem Rd.sub {h h' : Hep} (s : Sub h h') : ∀ {d : D} {v : Val}, Rd h d v → Rd h' d v
  | .non, _, r => r
  | .bl _, _, r => r
  | .int _, _, r => r
  | .str _, _, r => r
  | .dct, _, r => r
  | .lst _, _, ⟨a, xs, e, ha, r⟩ => ⟨a, xs, e, s _ _ ha, Rds.sub s r⟩
  | .tup _, _, ⟨xs, e, r⟩ => ⟨xs, e, Rds.sub s r⟩
theorem Rds.sub {h h' : Hep} (s : Sub h h') : ∀ {ds : List D} {vs : List Val}, Rds h ds vs → Rds h' ds vs
  | [], _, r => r
  | _ :: _, _, ⟨v, r, e, q, t⟩ => ⟨v, r, e, Rd.sub s q, Rds.sub s t⟩
end
theorem Rds.length {h : Hep} : ∀ {ds : List D} {vs : List Val}, Rds h ds vs → vs.length = ds.length
  | [], _, r => by rw [show _ = [] from r]; rfl
  | _ :: _, _, ⟨v, r, e, q, t⟩ => by rw [e, List.length_cons, List.length_cons, Rds.length t]
theorem Rds.nil {h : Hep} : Rds h [] [] := rfl
theorem Rds.cons {h : Hep} {d : D} {v : Val} {ds : List D} {vs : List Val} (a : Rd h d v) (b : Rds h ds vs) : Rds h (d :: ds) (v :: vs) := ⟨v, vs, rfl, a, b⟩
theorem Rds.app {h : Hep} : ∀ {ds es : List D} {vs ws : List Val}, Rds h ds vs → Rds h es ws → Rds h (ds ++ es) (vs ++ ws)
  | [], _, _, _, r, t => by rw [show _ = [] from r]; exact t
  | _ :: _, _, _, _, ⟨v, r, e, q, t⟩, z => by rw [e]; exact ⟨v, _, rfl, q, Rds.app t z⟩
def D.isL : D → Bool
  | .lst _ => true
  | _ => false
def D.isT : D → Bool
  | .tup _ => true
  | _ => false
def D.isB : D → Bool
  | .bl _ => true
  | _ => false
def D.isI : D → Bool
  | .int _ => true
  | _ => false
def D.isS : D → Bool
  | .str _ => true
  | _ => false
def D.isN : D → Bool
  | .non => true
  | _ => false
def D.ty : D → String
  | .non => "NoneType"
  | .bl _ => "bool"
  | .int _ => "int"
  | .str _ => "str"
  | .lst _ => "list"
  | .tup _ => "tuple"
  | .dct => "dict"
theorem Rd.ty {h : Hep} {d : D} {v : Val} (r : Rd h d v) : tyOf h v = some d.ty := by
  cases d with
  | lst ds =>
    obtain ⟨a, xs, rfl, ha, _⟩ := r
    simp only [tyOf, ha]
    rfl
  | tup ds =>
    obtain ⟨xs, rfl, _⟩ := r
    rfl
  | _ => cases r; rfl
/-- isinstance of what is read -/
theorem isi_ty {h : Hep} {d : D} {v : Val} (r : Rd h d v) {n : String} (hn : isKnown n = true) {Q : Bool → Prop} (q : Q (isSub d.ty n)) : opIsi v (.ty n) h Q := by
  unfold opIsi
  rw [r.ty]
  exact ⟨hn, q⟩
theorem isi_T {h : Hep} {d : D} {v : Val} (r : Rd h d v) {n : String} (hn : isKnown n = true) (hs : isSub d.ty n = true) {Q : Bool → Prop} (q : Q true) : opIsi v (.ty n) h Q := isi_ty r hn (by rw [hs]; exact q)
theorem isi_F {h : Hep} {d : D} {v : Val} (r : Rd h d v) {n : String} (hn : isKnown n = true) (hs : isSub d.ty n = false) {Q : Bool → Prop} (q : Q false) : opIsi v (.ty n) h Q := isi_ty r hn (by rw [hs]; exact q)
theorem isi_tup {h : Hep} {d : D} {v : Val} (r : Rd h d v) {cs : List Val} {b : Bool} (hb : isAny d.ty cs = some b) {Q : Bool → Prop} (q : Q b) : opIsi v (.tup cs) h Q := by
  unfold opIsi
  rw [r.ty]
  simp only [hb]
  exact q
mutual
def D.beq : D → D → Bool
  | .non, .non => true
  | .bl a, .bl b => decide (a = b)
  | .int a, .int b => decide (a = b)
  | .str a, .str b => decide (a = b)
  | .lst a, .lst b => D.beqs a b
  | .tup a, .tup b => D.beqs a b
  | .dct, .dct => true
  | _, _ => false
def D.beqs : List D → List D → Bool
  | [], [] => true
  | a :: as, b :: bs => D.beq a b && D.beqs as bs
  | _, _ => false
end
mutual
theorem D.beq_iff : ∀ {a b : D}, D.beq a b = true ↔ a = b
  | .non, b => by cases b <;> simp [D.beq]
  | .bl x, b => by cases b <;> simp [D.beq]
  | .int x, b => by cases b <;> simp [D.beq]
  | .str x, b => by cases b <;> simp [D.beq]
  | .dct, b => by cases b <;> simp [D.beq]
  | .lst x, b => by cases b <;> simp [D.beq, D.beqs_iff]
  | .tup x, b => by cases b <;> simp [D.beq, D.beqs_iff]
theorem D.beqs_iff : ∀ {a b : List D}, D.beqs a b = true ↔ a = b
  | [], b => by cases b <;> simp [D.beqs]
  | x :: xs, b => by cases b <;> simp [D.beqs, D.beq_iff, D.beqs_iff]
end
mutual
def D.dep : D → Nat
  | .lst ds => D.deps ds + 1
  | .tup ds => D.deps ds + 1
  | .dct => 2
  | _ => 0
def D.deps : List D → Nat
  | [] => 0
  | d :: ds => max (D.dep d) (D.deps ds)
end
mutual
/-- how many draws it takes to loosen it -/
def D.cnt : D → Nat
  | .lst ds => D.cnts ds + 1
  | .tup ds => D.cnts ds + 1
  | _ => 0
def D.cnts : List D → Nat
  | [] => 0
  | d :: ds => D.cnt d + D.cnts ds
end
mutual
/-- no dicts in it -/
def D.nd : D → Bool
  | .dct => false
  | .lst ds => D.nds ds
  | .tup ds => D.nds ds
  | _ => true
def D.nds : List D → Bool
  | [] => true
  | d :: ds => D.nd d && D.nds ds
end
def c__law_same : Sxs := .cons (.ife (.bi .isi (.cons (.var 1) (.cons (.tup (.cons (.ty "list") (.cons (.ty "tuple") .nil))) .nil))) (.cons (.ife (.or (.cmp .NotEq (.bi .isi (.cons (.var 0) (.cons (.ty "list") .nil))) (.bi .isi (.cons (.var 1) (.cons (.ty "list") .nil)))) (.cmp .NotEq (.bi .isi (.cons (.var 0) (.cons (.ty "tuple") .nil))) (.bi .isi (.cons (.var 1) (.cons (.ty "tuple") .nil))))) (.cons (.ret (.bl false)) .nil) .nil) (.cons (.ret (.and (.cmp .Eq (.bi .len (.cons (.var 0) .nil)) (.bi .len (.cons (.var 1) .nil))) (.bi .all (.cons (.lc (.call "_law_same" (.cons (.var 2) (.cons (.var 3) .nil))) (.tc (.nm 2) (.tc (.nm 3) .tn)) (.zip (.var 0) (.var 1)) .nil [2, 3]) .nil)))) .nil)) .nil) (.cons (.ife (.bi .isi (.cons (.var 1) (.cons (.ty "dict") .nil))) (.cons (.ret (.and (.bi .isi (.cons (.var 0) (.cons (.ty "dict") .nil))) (.call "_law_same" (.cons (.itl (.var 0)) (.cons (.itl (.var 1)) .nil))))) .nil) .nil) (.cons (.ife (.or (.bi .isi (.cons (.var 1) (.cons (.ty "bool") .nil))) (.bi .isi (.cons (.var 0) (.cons (.ty "bool") .nil)))) (.cons (.ret (.and (.bi .isi (.cons (.var 1) (.cons (.ty "bool") .nil))) (.and (.bi .isi (.cons (.var 0) (.cons (.ty "bool") .nil))) (.cmp .Eq (.var 0) (.var 1))))) .nil) .nil) (.cons (.ife (.or (.cmp .Is (.var 1) .non) (.cmp .Is (.var 0) .non)) (.cons (.ret (.and (.cmp .Is (.var 1) .non) (.cmp .Is (.var 0) .non))) .nil) .nil) (.cons (.ife (.or (.cmp .NotEq (.bi .isi (.cons (.var 1) (.cons (.ty "int") .nil))) (.bi .isi (.cons (.var 0) (.cons (.ty "int") .nil)))) (.cmp .NotEq (.bi .isi (.cons (.var 1) (.cons (.ty "str") .nil))) (.bi .isi (.cons (.var 0) (.cons (.ty "str") .nil))))) (.cons (.ret (.bl false)) .nil) .nil) (.cons (.ret (.and (.not (.bi .isi (.cons (.var 0) (.cons (.tup (.cons (.ty "list") (.cons (.ty "tuple") (.cons (.ty "dict") .nil)))) .nil)))) (.cmp .Eq (.var 0) (.var 1)))) .nil)))))
def c__law_loose : Sxs := .cons (.ife (.not (.bi .isi (.cons (.var 1) (.cons (.tup (.cons (.ty "list") (.cons (.ty "tuple") .nil))) .nil)))) (.cons (.ret (.var 1)) .nil) .nil) (.cons (.asg (.nm 2) (.lc (.call "_law_loose" (.cons (.var 0) (.cons (.var 3) .nil))) (.nm 3) (.seq (.var 1)) .nil [3])) (.cons (.ret (.ife (.cmp .Eq (.call "_law_draw" (.cons (.var 0) (.cons (.int 2) .nil))) (.int 0)) (.bi .tuple (.cons (.var 2) .nil)) (.var 2))) .nil))
def c__law_pick : Sxs := .cons (.ret (.ix (.var 1) (.call "_law_draw" (.cons (.var 0) (.cons (.bi .len (.cons (.var 1) .nil)) .nil))))) .nil
def c__law_frac : Sxs := .cons (.par [2, 3] (.cons (.bi .abs (.cons (.var 0) .nil)) (.cons (.bi .abs (.cons (.var 1) .nil)) .nil))) (.cons (.whil (.cmp .Gt (.var 3) (.int 0)) (.cons (.par [2, 3] (.cons (.var 3) (.cons (.bin .Mod (.bi .int (.cons (.var 2) .nil)) (.var 3)) .nil))) .nil)) (.cons (.asg (.nm 4) (.ife (.cmp .Gt (.var 1) (.int 0)) (.int 1) (.neg (.int 1)))) (.cons (.ret (.tup (.cons (.bin .FloorDiv (.bin .Mult (.var 4) (.var 0)) (.var 2)) (.cons (.bin .FloorDiv (.bin .Mult (.var 4) (.var 1)) (.var 2)) .nil)))) .nil)))
def c__law_stream : Sxs := .cons (.ret (.lst (.cons (.bi .list (.cons (.var 0) .nil)) (.cons (.int 0) (.cons (.int 0) (.cons (.int 17) .nil)))))) .nil
end KM
/-! KMT: picks, sameness, loosened data. -/
namespace KM
open PySem PySem.Spec PyProof.Rows L2

theorem lg_of {x : Int} (h : x.natAbs < 2 ^ 4000) : x.natAbs.log2 < 9000 := Nat.lt_trans (PySem.Flt.log2_lt_of (by decide) h) (by decide)
theorem lg_small {x : Int} (h : x.natAbs < 2 ^ 64) : x.natAbs.log2 < 9000 := Nat.lt_trans (PySem.Flt.log2_lt_of (by decide) h) (by decide)
theorem atI_nn {α : Type} {xs : List α} {d : Int} (h0 : 0 ≤ d) (h1 : d < xs.length) : ∃ x, atI xs d = some x ∧ xs[d.toNat]? = some x := by
  have h2 : d.toNat < xs.length := by omega
  refine ⟨xs[d.toNat], ?_, List.getElem?_eq_getElem h2⟩
  have e : ((d.toNat : Nat) : Int) = d := by omega
  have z := atI_nat (List.getElem?_eq_getElem h2)
  rw [e] at z
  exact z
section
variable {T : Str → Option Fc}
theorem opIx_list {h : Hep} {a : Addr} {d : Int} {P : Val → Prop} {xs : List Val} {v : Val} (e : h a = some (.lst xs)) (z : atI xs d = some v) (p : P v) : opIx (.ref a) (.int d) h P := by
  show onL h a _
  refine onL_in e ?_
  simp only [z]
  exact p
theorem opIx_tup {h : Hep} {d : Int} {P : Val → Prop} {xs : List Val} {v : Val} (z : atI xs d = some v) (p : P v) : opIx (.tup xs) (.int d) h P := by
  show (match atI xs d with
    | some v => P v
    | none => False)
  rw [z]
  exact p
/-- one of the things of a list -/
theorem pick_lst (hD : T "_law_draw" = some ⟨2, 5, c__law_draw⟩) (hT : T "_law_pick" = some ⟨2, 2, c__law_pick⟩) {k : Nat} {S : Strm} {p : Addr} {xs : List Val} {h : Hep} {b : Nat} {Q : VQ} {E : XQ} (ok : S.Ok h (b + 1)) (hp : h p = some (.lst xs)) (l0 : 0 < xs.length) (l1 : xs.length < 1000000)
    (q : ∀ (i : Nat) (x : Val) (S' : Strm), xs[i]? = some x → S.Same S' → S'.Ok h b → Q x (S'.on h)) : Calls T (k + 2) "_law_pick" [.ref S.a, .ref p] (S.on h) Q E := by
  refine Calls_eq [some (.ref S.a), some (.ref p)] hT rfl rfl ?_
  refine onJ_ref (Strm.under ok _ _ hp) ?_
  refine draw_ok hD ok (by omega) (lg_small (by omega)) fun d S' sm ok' d0 d1 => ?_
  obtain ⟨x, e1, e2⟩ := atI_nn d0 d1
  refine opIx_list (Strm.under ok' _ _ hp) e1 ?_
  exact Dr.here (q _ x S' e2 sm ok')

/-! ### sameness -/
theorem pinOk_sub {h h' : Hep} (s : Sub h h') : ∀ {ps : List (Addr × List Val)}, pinOk h ps → pinOk h' ps
  | [], _ => trivial
  | _ :: _, ⟨a, b⟩ => ⟨s _ _ a, pinOk_sub s b⟩
theorem zipV_nil_r : ∀ (xs : List Val), zipV xs [] = []
  | [] => rfl
  | _ :: _ => rfl
/-- the comparing comprehension -/
theorem same_lc {C : CalT} {ps : List (Addr × List Val)} {h : Hep} {x2 x3 : Option Val} {v w : Option Val} : ∀ (es ds : List D) (vs ws : List Val) (acc : List Bool) {Q : VQ}, Rds h ds vs → Rds h es ws → pinOk h ps → ds.length = es.length →
    (∀ e ∈ es, ∀ d v w Q E, Rd h d v → Rd h e w → Q (.bl (D.beq d e)) h → C "_law_same" [v, w] h Q E) →
    (∀ bs : List Bool, bs.all id = D.beqs ds es → newL h ((acc ++ bs).map Val.bl) Q) →
    lcW (wCs C .nil) (wE C (.call "_law_same" (.cons (.var 2) (.cons (.var 3) .nil)))) (bindT (.tc (.nm 2) (.tc (.nm 3) .tn))) ps [v, w, none, none] Q (zipV vs ws) (acc.map Val.bl) h
  | [], ds, vs, ws, acc, Q, rd, re, pn, hl, ih, q => by
    have e1 : ws = [] := re
    have e2 : ds = [] := List.eq_nil_of_length_eq_zero hl
    subst e1 e2
    have e3 : vs = [] := rd
    subst e3
    refine ⟨pn, ?_⟩
    have z := q [] rfl
    rw [List.append_nil] at z
    exact z
  | e :: es, [], vs, ws, acc, Q, rd, re, pn, hl, ih, q => by cases hl
  | e :: es, d :: ds, vs, ws, acc, Q, ⟨v1, vs', e1, r1, r2⟩, ⟨w1, ws', e2, r3, r4⟩, pn, hl, ih, q => by
    subst e1 e2
    refine ⟨pn, ?_⟩
    show C "_law_same" [v1, w1] h _ _
    refine ih e List.mem_cons_self d v1 w1 _ _ r1 r3 ?_
    have z := same_lc (C := C) (ps := ps) (h := h) (x2 := x2) (x3 := x3) (v := v) (w := w) es ds vs' ws' (acc ++ [D.beq d e]) (Q := Q) r2 r4 pn (by simpa using hl) (fun e' he => ih e' (List.mem_cons_of_mem _ he)) fun bs hb => by
      have y := q (D.beq d e :: bs) (by simp only [List.all_cons, id, hb, D.beqs])
      rw [List.append_assoc]
      exact y
    rw [List.map_append] at z
    exact z
theorem len_in {h : Hep} {d : D} {v : Val} {ds : List D} (r : Rd h d v) (e : d = .lst ds ∨ d = .tup ds) {P : VQ} (p : P (.int ds.length) h) : opF .len [v] h P := by
  show onJ h v _
  rcases e with rfl | rfl
  · obtain ⟨a, xs, rfl, ha, rs⟩ := r
    refine onJ_ref ha ?_
    rw [rs.length]
    exact p
  · obtain ⟨xs, rfl, rs⟩ := r
    refine onJ_tup ?_
    rw [rs.length]
    exact p
theorem D.deps_mem : ∀ {ds : List D} {d : D}, d ∈ ds → d.dep ≤ D.deps ds
  | _ :: _, _, h => by
    simp only [D.deps]
    rcases List.mem_cons.mp h with rfl | h
    · omega
    · have := D.deps_mem h; omega
mutual
/-- the longest list in it -/
def D.wid : D → Nat
  | .lst ds => max ds.length (D.wids ds)
  | .tup ds => max ds.length (D.wids ds)
  | _ => 0
def D.wids : List D → Nat
  | [] => 0
  | d :: ds => max (D.wid d) (D.wids ds)
end
theorem D.wids_mem : ∀ {ds : List D} {d : D}, d ∈ ds → d.wid ≤ D.wids ds
  | _ :: _, _, h => by
    simp only [D.wids]
    rcases List.mem_cons.mp h with rfl | h
    · omega
    · have := D.wids_mem h; omega
theorem zipV_len : ∀ (xs ys : List Val), (zipV xs ys).length ≤ ys.length
  | [], ys => by simp [zipV]
  | _ :: _, [] => by simp [zipV]
  | _ :: xs, _ :: ys => by simp only [zipV, List.length_cons]; have := zipV_len xs ys; omega
theorem D.beqs_len : ∀ {as bs : List D}, D.beqs as bs = true → as.length = bs.length
  | as, bs, h => by rw [D.beqs_iff.mp h]
theorem same_ok (hT : T "_law_same" = some ⟨2, 4, c__law_same⟩) : ∀ (n : Nat) (e d : D) (v w : Val) (h : Hep) (Q : VQ) (E : XQ), e.dep < n → e.wid < 1000000 → Rd h d v → Rd h e w → Q (.bl (D.beq d e)) h → Calls T n "_law_same" [v, w] h Q E := by
  intro n
  induction n with
  | zero => intro e d v w h Q E hn; exact absurd hn (Nat.not_lt_zero _)
  | succ n ih =>
    intro e d v w h Q E hn hw rd re q
    refine Calls_eq [some v, some w, none, none] hT rfl rfl ?_
    have low : ∀ {es : List D}, D.deps es + 1 < n + 1 → max es.length (D.wids es) < 1000000 → ∀ e ∈ es, ∀ d v w Q E, Rd h d v → Rd h e w → Q (.bl (D.beq d e)) h → Calls T n "_law_same" [v, w] h Q E :=
      fun {es} hn hw e he d v w Q E rd re q => ih e d v w h Q E (by have := D.deps_mem he; omega) (by have := D.wids_mem he; omega) rd re q
    cases e with
    | lst es =>
      cases d with
      | lst ds =>
        refine isi_tup re (b := true) rfl ?_
        refine isi_T rd rfl rfl ?_
        refine isi_T re rfl rfl ?_
        refine isi_F rd rfl rfl ?_
        refine isi_F re rfl rfl ?_
        obtain ⟨a, xs, rfl, ha, r1⟩ := rd
        obtain ⟨a2, ys, rfl, ha2, r2⟩ := re
        refine onJ_ref ha ?_
        refine onJ_ref ha2 ?_
        by_cases hl : xs.length = ys.length
        · refine ifT (decide_eq_true (by rw [hl])) ?_
          refine src_refI ha ?_
          refine src_refI ha2 ?_
          refine ⟨?_, ?_⟩
          · exact Nat.lt_of_le_of_lt (zipV_len _ _) (by rw [r2.length]; have z : max es.length (D.wids es) < 1000000 := hw; omega)
          · refine same_lc (x2 := none) (x3 := none) es ds xs ys [] r1 r2 ⟨ha, ha2, trivial⟩ (by rw [← r1.length, hl, r2.length]) (low hn hw) fun bs hb => ?_
            refine newL_in fun p np => ?_
            refine onB_in hset_same ?_
            have q2 : Q (.bl (bs.all id)) h := by rw [hb]; exact q
            exact ⟨h, (Sub.refl h).new np, q2⟩
        · refine ifF (decide_eq_false (by omega)) ?_
          have z : D.beqs ds es = false := by
            cases y : D.beqs ds es with
            | false => rfl
            | true => exact absurd (by rw [r1.length, r2.length, D.beqs_len y]) hl
          simp only [D.beq, z] at q
          have e : decide ((xs.length : Int) = ys.length) = false := decide_eq_false (by omega)
          exact Dr.here (by rw [e]; exact q)
      | _ =>
        refine isi_tup re (b := true) rfl ?_
        refine isi_F rd rfl rfl ?_
        refine isi_T re rfl rfl ?_
        exact Dr.here q
    | tup es =>
      cases d with
      | tup ds =>
        refine isi_tup re (b := true) rfl ?_
        refine isi_F rd rfl rfl ?_
        refine isi_F re rfl rfl ?_
        refine isi_T rd rfl rfl ?_
        refine isi_T re rfl rfl ?_
        obtain ⟨xs, rfl, r1⟩ := rd
        obtain ⟨ys, rfl, r2⟩ := re
        refine onJ_tup ?_
        refine onJ_tup ?_
        by_cases hl : xs.length = ys.length
        · refine ifT (decide_eq_true (by rw [hl])) ?_
          refine src_tupI ?_
          refine src_tupI ?_
          refine ⟨?_, ?_⟩
          · exact Nat.lt_of_le_of_lt (zipV_len _ _) (by rw [r2.length]; have z : max es.length (D.wids es) < 1000000 := hw; omega)
          · refine same_lc (x2 := none) (x3 := none) es ds xs ys [] r1 r2 trivial (by rw [← r1.length, hl, r2.length]) (low hn hw) fun bs hb => ?_
            refine newL_in fun p np => ?_
            refine onB_in hset_same ?_
            have q2 : Q (.bl (bs.all id)) h := by rw [hb]; exact q
            exact ⟨h, (Sub.refl h).new np, q2⟩
        · refine ifF (decide_eq_false (by omega)) ?_
          have z : D.beqs ds es = false := by
            cases y : D.beqs ds es with
            | false => rfl
            | true => exact absurd (by rw [r1.length, r2.length, D.beqs_len y]) hl
          simp only [D.beq, z] at q
          have e : decide ((xs.length : Int) = ys.length) = false := decide_eq_false (by omega)
          exact Dr.here (by rw [e]; exact q)
      | lst ds =>
        refine isi_tup re (b := true) rfl ?_
        refine isi_T rd rfl rfl ?_
        refine isi_F re rfl rfl ?_
        exact Dr.here q
      | _ =>
        refine isi_tup re (b := true) rfl ?_
        refine isi_F rd rfl rfl ?_
        refine isi_F re rfl rfl ?_
        refine isi_F rd rfl rfl ?_
        refine isi_T re rfl rfl ?_
        exact Dr.here q
    | dct =>
      have z : w = .dct := re
      subst z
      refine isi_tup re (b := false) rfl ?_
      refine isi_T re rfl rfl ?_
      cases d with
      | dct =>
        have z : v = .dct := rd
        subst z
        refine isi_T rd rfl rfl ?_
        have hn : 2 < n + 1 := hn
        refine newL_in fun p np => ?_
        have s1 := (Sub.refl h).new (o := .lst []) np
        refine newL_in fun p2 np2 => ?_
        have s2 := (Sub.refl (hset h p (.lst []))).new (o := .lst []) np2
        exact ih (.lst []) (.lst []) (.ref p) (.ref p2) _ _ _ (show 1 < n by omega) (by decide) ⟨p, [], rfl, s2 _ _ hset_same, rfl⟩ ⟨p2, [], rfl, hset_same, rfl⟩ ⟨h, s1.trans s2, q⟩
      | _ =>
        all_goals (refine isi_F rd rfl rfl ?_)
        all_goals exact Dr.here q
    | _ =>
      all_goals cases d
      all_goals (first | (have z : w = _ := re; subst z))
      all_goals (first | (have z : v = _ := rd; subst z) | (obtain ⟨a, xs, e, _, _⟩ := id rd; subst e) | (obtain ⟨xs, e, _⟩ := id rd; subst e))
      all_goals (repeat (first | refine isi_tup re (b := true) rfl ?_ | refine isi_tup re (b := false) rfl ?_ | refine isi_T re rfl rfl ?_ | refine isi_F re rfl rfl ?_ | refine isi_tup rd (b := true) rfl ?_ | refine isi_tup rd (b := false) rfl ?_ | refine isi_T rd rfl rfl ?_ | refine isi_F rd rfl rfl ?_))
      all_goals (first | exact Dr.here q | trace_state)
end
end KM
/-! KMU: loosened data. -/
namespace KM
open PySem PySem.Spec PyProof.Rows L2
mutual
/-- the same with tuples for lists -/
def D.tp : D → D
  | .lst ds => .tup (D.tps ds)
  | .tup ds => .tup (D.tps ds)
  | .non => .non
  | .bl b => .bl b
  | .int i => .int i
  | .str x => .str x
  | .dct => .dct
def D.tps : List D → List D
  | [] => []
  | d :: ds => D.tp d :: D.tps ds
end
theorem Strm.newOn {S : Strm} {h : Hep} {n : Nat} {p : Addr} {o : Ob} (ok : S.Ok h n) (np : S.on h p = none) : hset (S.on h) p o = S.on (hset h p o) ∧ S.Ok (hset h p o) n ∧ h p = none := by
  have pa : p ≠ S.a := fun e => by subst e; rw [Strm.at_a] at np; cases np
  have pb : p ≠ S.b := fun e => by subst e; rw [Strm.at_b ok.ab] at np; cases np
  have hp : h p = none := by
    unfold Strm.on at np
    rw [hset_ne pa, hset_ne pb] at np
    exact np
  refine ⟨?_, ⟨ok.ab, ?_, ?_, ok.d0, ok.n0, ok.nb, ok.m0, ok.m1, ok.len⟩, hp⟩
  · funext x
    unfold Strm.on
    by_cases e : x = p
    · subst e
      rw [hset_same, hset_ne pa, hset_ne pb, hset_same]
    · rw [hset_ne e]
      by_cases ea : x = S.a
      · subst ea; rw [hset_same, hset_same]
      · rw [hset_ne ea, hset_ne ea]
        by_cases eb : x = S.b
        · subst eb; rw [hset_same, hset_same]
        · rw [hset_ne eb, hset_ne eb, hset_ne e]
  · rw [hset_ne (Ne.symm pa)]; exact ok.ha
  · rw [hset_ne (Ne.symm pb)]; exact ok.hb
theorem Strm.Same.trans {S S1 S2 : Strm} (x : S.Same S1) (y : S1.Same S2) : S.Same S2 := ⟨y.1.trans x.1, y.2.trans x.2⟩
theorem Strm.Same.refl (S : Strm) : S.Same S := ⟨rfl, rfl⟩
theorem onI_lst {h : Hep} {a : Addr} {xs : List Val} {P : List Val → Prop} (e : h a = some (.lst xs)) (p : P xs) : onI h (.ref a) P := onL_in e p
section
variable {T : Str → Option Fc}
theorem loose_lc {C : CalT} {a : Addr} {ps : List (Addr × List Val)} {v : Val} : ∀ (ds : List D) {vs : List Val} {acc : List Val} {S : Strm} {h : Hep} {b : Nat} {Q : VQ}, Rds h ds vs → pinOk h ps → S.a = a → S.Ok h (b + D.cnts ds) →
    (∀ d ∈ ds, ∀ (v : Val) (S : Strm) (h : Hep) (b : Nat) (Q : VQ) (E : XQ), Rd h d v → S.a = a → S.Ok h (b + d.cnt) → (∀ (v' : Val) (d' : D) (h' : Hep) (S' : Strm), Sub h h' → S.Same S' → S'.Ok h' b → Rd h' d' v' → d'.tp = d.tp → Q v' (S'.on h')) → C "_law_loose" [.ref a, v] (S.on h) Q E) →
    (∀ (vs' : List Val) (ds' : List D) (h' : Hep) (S' : Strm), Sub h h' → S.Same S' → S'.Ok h' b → Rds h' ds' vs' → D.tps ds' = D.tps ds → newL (S'.on h') (acc ++ vs') Q) →
    lcW (wCs C .nil) (wE C (.call "_law_loose" (.cons (.var 0) (.cons (.var 3) .nil)))) (bindT (.nm 3)) ps [some (.ref a), some v, none, none] Q vs acc (S.on h)
  | [], vs, acc, S, h, b, Q, rd, pn, ea, ok, ih, q => by
    have e : vs = [] := rd
    subst e
    refine ⟨pinOk_sub (Strm.under ok) pn, ?_⟩
    have z := q [] [] h S (Sub.refl h) (Strm.Same.refl S) ok Rds.nil rfl
    rw [List.append_nil] at z
    exact z
  | d :: ds, vs, acc, S, h, b, Q, ⟨v1, vs1, e, r1, r2⟩, pn, ea, ok, ih, q => by
    subst e
    refine ⟨pinOk_sub (Strm.under ok) pn, ?_⟩
    show C "_law_loose" [.ref a, v1] (S.on h) _ _
    refine ih d List.mem_cons_self v1 S h (b + D.cnts ds) _ _ r1 ea (ok.le (by simp only [D.cnts]; omega)) fun v' d' h' S' s sm ok' rd' e' => ?_
    refine loose_lc ds (S := S') (h := h') (b := b) (r2.sub s) (pinOk_sub s pn) (sm.1.trans ea) ok' (fun d hd => ih d (List.mem_cons_of_mem _ hd)) fun vs' ds' h2 S2 s2 sm2 ok2 rds2 e2 => ?_
    have z := q (v' :: vs') (d' :: ds') h2 S2 (s.trans s2) (sm.trans sm2) ok2 (Rds.cons (rd'.sub s2) rds2) (by simp only [D.tps, e', e2])
    rw [List.append_assoc]
    exact z
theorem loose_ok (hD : T "_law_draw" = some ⟨2, 5, c__law_draw⟩) (hT : T "_law_loose" = some ⟨2, 4, c__law_loose⟩) : ∀ (n : Nat) (d : D) (v : Val) (S : Strm) (h : Hep) (b : Nat) (Q : VQ) (E : XQ), d.dep < n → d.wid < 1000000 → Rd h d v → S.Ok h (b + d.cnt) →
    (∀ (v' : Val) (d' : D) (h' : Hep) (S' : Strm), Sub h h' → S.Same S' → S'.Ok h' b → Rd h' d' v' → d'.tp = d.tp → Q v' (S'.on h')) → Calls T n "_law_loose" [.ref S.a, v] (S.on h) Q E := by
  intro n
  induction n with
  | zero => intro d v S h b Q E hn; exact absurd hn (Nat.not_lt_zero _)
  | succ n ih =>
    intro d v S h b Q E hn hw rd ok q
    refine Calls_eq [some (.ref S.a), some v, none, none] hT rfl rfl ?_
    have leaf : d.cnt = 0 → Q v (S.on h) := fun e => q v d h S (Sub.refl h) (Strm.Same.refl S) (ok.le (by omega)) rd rfl
    have ro := rd.sub (Strm.under ok)
    have fin : ∀ (ds : List D) (vs' : List Val) (ds' : List D) (h' : Hep) (S' : Strm), D.deps ds + 1 < n + 1 → Sub h h' → S.Same S' → S'.Ok h' (b + 1) → Rds h' ds' vs' → d.tp = .tup (D.tps ds') → 0 < n →
        newL (S'.on h') vs' fun x h1 => wSs (Calls T n) (.cons (.ret (.ife (.cmp .Eq (.call "_law_draw" (.cons (.var 0) (.cons (.int 2) .nil))) (.int 0)) (.bi .tuple (.cons (.var 2) .nil)) (.var 2))) .nil) [some (.ref S.a), some v, some x, none] h1 { nx := fun _ h1 => Dr h1 (Q .non), rt := fun v h1 => Dr h1 (Q v), bk := fun _ _ => False, ct := fun _ _ => False } (fun x _ h1 => Dr h1 (E x)) := by
      intro ds vs' ds' h' S' hd s sm ok' rds' e' n0
      refine newL_in fun p np => ?_
      obtain ⟨e1, ok1, hp⟩ := Strm.newOn (o := .lst vs') ok' np
      rw [e1]
      obtain ⟨m, rfl⟩ : ∃ m, n = m + 1 := ⟨n - 1, by omega⟩
      have sx : Sub h' (hset h' p (.lst vs')) := (Sub.refl h').new hp
      show Calls T (m + 1) "_law_draw" [.ref S.a, .int 2] _ _ _
      rw [← sm.1]
      refine draw_ok hD ok1 (by decide) (by decide) fun x S2 sm2 ok2 x0 x1 => ?_
      by_cases hx : x = 0
      · refine ifT (decide_eq_true hx) ?_
        refine onJ_ref (Strm.under ok2 _ _ hset_same) ?_
        exact Dr.here (q _ (.tup ds') _ S2 (s.trans sx) (sm.trans sm2) ok2 ⟨_, rfl, rds'.sub sx⟩ (by rw [e']; rfl))
      · refine ifF (decide_eq_false hx) ?_
        exact Dr.here (q _ (.lst ds') _ S2 (s.trans sx) (sm.trans sm2) ok2 ⟨p, _, rfl, hset_same, rds'.sub sx⟩ (by rw [e']; rfl))
    cases d with
    | lst ds =>
      refine isi_tup ro (b := true) rfl ?_
      obtain ⟨a, xs, rfl, ha, r1⟩ := rd
      have hn' : D.deps ds + 1 < n + 1 := hn
      have hw' : max ds.length (D.wids ds) < 1000000 := hw
      refine src_refI (Strm.under ok _ _ ha) ?_
      refine ⟨show xs.length < 1000000 by rw [r1.length]; omega, ?_⟩
      refine loose_lc ds (ps := [(a, xs)]) (b := b + 1) r1 ⟨ha, trivial⟩ rfl (ok.le (by simp only [D.cnt]; omega)) (fun d hd v S' h b Q E rd e ok q => e ▸ ih d v S' h b Q E (by have := D.deps_mem hd; omega) (by have := D.wids_mem hd; omega) rd ok q) fun vs' ds' h' S' s sm ok' rds' e' => ?_
      exact fin ds vs' ds' h' S' hn' s sm ok' rds' (by simp only [D.tp, e']) (by omega)
    | tup ds =>
      refine isi_tup ro (b := true) rfl ?_
      obtain ⟨xs, rfl, r1⟩ := rd
      have hn' : D.deps ds + 1 < n + 1 := hn
      have hw' : max ds.length (D.wids ds) < 1000000 := hw
      refine src_tupI ?_
      refine ⟨show xs.length < 1000000 by rw [r1.length]; omega, ?_⟩
      refine loose_lc ds (ps := []) (b := b + 1) r1 trivial rfl (ok.le (by simp only [D.cnt]; omega)) (fun d hd v S' h b Q E rd e ok q => e ▸ ih d v S' h b Q E (by have := D.deps_mem hd; omega) (by have := D.wids_mem hd; omega) rd ok q) fun vs' ds' h' S' s sm ok' rds' e' => ?_
      exact fin ds vs' ds' h' S' hn' s sm ok' rds' (by simp only [D.tp, e']) (by omega)
    | _ =>
      refine isi_tup ro (b := false) rfl ?_
      exact Dr.here (leaf rfl)
end
end KM
/-! KMR: fractions as rational numbers. -/
namespace KM
open PySem PySem.Spec PyProof.Rows L2
/-- a fraction as the program holds it -/
def fr (x : Rat) : Val := .tup [.int x.num, .int x.den]
def dr (x : Rat) : D := .tup [.int x.num, .int x.den]
theorem rd_fr (h : Hep) (x : Rat) : Rd h (dr x) (fr x) := ⟨_, rfl, _, _, rfl, rfl, _, _, rfl, rfl, rfl⟩
theorem fr_inj {x y : Rat} : fr x = fr y ↔ x = y := by
  refine ⟨fun h => ?_, fun h => by rw [h]⟩
  unfold fr at h
  injection h with h
  injection h with h1 h2
  injection h1 with h1
  injection h2 with h2 _
  injection h2 with h2
  exact Rat.ext h1 (by omega)
theorem dr_inj {x y : Rat} : dr x = dr y ↔ x = y := by
  refine ⟨fun h => ?_, fun h => by rw [h]⟩
  unfold dr at h
  injection h with h
  injection h with h1 h2
  injection h1 with h1
  injection h2 with h2 _
  injection h2 with h2
  exact Rat.ext h1 (by omega)
/-- not too long -/
def Bd (n : Nat) (x : Rat) : Prop := x.num.natAbs < 2 ^ n ∧ x.den < 2 ^ n
theorem Bd.mono {n m : Nat} {x : Rat} (h : Bd n x) (l : n ≤ m) : Bd m x :=
  ⟨Nat.lt_of_lt_of_le h.1 (Nat.pow_le_pow_right (by decide) l), Nat.lt_of_lt_of_le h.2 (Nat.pow_le_pow_right (by decide) l)⟩
theorem natAbs_ediv_le (a : Int) (g : Nat) : (a / (g : Int)).natAbs ≤ a.natAbs := by
  rcases Nat.eq_zero_or_pos g with e | e
  · subst e; simp
  · exact Int.natAbs_ediv_le_natAbs _ _
theorem Bd.divInt {n : Nat} {a b : Int} (ha : a.natAbs < 2 ^ n) (hb : b.natAbs < 2 ^ n) : Bd (n + 1) (Rat.divInt a b) := by
  have two : 2 ^ n < 2 ^ (n + 1) := by rw [Nat.pow_succ]; have := Nat.two_pow_pos n; omega
  constructor
  · rw [Rat.num_divInt]
    refine Nat.lt_of_le_of_lt (natAbs_ediv_le _ _) ?_
    rw [Int.natAbs_mul]
    have : b.sign.natAbs ≤ 1 := by rw [Int.natAbs_sign]; split <;> omega
    have := Nat.mul_le_mul_right a.natAbs this
    omega
  · rw [Rat.den_divInt]
    split
    · have := Nat.two_pow_pos n; rw [Nat.pow_succ]; omega
    · exact Nat.lt_of_le_of_lt (Nat.div_le_self _ _) (by omega)
theorem pow_lt_mul {a b n m : Nat} (ha : a < 2 ^ n) (hb : b < 2 ^ m) : a * b < 2 ^ (n + m) := by
  rw [Nat.pow_add]
  exact Nat.mul_lt_mul'' ha hb
theorem add_eq_divInt (x y : Rat) : x + y = Rat.divInt (x.num * y.den + y.num * x.den) (x.den * y.den) := by
  rw [Rat.add_def, Rat.normalize_eq_mkRat, ← Rat.divInt_ofNat]; simp
theorem sub_eq_divInt (x y : Rat) : x - y = Rat.divInt (x.num * y.den - y.num * x.den) (x.den * y.den) := by
  rw [Rat.sub_def, Rat.normalize_eq_mkRat, ← Rat.divInt_ofNat]; simp
theorem mul_eq_divInt (x y : Rat) : x * y = Rat.divInt (x.num * y.num) (x.den * y.den) := by
  rw [Rat.mul_def, Rat.normalize_eq_mkRat, ← Rat.divInt_ofNat]; simp
theorem div_eq_divInt (x y : Rat) : x / y = Rat.divInt (x.num * y.den) (x.den * y.num) := by
  rw [Rat.div_def, Rat.inv_def, ← Rat.divInt_mul_divInt, Rat.num_divInt_den]
def c_is_list : Sxs := .cons (.ret (.bi .isi (.cons (.var 0) (.cons (.tup (.cons (.ty "list") (.cons (.ty "tuple") .nil))) .nil)))) .nil
def c_is_whole : Sxs := .cons (.ret (.and (.bi .isi (.cons (.var 0) (.cons (.ty "int") .nil))) (.not (.bi .isi (.cons (.var 0) (.cons (.ty "bool") .nil)))))) .nil
def c_is_row : Sxs := .cons (.ret (.and (.call "is_list" (.cons (.var 0) .nil)) (.cmp .Eq (.bi .len (.cons (.var 0) .nil)) (.var 1)))) .nil
def c_common_divisor : Sxs := .cons (.par [0, 1] (.cons (.bi .abs (.cons (.var 0) .nil)) (.cons (.bi .abs (.cons (.var 1) .nil)) .nil))) (.cons (.whil (.var 1) (.cons (.par [0, 1] (.cons (.var 1) (.cons (.bin .Mod (.var 0) (.var 1)) .nil))) .nil)) (.cons (.ret (.var 0)) .nil))
def c_reduced : Sxs := .cons (.asg (.nm 2) (.call "common_divisor" (.cons (.var 0) (.cons (.var 1) .nil)))) (.cons (.ife (.cmp .Lt (.var 1) (.int 0)) (.cons (.asg (.nm 2) (.neg (.var 2))) .nil) .nil) (.cons (.ret (.tup (.cons (.bin .FloorDiv (.var 0) (.var 2)) (.cons (.bin .FloorDiv (.var 1) (.var 2)) .nil)))) .nil))
def c_minus : Sxs := .cons (.ret (.call "reduced" (.cons (.bin .Sub (.bin .Mult (.ix (.var 0) (.int 0)) (.ix (.var 1) (.int 1))) (.bin .Mult (.ix (.var 1) (.int 0)) (.ix (.var 0) (.int 1)))) (.cons (.bin .Mult (.ix (.var 0) (.int 1)) (.ix (.var 1) (.int 1))) .nil)))) .nil
def c_is_under : Sxs := .cons (.ret (.cmp .Lt (.bin .Mult (.ix (.var 0) (.int 0)) (.ix (.var 1) (.int 1))) (.bin .Mult (.ix (.var 1) (.int 0)) (.ix (.var 0) (.int 1))))) .nil
def c_kept_fraction : Sxs := .cons (.ife (.or (.not (.call "is_row" (.cons (.var 0) (.cons (.int 2) .nil)))) (.or (.not (.call "is_whole" (.cons (.ix (.var 0) (.int 0)) .nil))) (.not (.call "is_whole" (.cons (.ix (.var 0) (.int 1)) .nil))))) (.cons (.ret .non) .nil) .nil) (.cons (.ife (.or (.cmp .Lt (.ix (.var 0) (.int 1)) (.int 1)) (.cmp .NotEq (.call "common_divisor" (.cons (.ix (.var 0) (.int 0)) (.cons (.ix (.var 0) (.int 1)) .nil))) (.int 1))) (.cons (.ret .non) .nil) .nil) (.cons (.ret (.tup (.cons (.ix (.var 0) (.int 0)) (.cons (.ix (.var 0) (.int 1)) .nil)))) .nil))
def c_need_two : Sxs := .cons (.par [2, 3] (.cons (.call "kept_fraction" (.cons (.var 0) .nil)) (.cons (.call "kept_fraction" (.cons (.var 1) .nil)) .nil))) (.cons (.ife (.cmp .Is (.var 2) .non) (.cons .bad .nil) .nil) (.cons (.ife (.cmp .Is (.var 3) .non) (.cons .bad .nil) .nil) (.cons (.ret (.tup (.cons (.var 2) (.cons (.var 3) .nil)))) .nil)))
def c_need_fraction : Sxs := .cons (.asg (.nm 1) (.call "kept_fraction" (.cons (.var 0) .nil))) (.cons (.ife (.cmp .Is (.var 1) .non) (.cons .bad .nil) .nil) (.cons (.ret (.var 1)) .nil))
def c__law_plus : Sxs := .cons (.ret (.call "_law_frac" (.cons (.bin .Add (.bin .Mult (.ix (.var 0) (.int 0)) (.ix (.var 1) (.int 1))) (.bin .Mult (.ix (.var 1) (.int 0)) (.ix (.var 0) (.int 1)))) (.cons (.bin .Mult (.ix (.var 0) (.int 1)) (.ix (.var 1) (.int 1))) .nil)))) .nil
def c__law_minus : Sxs := .cons (.ret (.call "_law_frac" (.cons (.bin .Sub (.bin .Mult (.ix (.var 0) (.int 0)) (.ix (.var 1) (.int 1))) (.bin .Mult (.ix (.var 1) (.int 0)) (.ix (.var 0) (.int 1)))) (.cons (.bin .Mult (.ix (.var 0) (.int 1)) (.ix (.var 1) (.int 1))) .nil)))) .nil
def c__law_under : Sxs := .cons (.ret (.cmp .Lt (.bin .Mult (.ix (.var 0) (.int 0)) (.ix (.var 1) (.int 1))) (.bin .Mult (.ix (.var 1) (.int 0)) (.ix (.var 0) (.int 1))))) .nil
def c__law_q_neg : Sxs := .cons (.ret (.tup (.cons (.neg (.ix (.var 0) (.int 0))) (.cons (.ix (.var 0) (.int 1)) .nil)))) .nil
def c__law_far : Sxs := .cons (.asg (.nm 2) (.call "_law_minus" (.cons (.var 0) (.cons (.var 1) .nil)))) (.cons (.ret (.ife (.cmp .GtE (.ix (.var 2) (.int 0)) (.int 0)) (.var 2) (.call "_law_q_neg" (.cons (.var 2) .nil)))) .nil)

theorem nat_fmod (a b : Nat) : (a : Int).fmod b = ((a % b : Nat) : Int) := by
  rw [Int.fmod_eq_emod_of_nonneg _ (by omega)]; rfl
theorem abs_nat (i : Int) : (if i < 0 then -i else i) = (i.natAbs : Int) := by split <;> omega
section
variable {T : Str → Option Fc}
/-- the greatest common divisor -/
theorem cd_ok (hT : T "common_divisor" = some ⟨2, 2, c_common_divisor⟩) {k : Nat} {a b : Int} {h : Hep} {Q : VQ} {E : XQ} (q : Q (.int (Int.gcd a b)) h) : Calls T (k + 1) "common_divisor" [.int a, .int b] h Q E := by
  refine Calls_eq [some (.int a), some (.int b)] hT rfl rfl ?_
  show wSs _ (.cons (.whil _ _) _) [some (.int (if a < 0 then -a else a)), some (.int (if b < 0 then -b else b))] h _ _
  rw [abs_nat, abs_nat]
  refine ⟨fun m env g => g = h ∧ ∃ x y : Nat, env = [some (.int x), some (.int y)] ∧ Nat.gcd x y = Int.gcd a b ∧ y = m, ⟨_, rfl, _, _, rfl, rfl, rfl⟩, ?_⟩
  rintro m env g ⟨rfl, x, y, rfl, hg, rfl⟩
  by_cases hy : y = 0
  · refine ifF (by simp [hy]) ?_
    rw [hy, Nat.gcd_zero_right] at hg
    refine Dr.here ?_
    rw [hg]
    exact q
  · refine ifT (by simp; omega) ?_
    refine ⟨by omega, ?_⟩
    rw [nat_fmod]
    refine ⟨_, Nat.mod_lt x (by omega), rfl, _, _, rfl, ?_, rfl⟩
    rw [← hg, Nat.gcd_comm, ← Nat.gcd_rec, Nat.gcd_comm]
theorem fdiv_nat (a : Int) (g : Nat) : a.fdiv g = a / (g : Int) := Int.fdiv_eq_ediv_of_nonneg _ (by omega)
theorem divInt_fr {a b : Int} (hb : b ≠ 0) : fr (Rat.divInt a b) = .tup [.int ((b.sign * a) / (Int.gcd a b : Int)), .int ((b.natAbs : Int) / (Int.gcd a b : Int))] := by
  unfold fr
  rw [Rat.num_divInt, Rat.den_divInt, if_neg hb, Int.gcd_comm]
  rfl
theorem gcd_lt {n : Nat} {a b : Int} (hb : b ≠ 0) (h : b.natAbs < 2 ^ n) : 0 < Int.gcd a b ∧ Int.gcd a b < 2 ^ n := by
  have z := Int.gcd_pos_of_ne_zero_right a hb
  have y : Int.gcd a b ≤ b.natAbs := Nat.le_of_dvd (by omega) (Nat.gcd_dvd_right _ _)
  omega
theorem divg_ok {n : Nat} {j : Int} (h0 : j ≠ 0) (h : j.natAbs < 2 ^ n) (hn : 0 < n) (hn1 : n ≤ 9000) : CDivG j := ⟨h0, Nat.lt_of_lt_of_le (PySem.Flt.log2_lt_of hn h) hn1⟩
/-- the law's fraction of two integers -/
theorem lfrac_ok (hT : T "_law_frac" = some ⟨2, 5, c__law_frac⟩) {k n : Nat} {a b : Int} {h : Hep} {Q : VQ} {E : XQ} (hb : b ≠ 0) (h0 : 0 < n) (h1 : n ≤ 8000) (la : a.natAbs < 2 ^ n) (lb : b.natAbs < 2 ^ n) (q : Q (fr (Rat.divInt a b)) h) : Calls T (k + 1) "_law_frac" [.int a, .int b] h Q E := by
  refine Calls_eq [some (.int a), some (.int b), none, none, none] hT rfl rfl ?_
  show wSs _ (.cons (.whil _ _) _) [some (.int a), some (.int b), some (.int (if a < 0 then -a else a)), some (.int (if b < 0 then -b else b)), none] h _ _
  rw [abs_nat, abs_nat]
  refine ⟨fun m env g => g = h ∧ ∃ x y : Nat, env = [some (.int a), some (.int b), some (.int x), some (.int y), none] ∧ Nat.gcd x y = Int.gcd a b ∧ y = m, ⟨_, rfl, _, _, rfl, rfl, rfl⟩, ?_⟩
  rintro m env g ⟨rfl, x, y, rfl, hg, rfl⟩
  by_cases hy : y = 0
  · refine ifF (decide_eq_false (by omega)) ?_
    rw [hy, Nat.gcd_zero_right] at hg
    subst hg
    have gb := gcd_lt (a := a) hb lb
    have dv : CDivG ((Int.gcd a b : Nat) : Int) := divg_ok (by omega) (by simpa using gb.2) h0 (by omega)
    rw [divInt_fr hb] at q
    by_cases hp : 0 < b
    · refine ifT (decide_eq_true hp) ?_
      refine ⟨wide_mul (a := 1) (by decide) la (by decide) h0 (by omega), dv, wide_mul (a := 1) (by decide) lb (by decide) h0 (by omega), dv, ?_⟩
      rw [fdiv_nat, fdiv_nat]
      refine Dr.here ?_
      rw [Int.sign_eq_one_of_pos hp, Int.natAbs_of_nonneg (by omega)] at q
      rw [Int.one_mul, Int.one_mul] at *
      exact q
    · refine ifF (decide_eq_false hp) ?_
      refine ⟨wide_mul (a := 1) (by decide) la (by decide) h0 (by omega), dv, wide_mul (a := 1) (by decide) lb (by decide) h0 (by omega), dv, ?_⟩
      rw [fdiv_nat, fdiv_nat]
      refine Dr.here ?_
      rw [Int.sign_eq_neg_one_of_neg (by omega), show ((b.natAbs : Nat) : Int) = -1 * b by omega] at q
      exact q
  · refine ifT (by simp; omega) ?_
    refine ⟨by omega, ?_⟩
    rw [nat_fmod]
    refine ⟨_, Nat.mod_lt x (by omega), rfl, _, _, rfl, ?_, rfl⟩
    rw [← hg, Nat.gcd_comm, ← Nat.gcd_rec, Nat.gcd_comm]
structure RedLib (T : Str → Option Fc) : Prop where
  cd : T "common_divisor" = some ⟨2, 2, c_common_divisor⟩
  red : T "reduced" = some ⟨2, 3, c_reduced⟩
theorem red_ok (hT : RedLib T) {k n : Nat} {a b : Int} {h : Hep} {Q : VQ} {E : XQ} (hb : b ≠ 0) (h0 : 0 < n) (h1 : n ≤ 8000) (lb : b.natAbs < 2 ^ n) (q : Q (fr (Rat.divInt a b)) h) : Calls T (k + 2) "reduced" [.int a, .int b] h Q E := by
  refine Calls_eq [some (.int a), some (.int b), none] hT.red rfl rfl ?_
  refine cd_ok hT.cd ?_
  have gb := gcd_lt (a := a) hb lb
  rw [divInt_fr hb] at q
  by_cases hp : b < 0
  · refine ifT (decide_eq_true hp) ?_
    have dv : CDivG (-((Int.gcd a b : Nat) : Int)) := divg_ok (by omega) (by simpa using gb.2) h0 (by omega)
    refine ⟨dv, dv, ?_⟩
    refine Dr.here ?_
    have e : ∀ x : Int, x.fdiv (-((Int.gcd a b : Nat) : Int)) = (-x) / (Int.gcd a b : Int) := fun x => by
      rw [← Int.neg_fdiv_neg, Int.neg_neg, fdiv_nat]
    rw [e, e]
    rw [Int.sign_eq_neg_one_of_neg hp, show ((b.natAbs : Nat) : Int) = -b by omega, Int.neg_one_mul] at q
    exact q
  · refine ifF (decide_eq_false hp) ?_
    have dv : CDivG (((Int.gcd a b : Nat) : Int)) := divg_ok (by omega) (by simpa using gb.2) h0 (by omega)
    refine ⟨dv, dv, ?_⟩
    refine Dr.here ?_
    rw [fdiv_nat, fdiv_nat]
    rw [Int.sign_eq_one_of_pos (by omega), Int.natAbs_of_nonneg (by omega), Int.one_mul] at q
    exact q
end
end KM
/-! KMV: sums of fractions, fractions read. -/
namespace KM
open PySem PySem.Spec PyProof.Rows L2
def c_plus : Sxs := .cons (.ret (.call "reduced" (.cons (.bin .Add (.bin .Mult (.ix (.var 0) (.int 0)) (.ix (.var 1) (.int 1))) (.bin .Mult (.ix (.var 1) (.int 0)) (.ix (.var 0) (.int 1)))) (.cons (.bin .Mult (.ix (.var 0) (.int 1)) (.ix (.var 1) (.int 1))) .nil)))) .nil
def c_times : Sxs := .cons (.ret (.call "reduced" (.cons (.bin .Mult (.ix (.var 0) (.int 0)) (.ix (.var 1) (.int 0))) (.cons (.bin .Mult (.ix (.var 0) (.int 1)) (.ix (.var 1) (.int 1))) .nil)))) .nil
def c_over : Sxs := .cons (.ret (.call "reduced" (.cons (.bin .Mult (.ix (.var 0) (.int 0)) (.ix (.var 1) (.int 1))) (.cons (.bin .Mult (.ix (.var 0) (.int 1)) (.ix (.var 1) (.int 0))) .nil)))) .nil
theorem den_abs (x : Rat) : ((x.den : Int)).natAbs = x.den := rfl
theorem den_ne (x : Rat) : (x.den : Int) ≠ 0 := by have := x.den_nz; omega
theorem mul_ok {n : Nat} {a b : Int} (h0 : 0 < n) (h1 : n ≤ 500000) (ha : a.natAbs < 2 ^ n) (hb : b.natAbs < 2 ^ n) : CMulW a b := wide_mul ha hb h0 h0 (by omega)
theorem mul_bd {n : Nat} {a b : Int} (ha : a.natAbs < 2 ^ n) (hb : b.natAbs < 2 ^ n) : (a * b).natAbs < 2 ^ (n + n) := by rw [Int.natAbs_mul]; exact pow_lt_mul ha hb
theorem lt_iff_dec (x y : Rat) : decide (x.num * y.den < y.num * x.den) = decide (x < y) := by rw [decide_eq_decide, Rat.lt_iff]
theorem natAbs_add_lt {n : Nat} {a b : Int} (ha : a.natAbs < 2 ^ n) (hb : b.natAbs < 2 ^ n) : (a + b).natAbs < 2 ^ (n + 1) := by rw [Nat.pow_succ]; omega
theorem natAbs_sub_lt {n : Nat} {a b : Int} (ha : a.natAbs < 2 ^ n) (hb : b.natAbs < 2 ^ n) : (a - b).natAbs < 2 ^ (n + 1) := by rw [Nat.pow_succ]; omega
theorem Bd.add {n : Nat} {x y : Rat} (hx : Bd n x) (hy : Bd n y) : Bd (n + n + 2) (x + y) := by
  rw [add_eq_divInt]
  exact Bd.divInt (natAbs_add_lt (mul_bd hx.1 hy.2) (mul_bd hy.1 hx.2)) (Nat.lt_of_lt_of_le (mul_bd (b := y.den) hx.2 hy.2) (Nat.pow_le_pow_right (by decide) (by omega)))
theorem Bd.sub {n : Nat} {x y : Rat} (hx : Bd n x) (hy : Bd n y) : Bd (n + n + 2) (x - y) := by
  rw [sub_eq_divInt]
  exact Bd.divInt (natAbs_sub_lt (mul_bd hx.1 hy.2) (mul_bd hy.1 hx.2)) (Nat.lt_of_lt_of_le (mul_bd (b := y.den) hx.2 hy.2) (Nat.pow_le_pow_right (by decide) (by omega)))
theorem Bd.mul {n : Nat} {x y : Rat} (hx : Bd n x) (hy : Bd n y) : Bd (n + n + 1) (x * y) := by
  rw [mul_eq_divInt]
  exact Bd.divInt (mul_bd hx.1 hy.1) (mul_bd (b := y.den) hx.2 hy.2)
theorem Bd.div {n : Nat} {x y : Rat} (hx : Bd n x) (hy : Bd n y) : Bd (n + n + 1) (x / y) := by
  rw [div_eq_divInt]
  exact Bd.divInt (mul_bd hx.1 hy.2) (mul_bd (a := x.den) hx.2 hy.1)
theorem Bd.neg {n : Nat} {x : Rat} (hx : Bd n x) : Bd n (-x) := ⟨by show (-x.num).natAbs < _; rw [Int.natAbs_neg]; exact hx.1, hx.2⟩
theorem fr_neg (x : Rat) : fr (-x) = .tup [.int (-x.num), .int x.den] := rfl
section
variable {T : Str → Option Fc}
theorem minus_ok (hR : RedLib T) (hT : T "minus" = some ⟨2, 2, c_minus⟩) {k n : Nat} {x y : Rat} {h : Hep} {Q : VQ} {E : XQ} (h0 : 0 < n) (h1 : n ≤ 4000) (hx : Bd n x) (hy : Bd n y) (q : Q (fr (x - y)) h) : Calls T (k + 3) "minus" [fr x, fr y] h Q E := by
  refine Calls_eq [some (fr x), some (fr y)] hT rfl rfl ?_
  refine ⟨mul_ok h0 (by omega) hx.1 hy.2, mul_ok h0 (by omega) hy.1 hx.2, mul_ok (a := x.den) (b := y.den) h0 (by omega) hx.2 hy.2, ?_⟩
  refine red_ok hR (Int.mul_ne_zero (den_ne x) (den_ne y)) (n := n + n) (by omega) (by omega) (mul_bd (a := x.den) (b := y.den) hx.2 hy.2) ?_
  rw [← sub_eq_divInt]
  exact Dr.here q
theorem plus_ok (hR : RedLib T) (hT : T "plus" = some ⟨2, 2, c_plus⟩) {k n : Nat} {x y : Rat} {h : Hep} {Q : VQ} {E : XQ} (h0 : 0 < n) (h1 : n ≤ 4000) (hx : Bd n x) (hy : Bd n y) (q : Q (fr (x + y)) h) : Calls T (k + 3) "plus" [fr x, fr y] h Q E := by
  refine Calls_eq [some (fr x), some (fr y)] hT rfl rfl ?_
  refine ⟨mul_ok h0 (by omega) hx.1 hy.2, mul_ok h0 (by omega) hy.1 hx.2, mul_ok (a := x.den) (b := y.den) h0 (by omega) hx.2 hy.2, ?_⟩
  refine red_ok hR (Int.mul_ne_zero (den_ne x) (den_ne y)) (n := n + n) (by omega) (by omega) (mul_bd (a := x.den) (b := y.den) hx.2 hy.2) ?_
  rw [← add_eq_divInt]
  exact Dr.here q
theorem times_ok (hR : RedLib T) (hT : T "times" = some ⟨2, 2, c_times⟩) {k n : Nat} {x y : Rat} {h : Hep} {Q : VQ} {E : XQ} (h0 : 0 < n) (h1 : n ≤ 4000) (hx : Bd n x) (hy : Bd n y) (q : Q (fr (x * y)) h) : Calls T (k + 3) "times" [fr x, fr y] h Q E := by
  refine Calls_eq [some (fr x), some (fr y)] hT rfl rfl ?_
  refine ⟨mul_ok h0 (by omega) hx.1 hy.1, mul_ok (a := x.den) (b := y.den) h0 (by omega) hx.2 hy.2, ?_⟩
  refine red_ok hR (Int.mul_ne_zero (den_ne x) (den_ne y)) (n := n + n) (by omega) (by omega) (mul_bd (a := x.den) (b := y.den) hx.2 hy.2) ?_
  rw [← mul_eq_divInt]
  exact Dr.here q
theorem over_ok (hR : RedLib T) (hT : T "over" = some ⟨2, 2, c_over⟩) {k n : Nat} {x y : Rat} {h : Hep} {Q : VQ} {E : XQ} (h0 : 0 < n) (h1 : n ≤ 4000) (hx : Bd n x) (hy : Bd n y) (hz : y ≠ 0) (q : Q (fr (x / y)) h) : Calls T (k + 3) "over" [fr x, fr y] h Q E := by
  refine Calls_eq [some (fr x), some (fr y)] hT rfl rfl ?_
  refine ⟨mul_ok h0 (by omega) hx.1 hy.2, mul_ok (a := x.den) h0 (by omega) hx.2 hy.1, ?_⟩
  refine red_ok hR (Int.mul_ne_zero (den_ne x) (fun z => hz (Rat.num_eq_zero.mp z))) (n := n + n) (by omega) (by omega) (mul_bd (a := x.den) hx.2 hy.1) ?_
  rw [← div_eq_divInt]
  exact Dr.here q
theorem under_ok (hT : T "is_under" = some ⟨2, 2, c_is_under⟩) {k n : Nat} {x y : Rat} {h : Hep} {Q : VQ} {E : XQ} (h0 : 0 < n) (h1 : n ≤ 4000) (hx : Bd n x) (hy : Bd n y) (q : Q (.bl (decide (x < y))) h) : Calls T (k + 1) "is_under" [fr x, fr y] h Q E := by
  refine Calls_eq [some (fr x), some (fr y)] hT rfl rfl ?_
  refine ⟨mul_ok h0 (by omega) hx.1 hy.2, mul_ok h0 (by omega) hy.1 hx.2, ?_⟩
  rw [← lt_iff_dec] at q
  exact Dr.here q
theorem lunder_ok (hT : T "_law_under" = some ⟨2, 2, c__law_under⟩) {k n : Nat} {x y : Rat} {h : Hep} {Q : VQ} {E : XQ} (h0 : 0 < n) (h1 : n ≤ 4000) (hx : Bd n x) (hy : Bd n y) (q : Q (.bl (decide (x < y))) h) : Calls T (k + 1) "_law_under" [fr x, fr y] h Q E := by
  refine Calls_eq [some (fr x), some (fr y)] hT rfl rfl ?_
  refine ⟨mul_ok h0 (by omega) hx.1 hy.2, mul_ok h0 (by omega) hy.1 hx.2, ?_⟩
  rw [← lt_iff_dec] at q
  exact Dr.here q
theorem lplus_ok (hF : T "_law_frac" = some ⟨2, 5, c__law_frac⟩) (hT : T "_law_plus" = some ⟨2, 2, c__law_plus⟩) {k n : Nat} {x y : Rat} {h : Hep} {Q : VQ} {E : XQ} (h0 : 0 < n) (h1 : n ≤ 3950) (hx : Bd n x) (hy : Bd n y) (q : Q (fr (x + y)) h) : Calls T (k + 2) "_law_plus" [fr x, fr y] h Q E := by
  refine Calls_eq [some (fr x), some (fr y)] hT rfl rfl ?_
  refine ⟨mul_ok h0 (by omega) hx.1 hy.2, mul_ok h0 (by omega) hy.1 hx.2, mul_ok (a := x.den) (b := y.den) h0 (by omega) hx.2 hy.2, ?_⟩
  refine lfrac_ok hF (Int.mul_ne_zero (den_ne x) (den_ne y)) (n := n + n + 1) (by omega) (by omega) (natAbs_add_lt (mul_bd hx.1 hy.2) (mul_bd hy.1 hx.2)) (Nat.lt_of_lt_of_le (mul_bd (a := x.den) (b := y.den) hx.2 hy.2) (Nat.pow_le_pow_right (by decide) (by omega))) ?_
  rw [← add_eq_divInt]
  exact Dr.here q
theorem lminus_ok (hF : T "_law_frac" = some ⟨2, 5, c__law_frac⟩) (hT : T "_law_minus" = some ⟨2, 2, c__law_minus⟩) {k n : Nat} {x y : Rat} {h : Hep} {Q : VQ} {E : XQ} (h0 : 0 < n) (h1 : n ≤ 3950) (hx : Bd n x) (hy : Bd n y) (q : Q (fr (x - y)) h) : Calls T (k + 2) "_law_minus" [fr x, fr y] h Q E := by
  refine Calls_eq [some (fr x), some (fr y)] hT rfl rfl ?_
  refine ⟨mul_ok h0 (by omega) hx.1 hy.2, mul_ok h0 (by omega) hy.1 hx.2, mul_ok (a := x.den) (b := y.den) h0 (by omega) hx.2 hy.2, ?_⟩
  refine lfrac_ok hF (Int.mul_ne_zero (den_ne x) (den_ne y)) (n := n + n + 1) (by omega) (by omega) (natAbs_sub_lt (mul_bd hx.1 hy.2) (mul_bd hy.1 hx.2)) (Nat.lt_of_lt_of_le (mul_bd (a := x.den) (b := y.den) hx.2 hy.2) (Nat.pow_le_pow_right (by decide) (by omega))) ?_
  rw [← sub_eq_divInt]
  exact Dr.here q
theorem lneg_ok (hT : T "_law_q_neg" = some ⟨1, 1, c__law_q_neg⟩) {k : Nat} {x : Rat} {h : Hep} {Q : VQ} {E : XQ} (q : Q (fr (-x)) h) : Calls T (k + 1) "_law_q_neg" [fr x] h Q E := by
  refine Calls_eq [some (fr x)] hT rfl rfl ?_
  rw [fr_neg] at q
  exact Dr.here q
/-! ### fractions read -/
theorem D.tp_int {d : D} {a : Int} (e : d.tp = .int a) : d = .int a := by
  cases d with
  | int i => rw [D.tp] at e; exact e
  | _ => rw [D.tp] at e; cases e
theorem pair_cases {h : Hep} {d : D} {v : Val} {a b : Int} (r : Rd h d v) (e : d.tp = .tup [.int a, .int b]) : v = .tup [.int a, .int b] ∨ ∃ p, v = .ref p ∧ h p = some (.lst [.int a, .int b]) := by
  have key : ∀ {ds : List D} {vs : List Val}, Rds h ds vs → D.tps ds = [.int a, .int b] → vs = [.int a, .int b] := by
    intro ds vs r e
    match ds, r with
    | [], _ => cases e
    | [d1], ⟨_, _, _, _, _⟩ =>
      simp only [D.tps] at e
      injection e with e1 e2
      cases e2
    | [d1, d2], ⟨v1, r1, e1, q1, v2, r2, e2, q2, e3⟩ =>
      simp only [D.tps, List.cons.injEq, and_true] at e
      obtain ⟨f1, f2⟩ := e
      have g1 : d1 = .int a := D.tp_int f1
      have g2 : d2 = .int b := D.tp_int f2
      subst g1 g2
      have z1 : v1 = .int a := q1
      have z2 : v2 = .int b := q2
      rw [e1, e2, show r2 = [] from e3, z1, z2]
    | d1 :: d2 :: d3 :: ds, _ =>
      simp only [D.tps] at e
      injection e with e1 e2
      injection e2 with e3 e4
      cases e4
  cases d with
  | lst ds =>
    obtain ⟨p, xs, rfl, hp, r⟩ := r
    simp only [D.tp, D.tup.injEq] at e
    exact .inr ⟨p, rfl, by rw [hp, key r e]⟩
  | tup ds =>
    obtain ⟨xs, rfl, r⟩ := r
    simp only [D.tp, D.tup.injEq] at e
    exact .inl (by rw [key r e])
  | _ => rw [D.tp] at e; cases e
theorem is_list_ok (hT : T "is_list" = some ⟨1, 1, c_is_list⟩) {k : Nat} {v : Val} {d : D} {h : Hep} {Q : VQ} {E : XQ} (rd : Rd h d v) (q : Q (.bl (d.isL || d.isT)) h) : Calls T (k + 1) "is_list" [v] h Q E := by
  refine Calls_eq [some v] hT rfl rfl ?_
  refine isi_tup rd (b := d.isL || d.isT) (by cases d <;> rfl) ?_
  exact Dr.here q
theorem is_whole_ok (hT : T "is_whole" = some ⟨1, 1, c_is_whole⟩) {k : Nat} {v : Val} {d : D} {h : Hep} {Q : VQ} {E : XQ} (rd : Rd h d v) (q : Q (.bl d.isI) h) : Calls T (k + 1) "is_whole" [v] h Q E := by
  refine Calls_eq [some v] hT rfl rfl ?_
  cases d
  case bl b =>
    refine isi_T rd rfl rfl ?_
    refine isi_T rd rfl rfl ?_
    exact Dr.here q
  case int i =>
    refine isi_T rd rfl rfl ?_
    refine isi_F rd rfl rfl ?_
    exact Dr.here q
  all_goals
    refine isi_F rd rfl rfl ?_
    exact Dr.here q
structure KeptLib (T : Str → Option Fc) : Prop where
  il : T "is_list" = some ⟨1, 1, c_is_list⟩
  iw : T "is_whole" = some ⟨1, 1, c_is_whole⟩
  ir : T "is_row" = some ⟨2, 2, c_is_row⟩
  cd : T "common_divisor" = some ⟨2, 2, c_common_divisor⟩
  kf : T "kept_fraction" = some ⟨1, 1, c_kept_fraction⟩
theorem kept_ok (hT : KeptLib T) {k : Nat} {v : Val} {d : D} {x : Rat} {h : Hep} {Q : VQ} {E : XQ} (rd : Rd h d v) (e : d.tp = dr x) (q : Q (fr x) h) : Calls T (k + 3) "kept_fraction" [v] h Q E := by
  have hl : (d.isL || d.isT) = true := by
    cases d <;> first | rfl | (simp only [D.tp, dr] at e; cases e)
  have hg : Int.gcd x.num x.den = 1 := x.reduced
  have hd : ¬ ((x.den : Int) < 1) := by have := x.den_nz; omega
  have pc := pair_cases rd e
  refine Calls_eq [some v] hT.kf rfl rfl ?_
  refine Calls_eq [some v, some (.int 2)] hT.ir rfl rfl ?_
  refine is_list_ok hT.il rd ?_
  refine ifT hl ?_
  rcases pc with rfl | ⟨p, rfl, hp⟩
  · refine onJ_tup ?_
    refine Dr.here ?_
    refine is_whole_ok hT.iw (d := .int x.num) rfl ?_
    refine is_whole_ok hT.iw (d := .int x.den) rfl ?_
    refine ifF (decide_eq_false hd) ?_
    refine cd_ok hT.cd ?_
    refine ifF (by simp [hg]) ?_
    exact Dr.here q
  · refine onJ_ref hp ?_
    refine Dr.here ?_
    refine onL_in hp ?_
    refine is_whole_ok hT.iw (d := .int x.num) rfl ?_
    refine onL_in hp ?_
    refine is_whole_ok hT.iw (d := .int x.den) rfl ?_
    refine onL_in hp ?_
    refine ifF (decide_eq_false hd) ?_
    refine onL_in hp ?_
    refine onL_in hp ?_
    refine cd_ok hT.cd ?_
    refine ifF (by simp [hg]) ?_
    refine onL_in hp ?_
    refine onL_in hp ?_
    exact Dr.here q
end
end KM
/-! KMW: sameness of data by ==. -/
namespace KM
open PySem PySem.Spec PyProof.Rows L2
mutual
def D.dat : D → PyData
  | .non => .none
  | .bl b => .bool b
  | .int i => .int i
  | .str x => .str x
  | .dct => .dict []
  | .lst ds => .list (D.dats ds)
  | .tup ds => .tuple (D.dats ds)
def D.dats : List D → List PyData
  | [] => []
  | d :: ds => D.dat d :: D.dats ds
end
mutual
/-- no truth values in it, its texts plain -/
def D.nb : D → Bool
  | .non => true
  | .bl b => false
  | .int i => true
  | .str x => PyData.canLay0 (.str x)
  | .dct => false
  | .lst ds => D.nbs ds
  | .tup ds => D.nbs ds
def D.nbs : List D → Bool
  | [] => true
  | d :: ds => D.nb d && D.nbs ds
end
mutual
theorem Rd.dat {h : Hep} : ∀ {n : Nat} {d : D} {v : Val}, Rd h d v → d.nb = true → d.dep ≤ n → datN n h v = some d.dat
  | n, .non, v, r, _, _ => by rw [show v = .non from r]; cases n <;> rfl
  | n, .bl b, v, r, _, _ => by rw [show v = .bl b from r]; cases n <;> rfl
  | n, .int i, v, r, _, _ => by rw [show v = .int i from r]; cases n <;> rfl
  | n, .str x, v, r, _, _ => by rw [show v = .str x from r]; cases n <;> rfl
  | n, .dct, v, r, nb, l => by cases nb
  | 0, .lst ds, v, r, _, l => by simp only [D.dep] at l; omega
  | 0, .tup ds, v, r, _, l => by simp only [D.dep] at l; omega
  | n + 1, .lst ds, v, ⟨a, xs, e, ha, r⟩, nb, l => by
    subst e
    simp only [D.dep] at l
    simp only [datN, ha, Rds.dat (n := n) r nb (by omega), D.dat]
    rfl
  | n + 1, .tup ds, v, ⟨xs, e, r⟩, nb, l => by
    subst e
    simp only [D.dep] at l
    simp only [datN, Rds.dat (n := n) r nb (by omega), D.dat]
    rfl
theorem Rds.dat {h : Hep} : ∀ {n : Nat} {ds : List D} {vs : List Val}, Rds h ds vs → D.nbs ds = true → D.deps ds ≤ n → vs.mapM (datN n h) = some (D.dats ds)
  | n, [], vs, r, _, _ => by rw [show vs = [] from r]; rfl
  | n, d :: ds, vs, ⟨v, r, e, q, t⟩, nb, l => by
    subst e
    simp only [D.nbs, Bool.and_eq_true] at nb
    simp only [D.deps] at l
    rw [List.mapM_cons, Rd.dat (n := n) q nb.1 (by omega), Rds.dat (n := n) t nb.2 (by omega)]
    rfl
end
mutual
theorem D.lay : ∀ {d : D}, d.nb = true → d.dat.canLay0 = true
  | .non, _ => rfl
  | .bl b, _ => rfl
  | .int i, _ => rfl
  | .str x, h => h
  | .dct, h => by cases h
  | .lst ds, h => by simp only [D.dat, PyData.canLay0]; exact D.lays (by simpa only [D.nb] using h)
  | .tup ds, h => by simp only [D.dat, PyData.canLay0]; exact D.lays (by simpa only [D.nb] using h)
theorem D.lays : ∀ {ds : List D}, D.nbs ds = true → PyData.canLayAll0 (D.dats ds) = true
  | [], _ => rfl
  | d :: ds, h => by
    simp only [D.nbs, Bool.and_eq_true] at h
    simp only [D.dats, PyData.canLayAll0, Bool.and_eq_true]
    exact ⟨D.lay h.1, D.lays h.2⟩
end
mutual
theorem D.dat_dep : ∀ {d : D}, d.dat.depth ≤ d.dep
  | .non => by simp [D.dat, PyData.depth]
  | .bl b => by simp [D.dat, PyData.depth]
  | .int i => by simp [D.dat, PyData.depth]
  | .str x => by simp [D.dat, PyData.depth]
  | .dct => by simp [D.dat, PyData.depth, PyData.depthKv, D.dep]
  | .lst ds => by simp only [D.dat, PyData.depth, D.dep]; have := D.dats_dep (ds := ds); omega
  | .tup ds => by simp only [D.dat, PyData.depth, D.dep]; have := D.dats_dep (ds := ds); omega
theorem D.dats_dep : ∀ {ds : List D}, PyData.depthAll (D.dats ds) ≤ D.deps ds
  | [] => by simp [D.dats, PyData.depthAll]
  | d :: ds => by
    simp only [D.dats, PyData.depthAll, D.deps]
    have := D.dat_dep (d := d)
    have := D.dats_dep (ds := ds)
    omega
end
theorem D.shaped {d : D} (h : d.nb = true) (l : d.dep ≤ 20) : SeqAt.shaped d.dat = true := by
  unfold SeqAt.shaped
  rw [D.lay h, Bool.true_and]
  have := D.dat_dep (d := d)
  exact decide_eq_true (by omega)
mutual
theorem D.eqv : ∀ {a b : D}, a.nb = true → b.nb = true → PyData.eqv a.dat b.dat = D.beq a b
  | .non, b, _, h => by cases b <;> simp [D.dat, PyData.eqv, D.beq]
  | .bl x, b, h, _ => by simp [D.nb] at h
  | .dct, b, h, _ => by simp [D.nb] at h
  | .int x, b, _, h => by cases b <;> simp [D.dat, PyData.eqv, D.beq, D.nb] at * <;> rfl
  | .str x, b, _, h => by cases b <;> simp [D.dat, PyData.eqv, D.beq] <;> rfl
  | .lst x, b, h, h' => by
    cases b <;> simp only [D.dat, PyData.eqv, D.beq]
    · exact D.eqvs h h'
  | .tup x, b, h, h' => by
    cases b <;> simp only [D.dat, PyData.eqv, D.beq]
    · exact D.eqvs h h'
theorem D.eqvs : ∀ {a b : List D}, D.nbs a = true → D.nbs b = true → PyData.eqvAll (D.dats a) (D.dats b) = D.beqs a b
  | [], b, _, h => by cases b <;> simp [D.dats, PyData.eqvAll, D.beqs]
  | x :: xs, b, h, h' => by
    cases b with
    | nil => simp [D.dats, PyData.eqvAll, D.beqs]
    | cons y ys =>
      simp only [D.nbs, Bool.and_eq_true] at h h'
      simp only [D.dats, PyData.eqvAll, D.beqs, D.eqv h.1 h'.1, D.eqvs h.2 h'.2]
end
theorem on_dat {h : Hep} {d : D} {v : Val} {P : PyData → Prop} (r : Rd h d v) (n : d.nb = true) (l : d.dep ≤ 20) (p : P d.dat) : onD h v P := onD_in (r.dat n l) (D.shaped n l) p
/-- two things compared as data -/
theorem on2 {h : Hep} {a b : D} {v w : Val} {R : PyData → PyData → Prop} (ra : Rd h a v) (rb : Rd h b w) (na : a.nb = true) (nb : b.nb = true) (la : a.dep ≤ 20) (lb : b.dep ≤ 20) (q : R a.dat b.dat) : onD h v fun d => onD h w fun e => R d e :=
  on_dat ra na la (on_dat rb nb lb q)
theorem any_dats {d : D} (n : d.nb = true) : ∀ {ds : List D}, D.nbs ds = true → ((D.dats ds).any fun z => PyData.eqv z d.dat) = ds.any fun z => D.beq z d
  | [], _ => rfl
  | x :: xs, h => by
    simp only [D.nbs, Bool.and_eq_true] at h
    simp only [D.dats, List.any_cons, D.eqv h.1 n, any_dats n h.2]
/-! lists of fractions -/
theorem rds_frs {h : Hep} : ∀ (L : List Rat), Rds h (L.map dr) (L.map fr)
  | [] => rfl
  | x :: xs => Rds.cons (rd_fr h x) (rds_frs xs)
theorem nb_dr (x : Rat) : (dr x).nb = true := rfl
theorem dep_dr (x : Rat) : (dr x).dep = 1 := rfl
theorem nbs_drs : ∀ (L : List Rat), D.nbs (L.map dr) = true
  | [] => rfl
  | x :: xs => by simp only [List.map_cons, D.nbs, nbs_drs xs, nb_dr]; rfl
theorem deps_drs : ∀ (L : List Rat), D.deps (L.map dr) ≤ 1
  | [] => by simp [D.deps]
  | x :: xs => by simp only [List.map_cons, D.deps, dep_dr]; have := deps_drs xs; omega
theorem beq_dr (x y : Rat) : D.beq (dr x) (dr y) = decide (x = y) := by
  rw [Bool.eq_iff_iff, D.beq_iff, dr_inj, decide_eq_true_iff]
theorem eqv_fr (x y : Rat) : PyData.eqv (dr x).dat (dr y).dat = decide (x = y) := by rw [D.eqv (nb_dr x) (nb_dr y), beq_dr]
theorem on_fr {x y : Rat} {h : Hep} {R : PyData → PyData → Prop} (q : R (dr x).dat (dr y).dat) : onD h (fr x) fun m => onD h (fr y) fun n => R m n :=
  on2 (rd_fr h x) (rd_fr h y) rfl rfl (by rw [dep_dr]; decide) (by rw [dep_dr]; decide) q
theorem any_drs (x : Rat) (L : List Rat) : ((L.map dr).any fun z => D.beq z (dr x)) = decide (x ∈ L) := by
  induction L with
  | nil => simp
  | cons y ys ih =>
    rw [List.map_cons, List.any_cons, ih, beq_dr]
    by_cases e : y = x
    · subst e
      rw [decide_eq_true rfl, Bool.true_or, decide_eq_true List.mem_cons_self]
    · rw [decide_eq_false e, Bool.false_or, decide_eq_decide, List.mem_cons]
      exact ⟨.inr, fun z => z.resolve_left fun w => e w.symm⟩
theorem anyv_drs (x : Rat) (L : List Rat) : ((D.dats (L.map dr)).any fun z => PyData.eqv z (dr x).dat) = decide (x ∈ L) := by
  rw [any_dats (nb_dr x) (nbs_drs L), any_drs]
theorem rd_frs {h : Hep} {p : Addr} {L : List Rat} (hp : h p = some (.lst (L.map fr))) : Rd h (.lst (L.map dr)) (.ref p) := ⟨p, _, rfl, hp, rds_frs L⟩
/-- a list of fractions and another thing compared -/
theorem on_frs {h : Hep} {p : Addr} {L : List Rat} {R : PyData → PyData → Prop} {x : Rat} (hp : h p = some (.lst (L.map fr))) (q : R (dr x).dat (.list (D.dats (L.map dr)))) : onD h (fr x) fun m => onD h (.ref p) fun n => R m n :=
  on2 (rd_fr h x) (rd_frs hp) rfl (by simp only [D.nb]; exact nbs_drs L) (by rw [dep_dr]; decide) (by have := deps_drs L; simp only [D.dep]; omega) q
end KM
/-! KMX: the stream at its address, over a view. -/
namespace KM
open PySem PySem.Spec PyProof.Rows L2
/-- a view of h and of the stream at a, which so many draws may still be taken from -/
def St (a : Addr) (h : Hep) (n : Nat) (g : Hep) : Prop := ∃ S : Strm, S.a = a ∧ S.Ok h n ∧ g = S.on h
theorem St.sub {a : Addr} {h g : Hep} {n : Nat} (s : St a h n g) : Sub h g := by
  obtain ⟨S, _, ok, rfl⟩ := s
  exact Strm.under ok
theorem St.le {a : Addr} {h g : Hep} {n m : Nat} (s : St a h n g) (l : m ≤ n) : St a h m g := by
  obtain ⟨S, e, ok, rfl⟩ := s
  exact ⟨S, e, ok.le l, rfl⟩
theorem St.new {a : Addr} {h g : Hep} {n : Nat} {p : Addr} {o : Ob} (s : St a h n g) (np : g p = none) : St a (hset h p o) n (hset g p o) ∧ h p = none := by
  obtain ⟨S, e, ok, rfl⟩ := s
  obtain ⟨e1, ok1, e2⟩ := Strm.newOn (o := o) ok np
  exact ⟨⟨S, e, ok1, e1⟩, e2⟩
theorem Strm.setOn {S : Strm} {h : Hep} {n : Nat} {p : Addr} {o o' : Ob} (ok : S.Ok h n) (hp : h p = some o') : hset (S.on h) p o = S.on (hset h p o) ∧ S.Ok (hset h p o) n := by
  have pa : p ≠ S.a := fun e => by subst e; rw [ok.ha] at hp; cases hp
  have pb : p ≠ S.b := fun e => by subst e; rw [ok.hb] at hp; cases hp
  refine ⟨?_, ⟨ok.ab, ?_, ?_, ok.d0, ok.n0, ok.nb, ok.m0, ok.m1, ok.len⟩⟩
  · funext x
    unfold Strm.on
    by_cases e : x = p
    · subst e
      rw [hset_same, hset_ne pa, hset_ne pb, hset_same]
    · rw [hset_ne e]
      by_cases ea : x = S.a
      · subst ea; rw [hset_same, hset_same]
      · rw [hset_ne ea, hset_ne ea]
        by_cases eb : x = S.b
        · subst eb; rw [hset_same, hset_same]
        · rw [hset_ne eb, hset_ne eb, hset_ne e]
  · rw [hset_ne (Ne.symm pa)]; exact ok.ha
  · rw [hset_ne (Ne.symm pb)]; exact ok.hb
theorem St.set {a : Addr} {h g : Hep} {n : Nat} {p : Addr} {o o' : Ob} (s : St a h n g) (hp : h p = some o') : St a (hset h p o) n (hset g p o) := by
  obtain ⟨S, e, ok, rfl⟩ := s
  obtain ⟨e1, ok1⟩ := Strm.setOn (o := o) ok hp
  exact ⟨S, e, ok1, e1⟩
/-- what is more in view -/
theorem St.more {a : Addr} {h g g' : Hep} {n : Nat} (s : St a h n g) (sb : Sub g g') : ∃ h', St a h' n g' ∧ Sub h h' := by
  obtain ⟨S, e, ok, rfl⟩ := s
  obtain ⟨h', e1, s1, ok1⟩ := Strm.split ok sb
  exact ⟨h', ⟨S, e, ok1, e1⟩, s1⟩
section
variable {T : Str → Option Fc}
theorem stream_ok (hT : T "_law_stream" = some ⟨1, 1, c__law_stream⟩) {k : Nat} {ns : List Int} {Q : VQ} {E : XQ} (hl : ns.length ≤ 63) (q : ∀ a g, St a (fun _ => none) 999999999 g → Q (.ref a) g) : Calls T (k + 1) "_law_stream" [.rom (ns.map Val.int)] (fun _ => none) Q E := by
  refine Calls_eq [some (.rom (ns.map Val.int))] hT rfl rfl ?_
  refine onJ_rom ?_
  refine newL_in fun p np => ?_
  refine newL_in fun a na => ?_
  have ab : a ≠ p := fun e => by subst e; rw [hset_same] at na; cases na
  exact Dr.here (q a _ ⟨⟨a, p, ns, 0, 0, 17⟩, rfl, ⟨ab, rfl, rfl, Int.le_refl 0, Int.le_refl 0, by show (0 : Int) + ((999999999 : Nat) : Int) ≤ 1000000000; decide, by show (0 : Int) ≤ 17; decide, by show (17 : Int) < 2147483647; decide, hl⟩, rfl⟩)
theorem drawS (hD : T "_law_draw" = some ⟨2, 5, c__law_draw⟩) {k : Nat} {a : Addr} {many : Int} {h g : Hep} {b : Nat} {Q : VQ} {E : XQ} (st : St a h (b + 1) g) (m0 : 0 < many) (m1 : many < 18446744073709551616)
    (q : ∀ (d : Int) (g' : Hep), St a h b g' → 0 ≤ d → d < many → Q (.int d) g') : Calls T (k + 1) "_law_draw" [.ref a, .int many] g Q E := by
  obtain ⟨S, rfl, ok, rfl⟩ := st
  exact draw_ok hD ok m0 (lg_small (by omega)) fun d S' sm ok' d0 d1 => q d _ ⟨S', sm.1, ok', rfl⟩ d0 d1
theorem pickS (hD : T "_law_draw" = some ⟨2, 5, c__law_draw⟩) (hT : T "_law_pick" = some ⟨2, 2, c__law_pick⟩) {k : Nat} {a p : Addr} {xs : List Val} {h g : Hep} {b : Nat} {Q : VQ} {E : XQ} (st : St a h (b + 1) g) (hp : h p = some (.lst xs)) (l0 : 0 < xs.length) (l1 : xs.length < 1000000)
    (q : ∀ (i : Nat) (x : Val) (g' : Hep), xs[i]? = some x → St a h b g' → Q x g') : Calls T (k + 2) "_law_pick" [.ref a, .ref p] g Q E := by
  obtain ⟨S, rfl, ok, rfl⟩ := st
  exact pick_lst hD hT ok hp l0 l1 fun i x S' e sm ok' => q i x _ e ⟨S', sm.1, ok', rfl⟩
theorem looseS (hD : T "_law_draw" = some ⟨2, 5, c__law_draw⟩) (hT : T "_law_loose" = some ⟨2, 4, c__law_loose⟩) {n : Nat} {d : D} {v : Val} {a : Addr} {h g : Hep} {b : Nat} {Q : VQ} {E : XQ} (st : St a h (b + d.cnt) g) (hn : d.dep < n) (hw : d.wid < 1000000) (rd : Rd h d v)
    (q : ∀ v' d' h' g', Sub h h' → St a h' b g' → Rd h' d' v' → d'.tp = d.tp → Q v' g') : Calls T n "_law_loose" [.ref a, v] g Q E := by
  obtain ⟨S, rfl, ok, rfl⟩ := st
  exact loose_ok hD hT n d v S h b Q E hn hw rd ok fun v' d' h' S' s sm ok' r e => q v' d' h' _ s ⟨S', sm.1, ok', rfl⟩ r e
end
end KM
/-! KMY: sequences walked; rows of fractions. -/
namespace KM
open PySem PySem.Spec PyProof.Rows L2
/-- a tuple or a list of these, in the view -/
def Its (h : Hep) (v : Val) (xs : List Val) : Prop := v = .tup xs ∨ ∃ a, v = .ref a ∧ h a = some (.lst xs)
theorem Its.sub {h h' : Hep} (s : Sub h h') {v : Val} {xs : List Val} (i : Its h v xs) : Its h' v xs := i.imp id fun ⟨a, e, q⟩ => ⟨a, e, s _ _ q⟩
theorem src_its {h : Hep} {v : Val} {xs : List Val} {P : Src → Prop} (i : Its h v xs) (q : ∀ pins, (∀ h', Sub h h' → pinOk h' pins) → P ⟨xs, pins⟩) : onSrc h v P := by
  rcases i with rfl | ⟨a, rfl, e⟩
  · exact src_tupI (q [] fun _ _ => trivial)
  · exact src_refI e (q _ fun h' s => ⟨s _ _ e, trivial⟩)
theorem onJ_its {h : Hep} {v : Val} {xs : List Val} {P : List Val → Prop} (i : Its h v xs) (q : P xs) : onJ h v P := by
  rcases i with rfl | ⟨a, rfl, e⟩
  · exact onJ_tup q
  · exact onJ_ref e q
theorem pinOk_both {h : Hep} : ∀ {p q : List (Addr × List Val)}, pinOk h p → pinOk h q → pinOk h (p ++ q)
  | [], _, _, y => y
  | _ :: _, _, ⟨a, x⟩, y => ⟨a, pinOk_both x y⟩
/-- pairwise -/
inductive All2 (P : Val → Val → Prop) : List Val → List Val → Prop
  | nil : All2 P [] []
  | cons {v y : Val} {vs ys : List Val} : P v y → All2 P vs ys → All2 P (v :: vs) (y :: ys)
theorem All2.map {α : Type} {P : Val → Val → Prop} {f g : α → Val} : ∀ {xs : List α}, (∀ x ∈ xs, P (f x) (g x)) → All2 P (xs.map f) (xs.map g)
  | [], _ => .nil
  | x :: xs, h => .cons (h x List.mem_cons_self) (All2.map fun y hy => h y (List.mem_cons_of_mem _ hy))
/-- a comprehension whose parts leave the view as it is -/
theorem lc_rel {C : CalT} {elt : WE} {bind : Val → Env → Option Env} {pins : List (Addr × List Val)} {env : Env} {h : Hep} {Q : VQ} {P : Val → Val → Prop} (pn : pinOk h pins)
    (st : ∀ v y, P v y → ∀ K : VQ, K y h → onO (bind v env) fun env' => elt env' h K (fun _ _ => False)) : ∀ {vs ys : List Val} {acc : List Val}, All2 P vs ys → newL h (acc ++ ys) Q → lcW (wCs C .nil) elt bind pins env Q vs acc h
  | _, _, acc, .nil, q => by
    rw [List.append_nil] at q
    exact ⟨pn, q⟩
  | v :: vs, y :: ys, acc, .cons a b, q => by
    refine ⟨pn, ?_⟩
    have z := st v y a (fun y' h2 => lcW (wCs C .nil) elt bind pins env Q vs (acc ++ [y']) h2) (lc_rel pn st b (by rw [List.append_assoc]; exact q))
    exact z
theorem lc_map {α : Type} {C : CalT} {elt : WE} {bind : Val → Env → Option Env} {pins : List (Addr × List Val)} {env : Env} {h : Hep} {Q : VQ} {f g : α → Val} {xs : List α} (pn : pinOk h pins)
    (st : ∀ x ∈ xs, ∀ K : VQ, K (g x) h → onO (bind (f x) env) fun env' => elt env' h K (fun _ _ => False)) (q : newL h (xs.map g) Q) : lcW (wCs C .nil) elt bind pins env Q (xs.map f) [] h :=
  lc_rel (P := fun v y => ∃ x ∈ xs, v = f x ∧ y = g x) pn (fun v y ⟨x, hx, e1, e2⟩ K k => by subst e1 e2; exact st x hx K k) (All2.map fun x hx => ⟨x, hx, rfl, rfl⟩) q
/-! ### sums -/
def sumR : List Rat → Rat
  | [] => 0
  | x :: xs => x + sumR xs
theorem Bd.addM {n m : Nat} {x y : Rat} (hx : Bd n x) (hy : Bd m y) : Bd (n + m + 2) (x + y) := by
  rw [add_eq_divInt]
  have a1 : (x.num * y.den).natAbs < 2 ^ (n + m) := by rw [Int.natAbs_mul]; exact pow_lt_mul hx.1 hy.2
  have a2 : (y.num * x.den).natAbs < 2 ^ (n + m) := by rw [Int.natAbs_mul, Nat.add_comm n m]; exact pow_lt_mul hy.1 hx.2
  have a3 : ((x.den : Int) * y.den).natAbs < 2 ^ (n + m) := by rw [Int.natAbs_mul]; exact pow_lt_mul hx.2 hy.2
  exact Bd.divInt (natAbs_add_lt a1 a2) (Nat.lt_of_lt_of_le a3 (Nat.pow_le_pow_right (by decide) (by omega)))
theorem Bd.mulM {n m : Nat} {x y : Rat} (hx : Bd n x) (hy : Bd m y) : Bd (n + m + 1) (x * y) := by
  rw [mul_eq_divInt]
  have a1 : (x.num * y.num).natAbs < 2 ^ (n + m) := by rw [Int.natAbs_mul]; exact pow_lt_mul hx.1 hy.1
  have a3 : ((x.den : Int) * y.den).natAbs < 2 ^ (n + m) := by rw [Int.natAbs_mul]; exact pow_lt_mul hx.2 hy.2
  exact Bd.divInt a1 a3
def c_kept_row : Sxs := .cons (.ife (.not (.call "is_list" (.cons (.var 0) .nil))) (.cons (.ret .non) .nil) .nil) (.cons (.asg (.nm 1) (.lc (.call "kept_fraction" (.cons (.var 2) .nil)) (.nm 2) (.seq (.var 0)) .nil [2])) (.cons (.ret (.ife (.cmp .In .non (.var 1)) .non (.bi .tuple (.cons (.var 1) .nil)))) .nil))
def c_kept_chances : Sxs := .cons (.asg (.nm 1) (.call "kept_row" (.cons (.var 0) .nil))) (.cons (.ife (.or (.cmp .Is (.var 1) .non) (.bi .any (.cons (.lc (.cmp .Lt (.ix (.var 2) (.int 0)) (.int 0)) (.nm 2) (.seq (.var 1)) .nil [2]) .nil))) (.cons (.ret .non) .nil) .nil) (.cons (.ret (.ife (.cmp .Eq (.call "total" (.cons (.var 1) .nil)) (.con (.tup [.int 1, .int 1]))) (.var 1) .non)) .nil))
def c_total : Sxs := .cons (.asg (.nm 1) (.con (.tup [.int 0, .int 1]))) (.cons (.forr (.nm 2) (.seq (.var 0)) (.cons (.asg (.nm 1) (.call "plus" (.cons (.var 1) (.cons (.var 2) .nil)))) .nil)) (.cons (.ret (.var 1)) .nil))
def c_dot : Sxs := .cons (.ret (.call "total" (.cons (.lc (.call "times" (.cons (.var 2) (.cons (.var 3) .nil))) (.tc (.nm 2) (.tc (.nm 3) .tn)) (.zip (.var 0) (.var 1)) .nil [2, 3]) .nil))) .nil
def c_greatest : Sxs := .cons (.asg (.nm 1) (.ix (.var 0) (.int 0))) (.cons (.forr (.nm 2) (.seq (.var 0)) (.cons (.asg (.nm 1) (.ife (.call "is_under" (.cons (.var 1) (.cons (.var 2) .nil))) (.var 2) (.var 1))) .nil)) (.cons (.ret (.var 1)) .nil))
def c__law_total : Sxs := .cons (.asg (.nm 1) (.tup (.cons (.int 0) (.cons (.int 1) .nil)))) (.cons (.forr (.nm 2) (.seq (.var 0)) (.cons (.asg (.nm 1) (.call "_law_plus" (.cons (.var 1) (.cons (.var 2) .nil)))) .nil)) (.cons (.ret (.var 1)) .nil))
def c__law_dot : Sxs := .cons (.ret (.call "_law_total" (.cons (.lc (.call "_law_times" (.cons (.var 2) (.cons (.var 3) .nil))) (.tc (.nm 2) (.tc (.nm 3) .tn)) (.zip (.var 0) (.var 1)) .nil [2, 3]) .nil))) .nil
def c__law_times : Sxs := .cons (.ret (.call "_law_frac" (.cons (.bin .Mult (.ix (.var 0) (.int 0)) (.ix (.var 1) (.int 0))) (.cons (.bin .Mult (.ix (.var 0) (.int 1)) (.ix (.var 1) (.int 1))) .nil)))) .nil
def c__law_greatest : Sxs := .cons (.asg (.nm 1) (.ix (.var 0) (.int 0))) (.cons (.forr (.nm 2) (.seq (.sl (.var 0) (.cons (.int 1) .nil) .nil)) (.cons (.asg (.nm 1) (.ife (.call "_law_under" (.cons (.var 1) (.cons (.var 2) .nil))) (.var 2) (.var 1))) .nil)) (.cons (.ret (.var 1)) .nil))
def c__law_copied : Sxs := .cons (.ife (.bi .isi (.cons (.var 0) (.cons (.ty "dict") .nil))) (.cons (.ret .bad) .nil) .nil) (.cons (.asg (.nm 1) (.ife (.bi .isi (.cons (.var 0) (.cons (.tup (.cons (.ty "list") (.cons (.ty "tuple") .nil))) .nil))) (.lc (.call "_law_copied" (.cons (.var 3) .nil)) (.nm 3) (.seq (.var 0)) .nil [3]) (.var 0))) (.cons (.ret (.ife (.bi .isi (.cons (.var 0) (.cons (.ty "tuple") .nil))) (.bi .tuple (.cons (.var 1) .nil)) (.var 1))) .nil))
section
variable {T : Str → Option Fc}
structure SumLib (T : Str → Option Fc) : Prop extends RedLib T where
  pl : T "plus" = some ⟨2, 2, c_plus⟩
  ti : T "times" = some ⟨2, 2, c_times⟩
  to : T "total" = some ⟨1, 3, c_total⟩
  dt : T "dot" = some ⟨2, 4, c_dot⟩
theorem total_for (hT : SumLib T) {k n : Nat} {v : Val} {h : Hep} {D0 : KD} {E : XE'} {pins : List (Addr × List Val)} (hp : pinOk h pins) (h0 : 0 < n) : ∀ (xs : List Rat) (a : Rat) (m : Nat) {z : Option Val}, (∀ x ∈ xs, Bd n x) → Bd m a → 0 < m → m + (n + 2) * xs.length ≤ 3900 → n ≤ 3900 →
    (∀ z, D0.nx [some v, some (fr (a + sumR xs)), z] h) → forW (wSs (Calls T (k + 3)) (.cons (.asg (.nm 1) (.call "plus" (.cons (.var 1) (.cons (.var 2) .nil)))) .nil)) (bindT (.nm 2)) pins D0 E (xs.map fr) [some v, some (fr a), z] h
  | [], a, m, z, hx, ha, m0, hl, hn, q => by
    refine ⟨hp, ?_⟩
    have := q z
    rw [show sumR [] = 0 from rfl, Rat.add_zero] at this
    exact this
  | x :: xs, a, m, z, hx, ha, m0, hl, hn, q => by
    have bx := hx x List.mem_cons_self
    rw [List.length_cons, Nat.mul_add] at hl
    refine ⟨hp, ?_⟩
    refine plus_ok hT.toRedLib hT.pl (n := m + n) (by omega) (by omega) (ha.mono (by omega)) (bx.mono (by omega)) ?_
    refine total_for hT hp h0 xs (a + x) (m + n + 2) (fun y hy => hx y (List.mem_cons_of_mem _ hy)) (ha.addM bx) (by omega) (by omega) hn fun z => ?_
    have := q z
    rw [show sumR (x :: xs) = x + sumR xs from rfl, ← Rat.add_assoc] at this
    exact this
theorem bd_zero {n : Nat} (h : 0 < n) : Bd n 0 := ⟨by show 0 < 2 ^ n; exact Nat.two_pow_pos n, by show 1 < 2 ^ n; exact Nat.one_lt_two_pow (by omega)⟩
theorem total_ok (hT : SumLib T) {k n : Nat} {v : Val} {xs : List Rat} {h : Hep} {Q : VQ} {E : XQ} (i : Its h v (xs.map fr)) (h0 : 0 < n) (hx : ∀ x ∈ xs, Bd n x) (hl : 1 + (n + 2) * xs.length ≤ 3900) (hn : n ≤ 3900) (q : Q (fr (sumR xs)) h) : Calls T (k + 4) "total" [v] h Q E := by
  refine Calls_eq [some v, none, none] hT.to rfl rfl ?_
  refine src_its i fun pins hp => ?_
  refine total_for hT (hp h (Sub.refl h)) h0 xs 0 1 hx (bd_zero (by decide)) (by decide) hl hn fun z => ?_
  rw [Rat.zero_add]
  exact Dr.here q
end
end KM
/-! KNA: dots, greatest, the law's own. -/
namespace KM
open PySem PySem.Spec PyProof.Rows L2
def dotR (xs ys : List Rat) : Rat := sumR (List.zipWith (· * ·) xs ys)
theorem zipV_map (xs ys : List Rat) : zipV (xs.map fr) (ys.map fr) = (xs.zip ys).map fun p => .tup [fr p.1, fr p.2] := by
  induction xs generalizing ys with
  | nil => simp [zipV]
  | cons x xs ih =>
    cases ys with
    | nil => simp [zipV]
    | cons y ys => simp only [List.map_cons, zipV, List.zip_cons_cons, ih]
theorem zipWith_map (xs ys : List Rat) : (List.zipWith (· * ·) xs ys).map fr = (xs.zip ys).map fun p => fr (p.1 * p.2) := by
  induction xs generalizing ys with
  | nil => simp
  | cons x xs ih =>
    cases ys with
    | nil => simp
    | cons y ys => simp only [List.zipWith_cons_cons, List.map_cons, List.zip_cons_cons, ih]
theorem zipWith_bd {n m : Nat} {xs ys : List Rat} (hx : ∀ x ∈ xs, Bd n x) (hy : ∀ y ∈ ys, Bd m y) : ∀ z ∈ List.zipWith (· * ·) xs ys, Bd (n + m + 1) z := by
  induction xs generalizing ys with
  | nil => simp
  | cons x xs ih =>
    cases ys with
    | nil => simp
    | cons y ys =>
      intro z hz
      rw [List.zipWith_cons_cons, List.mem_cons] at hz
      rcases hz with rfl | hz
      · exact (hx x List.mem_cons_self).mulM (hy y List.mem_cons_self)
      · exact ih (fun x hx' => hx x (List.mem_cons_of_mem _ hx')) (fun y hy' => hy y (List.mem_cons_of_mem _ hy')) z hz
/-- the greatest, by the first of equals -/
def topR : Rat → List Rat → Rat
  | a, [] => a
  | a, x :: xs => topR (if a < x then x else a) xs
section
variable {T : Str → Option Fc}
theorem zip_mem {α β : Type} {xs : List α} {ys : List β} {p : α × β} (h : p ∈ xs.zip ys) : p.1 ∈ xs ∧ p.2 ∈ ys := ⟨(List.of_mem_zip (a := p.1) (b := p.2) h).1, (List.of_mem_zip (a := p.1) (b := p.2) h).2⟩
theorem dot_ok (hT : SumLib T) {k n m : Nat} {v w : Val} {xs ys : List Rat} {h : Hep} {Q : VQ} {E : XQ} (i : Its h v (xs.map fr)) (j : Its h w (ys.map fr)) (h0 : 0 < n) (h1 : 0 < m) (hx : ∀ x ∈ xs, Bd n x) (hy : ∀ y ∈ ys, Bd m y) (hl : 1 + (n + m + 3) * xs.length ≤ 3900) (hn : n + m ≤ 1000) (q : Q (fr (dotR xs ys)) h) : Calls T (k + 5) "dot" [v, w] h Q E := by
  refine Calls_eq [some v, some w, none, none] hT.dt rfl rfl ?_
  refine src_its i fun pins hp => ?_
  refine src_its j fun pins2 hp2 => ?_
  have len : (List.zipWith (· * ·) xs ys).length ≤ xs.length := by rw [List.length_zipWith]; omega
  have xl : xs.length ≤ 3900 := Nat.le_trans (Nat.le_mul_of_pos_left xs.length (show 0 < n + m + 3 by omega)) (by omega)
  show Sm (zipV (xs.map fr) (ys.map fr)).length ∧ lcW _ _ _ _ _ _ (zipV (xs.map fr) (ys.map fr)) [] h
  rw [zipV_map]
  refine ⟨show (_ : Nat) < 1000000 by rw [List.length_map, List.length_zip]; omega, ?_⟩
  refine lc_map (g := fun p => fr (p.1 * p.2)) (pinOk_both (hp h (Sub.refl h)) (hp2 h (Sub.refl h))) (fun p hm K kk => ?_) ?_
  · have mm := zip_mem hm
    exact times_ok hT.toRedLib hT.ti (k := k + 1) (n := n + m) (by omega) (by omega) ((hx _ mm.1).mono (by omega)) ((hy _ mm.2).mono (by omega)) kk
  · rw [← zipWith_map]
    refine newL_in fun p np => ?_
    refine total_ok hT (k := k) (n := n + m + 1) (.inr ⟨p, rfl, hset_same⟩) (by omega) (zipWith_bd hx hy) ?_ (by omega) ?_
    · have := Nat.mul_le_mul_left (n + m + 1 + 2) len
      have e : n + m + 1 + 2 = n + m + 3 := by omega
      rw [e] at this ⊢
      omega
    · exact ⟨h, (Sub.refl h).new np, q⟩
theorem great_for (hU : T "is_under" = some ⟨2, 2, c_is_under⟩) {k n : Nat} {v : Val} {h : Hep} {D0 : KD} {E : XE'} {pins : List (Addr × List Val)} (hp : pinOk h pins) (h0 : 0 < n) (hn : n ≤ 4000) : ∀ (xs : List Rat) (a : Rat) {z : Option Val}, (∀ x ∈ xs, Bd n x) → Bd n a →
    (∀ z, D0.nx [some v, some (fr (topR a xs)), z] h) → forW (wSs (Calls T (k + 1)) (.cons (.asg (.nm 1) (.ife (.call "is_under" (.cons (.var 1) (.cons (.var 2) .nil))) (.var 2) (.var 1))) .nil)) (bindT (.nm 2)) pins D0 E (xs.map fr) [some v, some (fr a), z] h
  | [], a, z, hx, ha, q => ⟨hp, q z⟩
  | x :: xs, a, z, hx, ha, q => by
    have bx := hx x List.mem_cons_self
    refine ⟨hp, ?_⟩
    refine under_ok hU h0 hn ha bx ?_
    by_cases c : a < x
    · refine ifT (decide_eq_true c) ?_
      refine great_for hU hp h0 hn xs x (fun y hy => hx y (List.mem_cons_of_mem _ hy)) bx fun z => ?_
      have := q z
      rw [topR, if_pos c] at this
      exact this
    · refine ifF (decide_eq_false c) ?_
      refine great_for hU hp h0 hn xs a (fun y hy => hx y (List.mem_cons_of_mem _ hy)) ha fun z => ?_
      have := q z
      rw [topR, if_neg c] at this
      exact this
theorem its_ix {h : Hep} {v : Val} {xs : List Val} {d : Int} {x : Val} {P : Val → Prop} (i : Its h v xs) (z : atI xs d = some x) (p : P x) : opIx v (.int d) h P := by
  rcases i with rfl | ⟨a, rfl, e⟩
  · exact opIx_tup z p
  · exact opIx_list e z p
end
end KM
/-! KNB: the law's own sums. -/
namespace KM
open PySem PySem.Spec PyProof.Rows L2
structure LSumLib (T : Str → Option Fc) : Prop where
  fr : T "_law_frac" = some ⟨2, 5, c__law_frac⟩
  pl : T "_law_plus" = some ⟨2, 2, c__law_plus⟩
  ti : T "_law_times" = some ⟨2, 2, c__law_times⟩
  to : T "_law_total" = some ⟨1, 3, c__law_total⟩
section
variable {T : Str → Option Fc}
theorem ltimes_ok (hF : T "_law_frac" = some ⟨2, 5, c__law_frac⟩) (hT : T "_law_times" = some ⟨2, 2, c__law_times⟩) {k n : Nat} {x y : Rat} {h : Hep} {Q : VQ} {E : XQ} (h0 : 0 < n) (h1 : n ≤ 3950) (hx : Bd n x) (hy : Bd n y) (q : Q (fr (x * y)) h) : Calls T (k + 2) "_law_times" [fr x, fr y] h Q E := by
  refine Calls_eq [some (fr x), some (fr y)] hT rfl rfl ?_
  refine ⟨mul_ok h0 (by omega) hx.1 hy.1, mul_ok (a := x.den) (b := y.den) h0 (by omega) hx.2 hy.2, ?_⟩
  refine lfrac_ok hF (Int.mul_ne_zero (den_ne x) (den_ne y)) (n := n + n) (by omega) (by omega) (mul_bd hx.1 hy.1) (mul_bd (a := x.den) (b := y.den) hx.2 hy.2) ?_
  rw [← mul_eq_divInt]
  exact Dr.here q
theorem ltotal_for (hT : LSumLib T) {k n : Nat} {v : Val} {h : Hep} {D0 : KD} {E : XE'} {pins : List (Addr × List Val)} (hp : pinOk h pins) (h0 : 0 < n) : ∀ (xs : List Rat) (a : Rat) (m : Nat) {z : Option Val}, (∀ x ∈ xs, Bd n x) → Bd m a → 0 < m → m + (n + 2) * xs.length ≤ 3900 → n ≤ 1000 →
    (∀ z, D0.nx [some v, some (fr (a + sumR xs)), z] h) → forW (wSs (Calls T (k + 2)) (.cons (.asg (.nm 1) (.call "_law_plus" (.cons (.var 1) (.cons (.var 2) .nil)))) .nil)) (bindT (.nm 2)) pins D0 E (xs.map fr) [some v, some (fr a), z] h
  | [], a, m, z, hx, ha, m0, hl, hn, q => by
    refine ⟨hp, ?_⟩
    have := q z
    rw [show sumR [] = 0 from rfl, Rat.add_zero] at this
    exact this
  | x :: xs, a, m, z, hx, ha, m0, hl, hn, q => by
    have bx := hx x List.mem_cons_self
    rw [List.length_cons, Nat.mul_add] at hl
    refine ⟨hp, ?_⟩
    refine lplus_ok hT.fr hT.pl (n := m + n) (by omega) (by omega) (ha.mono (by omega)) (bx.mono (by omega)) ?_
    refine ltotal_for hT hp h0 xs (a + x) (m + n + 2) (fun y hy => hx y (List.mem_cons_of_mem _ hy)) (ha.addM bx) (by omega) (by omega) hn fun z => ?_
    have := q z
    rw [show sumR (x :: xs) = x + sumR xs from rfl, ← Rat.add_assoc] at this
    exact this
theorem ltotal_ok (hT : LSumLib T) {k n : Nat} {v : Val} {xs : List Rat} {h : Hep} {Q : VQ} {E : XQ} (i : Its h v (xs.map fr)) (h0 : 0 < n) (hx : ∀ x ∈ xs, Bd n x) (hl : 1 + (n + 2) * xs.length ≤ 3900) (hn : n ≤ 1000) (q : Q (fr (sumR xs)) h) : Calls T (k + 3) "_law_total" [v] h Q E := by
  refine Calls_eq [some v, none, none] hT.to rfl rfl ?_
  refine src_its i fun pins hp => ?_
  refine ltotal_for hT (hp h (Sub.refl h)) h0 xs 0 1 hx (bd_zero (by decide)) (by decide) hl hn fun z => ?_
  rw [Rat.zero_add]
  exact Dr.here q
theorem ldot_ok (hT : LSumLib T) (hD : T "_law_dot" = some ⟨2, 4, c__law_dot⟩) {k n m : Nat} {v w : Val} {xs ys : List Rat} {h : Hep} {Q : VQ} {E : XQ} (i : Its h v (xs.map fr)) (j : Its h w (ys.map fr)) (h0 : 0 < n) (h1 : 0 < m) (hx : ∀ x ∈ xs, Bd n x) (hy : ∀ y ∈ ys, Bd m y) (hl : 1 + (n + m + 3) * xs.length ≤ 3900) (hn : n + m + 1 ≤ 1000) (q : Q (fr (dotR xs ys)) h) : Calls T (k + 4) "_law_dot" [v, w] h Q E := by
  refine Calls_eq [some v, some w, none, none] hD rfl rfl ?_
  refine src_its i fun pins hp => ?_
  refine src_its j fun pins2 hp2 => ?_
  have len : (List.zipWith (· * ·) xs ys).length ≤ xs.length := by rw [List.length_zipWith]; omega
  have xl : xs.length ≤ 3900 := Nat.le_trans (Nat.le_mul_of_pos_left xs.length (show 0 < n + m + 3 by omega)) (by omega)
  show Sm (zipV (xs.map fr) (ys.map fr)).length ∧ lcW _ _ _ _ _ _ (zipV (xs.map fr) (ys.map fr)) [] h
  rw [zipV_map]
  refine ⟨show (_ : Nat) < 1000000 by rw [List.length_map, List.length_zip]; omega, ?_⟩
  refine lc_map (g := fun p => fr (p.1 * p.2)) (pinOk_both (hp h (Sub.refl h)) (hp2 h (Sub.refl h))) (fun p hm K kk => ?_) ?_
  · have mm := zip_mem hm
    exact ltimes_ok hT.fr hT.ti (k := k + 1) (n := n + m) (by omega) (by omega) ((hx _ mm.1).mono (by omega)) ((hy _ mm.2).mono (by omega)) kk
  · rw [← zipWith_map]
    refine newL_in fun p np => ?_
    refine ltotal_ok hT (k := k) (n := n + m + 1) (.inr ⟨p, rfl, hset_same⟩) (by omega) (zipWith_bd hx hy) ?_ (by omega) ?_
    · have := Nat.mul_le_mul_left (n + m + 1 + 2) len
      have e : n + m + 1 + 2 = n + m + 3 := by omega
      rw [e] at this ⊢
      omega
    · exact ⟨h, (Sub.refl h).new np, q⟩
theorem lgreat_for (hU : T "_law_under" = some ⟨2, 2, c__law_under⟩) {k n : Nat} {v : Val} {h : Hep} {D0 : KD} {E : XE'} {pins : List (Addr × List Val)} (hp : pinOk h pins) (h0 : 0 < n) (hn : n ≤ 4000) : ∀ (xs : List Rat) (a : Rat) {z : Option Val}, (∀ x ∈ xs, Bd n x) → Bd n a →
    (∀ z, D0.nx [some v, some (fr (topR a xs)), z] h) → forW (wSs (Calls T (k + 1)) (.cons (.asg (.nm 1) (.ife (.call "_law_under" (.cons (.var 1) (.cons (.var 2) .nil))) (.var 2) (.var 1))) .nil)) (bindT (.nm 2)) pins D0 E (xs.map fr) [some v, some (fr a), z] h
  | [], a, z, hx, ha, q => ⟨hp, q z⟩
  | x :: xs, a, z, hx, ha, q => by
    have bx := hx x List.mem_cons_self
    refine ⟨hp, ?_⟩
    refine lunder_ok hU h0 hn ha bx ?_
    by_cases c : a < x
    · refine ifT (decide_eq_true c) ?_
      refine lgreat_for hU hp h0 hn xs x (fun y hy => hx y (List.mem_cons_of_mem _ hy)) bx fun z => ?_
      have := q z
      rw [topR, if_pos c] at this
      exact this
    · refine ifF (decide_eq_false c) ?_
      refine lgreat_for hU hp h0 hn xs a (fun y hy => hx y (List.mem_cons_of_mem _ hy)) ha fun z => ?_
      have := q z
      rw [topR, if_neg c] at this
      exact this
theorem cut_tail (x : Val) (xs : List Val) : cutL (x :: xs) (some 1) none = xs := by
  unfold cutL
  have e1 : HT.sIx (x :: xs).length 0 (some 1) = 1 := by
    unfold HT.sIx
    simp [List.length_cons]
  have e2 : HT.sIx (x :: xs).length (x :: xs).length none = (x :: xs).length := by
    unfold HT.sIx
    simp
  rw [e1, e2]
  simp
end
end KM
/-! KNC: any object as a fraction, a row, chances. -/
namespace KM
open PySem PySem.Spec PyProof.Rows L2
def D.items : D → Option (List D)
  | .lst ds => some ds
  | .tup ds => some ds
  | _ => none
theorem rd_its {h : Hep} {d : D} {v : Val} {ds : List D} (r : Rd h d v) (e : d.items = some ds) : ∃ vs, Its h v vs ∧ Rds h ds vs := by
  cases d with
  | lst es =>
    cases e
    obtain ⟨a, xs, rfl, ha, q⟩ := r
    exact ⟨xs, .inr ⟨a, rfl, ha⟩, q⟩
  | tup es =>
    cases e
    obtain ⟨xs, rfl, q⟩ := r
    exact ⟨xs, .inl rfl, q⟩
  | _ => cases e
theorem items_seq {d : D} : (d.isL || d.isT) = d.items.isSome := by cases d <;> rfl
def D.isRow (d : D) (n : Int) : Bool := match d.items with
  | none => false
  | some ds => decide ((ds.length : Int) = n)
theorem isRow_eq {d : D} {n : Int} {ds : List D} (e : d.items = some ds) : d.isRow n = decide ((ds.length : Int) = n) := by unfold D.isRow; rw [e]
theorem isRow_no {d : D} {n : Int} (e : d.items = none) : d.isRow n = false := by unfold D.isRow; rw [e]
theorem fr_gcd {a b : Int} (hb : 0 < b) (g : Int.gcd a b = 1) : fr (Rat.divInt a b) = .tup [.int a, .int b] := by
  rw [divInt_fr (by omega), g, Int.sign_eq_one_of_pos hb, Int.one_mul, Int.natAbs_of_nonneg (by omega)]
  show Val.tup [.int (a / ((1 : Nat) : Int)), .int (b / ((1 : Nat) : Int))] = _
  rw [show ((1 : Nat) : Int) = 1 from rfl, Int.ediv_one, Int.ediv_one]
def fracOf : List D → Option Rat
  | [.int a, .int b] => if 0 < b ∧ Int.gcd a b = 1 then some (Rat.divInt a b) else none
  | _ => none
def D.frac (d : D) : Option Rat := d.items.bind fracOf
def optV {α : Type} (f : α → Val) : Option α → Val
  | none => .non
  | some x => f x
section
variable {T : Str → Option Fc}
theorem is_row_ok (hL : T "is_list" = some ⟨1, 1, c_is_list⟩) (hT : T "is_row" = some ⟨2, 2, c_is_row⟩) {k : Nat} {v : Val} {d : D} {n : Int} {h : Hep} {Q : VQ} {E : XQ} (rd : Rd h d v)
    (q : Q (.bl (d.isRow n)) h) : Calls T (k + 2) "is_row" [v, .int n] h Q E := by
  refine Calls_eq [some v, some (.int n)] hT rfl rfl ?_
  refine is_list_ok hL rd ?_
  cases e : d.items with
  | none =>
    rw [isRow_no e] at q
    refine ifF (by rw [items_seq, e]; rfl) ?_
    rw [items_seq, e]
    exact Dr.here q
  | some ds =>
    rw [isRow_eq e] at q
    refine ifT (by rw [items_seq, e]; rfl) ?_
    obtain ⟨vs, i, r⟩ := rd_its rd e
    refine onJ_its i ?_
    rw [r.length]
    exact Dr.here q
theorem kept_gen (hT : KeptLib T) {k : Nat} {v : Val} {d : D} {h : Hep} {Q : VQ} {E : XQ} (rd : Rd h d v) (q : Q (optV fr d.frac) h) : Calls T (k + 3) "kept_fraction" [v] h Q E := by
  refine Calls_eq [some v] hT.kf rfl rfl ?_
  refine is_row_ok hT.il hT.ir rd ?_
  unfold D.frac at q
  cases e : d.items with
  | none =>
    rw [e] at q
    refine ifT (by rw [isRow_no e]; rfl) ?_
    exact Dr.here q
  | some ds =>
    rw [e] at q
    have hrow := isRow_eq (n := 2) e
    obtain ⟨vs, i, r⟩ := rd_its rd e
    by_cases l2 : (ds.length : Int) = 2
    · rw [decide_eq_true l2] at hrow
      match ds, vs, r, l2, q, i, e with
      | [d0, d1], _, ⟨v0, _, e0, r0, v1, _, e1, r1, e2⟩, l2, q, i, e =>
        subst e0 e1
        have e3 : _ = [] := e2
        subst e3
        refine ifF (by rw [hrow]; rfl) ?_
        refine its_ix i (x := v0) rfl ?_
        refine is_whole_ok hT.iw r0 ?_
        cases w0 : d0.isI with
        | false =>
          have z : fracOf [d0, d1] = none := by cases d0 <;> first | rfl | cases w0
          have q' : Q .non h := by
            have q2 : Q (optV fr (fracOf [d0, d1])) h := q
            rw [z] at q2
            exact q2
          exact Dr.here q'
        | true =>
          refine its_ix i (x := v1) rfl ?_
          refine is_whole_ok hT.iw r1 ?_
          cases w1 : d1.isI with
          | false =>
            have z : fracOf [d0, d1] = none := by cases d0 <;> cases d1 <;> first | rfl | cases w1
            have q' : Q .non h := by
              have q2 : Q (optV fr (fracOf [d0, d1])) h := q
              rw [z] at q2
              exact q2
            exact Dr.here q'
          | true =>
            obtain ⟨a, rfl⟩ : ∃ a, d0 = .int a := by cases d0 <;> first | exact ⟨_, rfl⟩ | cases w0
            obtain ⟨b, rfl⟩ : ∃ b, d1 = .int b := by cases d1 <;> first | exact ⟨_, rfl⟩ | cases w1
            have e0 : v0 = .int a := r0
            have e1 : v1 = .int b := r1
            subst e0 e1
            have q2 : Q (optV fr (if 0 < b ∧ Int.gcd a b = 1 then some (Rat.divInt a b) else none)) h := q
            refine its_ix i (x := .int b) rfl ?_
            by_cases b1 : b < 1
            · refine ifT (decide_eq_true b1) ?_
              rw [if_neg (by omega)] at q2
              exact Dr.here q2
            · refine ifF (decide_eq_false b1) ?_
              refine its_ix i (x := .int a) rfl ?_
              refine its_ix i (x := .int b) rfl ?_
              refine cd_ok hT.cd ?_
              by_cases g1 : Int.gcd a b = 1
              · rw [if_pos ⟨by omega, g1⟩] at q2
                refine ifF (by simp [g1]) ?_
                refine its_ix i (x := .int a) rfl ?_
                refine its_ix i (x := .int b) rfl ?_
                have q3 : Q (fr (Rat.divInt a b)) h := q2
                rw [fr_gcd (by omega) g1] at q3
                exact Dr.here q3
              · rw [if_neg (fun z => g1 z.2)] at q2
                refine ifT (by simp; omega) ?_
                exact Dr.here q2
      | [], _, _, l2, _, _, _ => exact absurd l2 (by decide)
      | [_], _, _, l2, _, _, _ => exact absurd l2 (by simp)
      | _ :: _ :: _ :: _, _, _, l2, _, _, _ => exact absurd l2 (by simp; omega)
    · refine ifT (by rw [hrow, decide_eq_false l2]; rfl) ?_
      have z : fracOf ds = none := by
        match ds, l2 with
        | [], _ => rfl
        | [_], _ => unfold fracOf; split <;> first | rfl | (rename_i h; cases h)
        | [_, _], l2 => exact absurd rfl l2
        | _ :: _ :: _ :: _, _ => unfold fracOf; split <;> first | rfl | (rename_i h; cases h)
      have q2 : Q (optV fr (fracOf ds)) h := q
      rw [z] at q2
      exact Dr.here q2
def optD {α : Type} (f : α → D) : Option α → D
  | none => .non
  | some x => f x
theorem rd_opt (h : Hep) (o : Option Rat) : Rd h (optD dr o) (optV fr o) := by
  cases o with
  | none => exact rfl
  | some x => exact rd_fr h x
def D.row (d : D) : Option (List Rat) := d.items.bind fun ds => ds.mapM D.frac
theorem mapM_frac : ∀ ds : List D, (ds.mapM D.frac = none ∧ (ds.any fun d => d.frac.isNone) = true) ∨ ∃ xs, ds.mapM D.frac = some xs ∧ (ds.any fun d => d.frac.isNone) = false ∧ (ds.map fun d => optV fr d.frac) = xs.map fr ∧ xs.length = ds.length
  | [] => .inr ⟨[], rfl, rfl, rfl, rfl⟩
  | d :: ds => by
    rw [List.mapM_cons, List.any_cons, List.map_cons]
    cases e : d.frac with
    | none => exact .inl ⟨rfl, rfl⟩
    | some x =>
      rcases mapM_frac ds with ⟨h1, h2⟩ | ⟨xs, h1, h2, h3, h4⟩
      · exact .inl ⟨by rw [h1]; rfl, by rw [h2]; rfl⟩
      · exact .inr ⟨x :: xs, by rw [h1]; rfl, by rw [h2]; rfl, by rw [h3]; rfl, by rw [List.length_cons, List.length_cons, h4]⟩
theorem all2_rds {h : Hep} {P : D → Val → Val → Prop} {f : D → Val} : ∀ {ds : List D} {vs : List Val}, Rds h ds vs → All2 (fun v y => ∃ d ∈ ds, Rd h d v ∧ y = f d) vs (ds.map f) := by
  have key : ∀ {ds' ds : List D} {vs : List Val}, (∀ d ∈ ds, d ∈ ds') → Rds h ds vs → All2 (fun v y => ∃ d ∈ ds', Rd h d v ∧ y = f d) vs (ds.map f) := by
    intro ds' ds
    induction ds with
    | nil => intro vs _ r; rw [show vs = [] from r]; exact .nil
    | cons d ds ih =>
      intro vs m ⟨v, r, e, q, t⟩
      subst e
      exact .cons ⟨d, m d List.mem_cons_self, q, rfl⟩ (ih (fun x hx => m x (List.mem_cons_of_mem _ hx)) t)
  intro ds vs r
  exact key (fun _ hx => hx) r
theorem rds_opts {h : Hep} : ∀ ds : List D, Rds h (ds.map fun d => optD dr d.frac) (ds.map fun d => optV fr d.frac)
  | [] => rfl
  | d :: ds => Rds.cons (rd_opt h _) (rds_opts ds)
theorem nbs_opts : ∀ ds : List D, D.nbs (ds.map fun d => optD dr d.frac) = true
  | [] => rfl
  | d :: ds => by
    simp only [List.map_cons, D.nbs, nbs_opts ds, Bool.and_true]
    cases d.frac <;> rfl
theorem deps_opts : ∀ ds : List D, D.deps (ds.map fun d => optD dr d.frac) ≤ 1
  | [] => by simp [D.deps]
  | d :: ds => by
    simp only [List.map_cons, D.deps]
    have := deps_opts ds
    cases d.frac with
    | none =>
      show max 0 _ ≤ 1
      omega
    | some x =>
      show max (dr x).dep _ ≤ 1
      rw [dep_dr]
      omega
theorem any_opts : ∀ ds : List D, ((ds.map fun d => optD dr d.frac).any fun z => D.beq z .non) = ds.any fun d => d.frac.isNone
  | [] => rfl
  | d :: ds => by
    simp only [List.map_cons, List.any_cons, any_opts ds]
    cases d.frac <;> rfl
theorem lc_rel0 {C : CalT} {elt : WE} {bind : Val → Env → Option Env} {pins : List (Addr × List Val)} {env : Env} {h : Hep} {Q : VQ} {P : Val → Val → Prop} {vs ys : List Val} (pn : pinOk h pins)
    (st : ∀ v y, P v y → ∀ K : VQ, K y h → onO (bind v env) fun env' => elt env' h K (fun _ _ => False)) (a : All2 P vs ys) (q : newL h ys Q) : lcW (wCs C .nil) elt bind pins env Q vs [] h := lc_rel pn st a q
structure RowLib (T : Str → Option Fc) : Prop extends KeptLib T where
  kr : T "kept_row" = some ⟨1, 3, c_kept_row⟩
theorem row_gen (hT : RowLib T) {k : Nat} {v : Val} {d : D} {h : Hep} {Q : VQ} {E : XQ} (rd : Rd h d v) (hw : d.wid < 1000000) (q : Q (optV (fun xs => .tup (xs.map fr)) d.row) h) : Calls T (k + 4) "kept_row" [v] h Q E := by
  refine Calls_eq [some v, none, none] hT.kr rfl rfl ?_
  refine is_list_ok hT.il rd ?_
  unfold D.row at q
  cases e : d.items with
  | none =>
    rw [e] at q
    refine ifT (by rw [items_seq, e]; rfl) ?_
    exact Dr.here q
  | some ds =>
    rw [e] at q
    have q : Q (optV (fun xs => .tup (xs.map fr)) (ds.mapM D.frac)) h := q
    refine ifF (by rw [items_seq, e]; rfl) ?_
    obtain ⟨vs, i, r⟩ := rd_its rd e
    have len : ds.length < 1000000 := by
      cases d <;> first | (cases e; simp only [D.wid] at hw; omega) | cases e
    refine src_its i fun pins hp => ?_
    refine ⟨show vs.length < 1000000 by rw [r.length]; exact len, ?_⟩
    refine lc_rel0 (P := fun v y => ∃ d ∈ ds, Rd h d v ∧ y = optV fr d.frac) (hp h (Sub.refl h)) (fun v y ⟨d, hd, r1, e1⟩ K kk => ?_) (all2_rds (P := fun _ _ _ => True) (f := fun d => optV fr d.frac) r) ?_
    · subst e1
      exact kept_gen hT.toKeptLib (k := k) r1 kk
    · refine newL_in fun p np => ?_
      have sp := (Sub.refl h).new (o := .lst (ds.map fun d => optV fr d.frac)) np
      have rl : Rd (hset h p (.lst (ds.map fun d => optV fr d.frac))) (.lst (ds.map fun d => optD dr d.frac)) (.ref p) := ⟨p, _, rfl, hset_same, rds_opts ds⟩
      refine on2 (a := .non) (b := .lst (ds.map fun d => optD dr d.frac)) rfl rl rfl (by simp only [D.nb]; exact nbs_opts ds) (by decide) (by have := deps_opts ds; simp only [D.dep]; omega) ?_
      have any : ((D.dats (ds.map fun d => optD dr d.frac)).any fun z => PyData.eqv z (D.dat .non)) = ds.any fun d => d.frac.isNone := by
        rw [any_dats (d := .non) rfl (nbs_opts ds), any_opts]
      rcases mapM_frac ds with ⟨h1, h2⟩ | ⟨xs, h1, h2, h3, h4⟩
      · rw [h1] at q
        refine ifT (by rw [any, h2]) ?_
        exact ⟨h, sp, q⟩
      · rw [h1] at q
        refine ifF (by rw [any, h2]) ?_
        refine onJ_ref hset_same ?_
        rw [h3] at sp ⊢
        exact ⟨h, sp, q⟩
end
end KM
/-! KND: any object as chances. -/
namespace KM
open PySem PySem.Spec PyProof.Rows L2
def chanOf (xs : List Rat) : Option (List Rat) := if (xs.any fun x => decide (x < 0)) = false ∧ sumR xs = 1 then some xs else none
def D.chances (d : D) : Option (List Rat) := d.row.bind chanOf
def rowV (xs : List Rat) : Val := .tup (xs.map fr)
def rowD (xs : List Rat) : D := .tup (xs.map dr)
theorem rd_row (h : Hep) (xs : List Rat) : Rd h (rowD xs) (rowV xs) := ⟨_, rfl, rds_frs xs⟩
/-- sizes that sums bear -/
def Fit (n : Nat) (xs : List Rat) : Prop := (∀ x ∈ xs, Bd n x) ∧ 1 + (n + 2) * xs.length ≤ 3900
theorem num_nn {x : Rat} : 0 ≤ x.num ↔ 0 ≤ x := Rat.num_nonneg
theorem neg_iff (x : Rat) : decide (x.num < 0) = decide (x < 0) := by
  rw [decide_eq_decide, ← Rat.not_le, ← num_nn]
  omega
section
variable {T : Str → Option Fc}
structure ChanLib (T : Str → Option Fc) : Prop extends RowLib T where
  sl : SumLib T
  kc : T "kept_chances" = some ⟨1, 3, c_kept_chances⟩
theorem chances_gen (hT : ChanLib T) {k n : Nat} {v : Val} {d : D} {h : Hep} {Q : VQ} {E : XQ} (rd : Rd h d v) (hw : d.wid < 1000000) (h0 : 0 < n) (hn : n ≤ 1000) (fit : ∀ xs, d.row = some xs → Fit n xs) (q : Q (optV rowV d.chances) h) : Calls T (k + 5) "kept_chances" [v] h Q E := by
  refine Calls_eq [some v, none, none] hT.kc rfl rfl ?_
  refine row_gen (k := k) hT.toRowLib rd hw ?_
  unfold D.chances at q
  cases e : d.row with
  | none =>
    rw [e] at q
    exact Dr.here q
  | some xs =>
    obtain ⟨bx, hl⟩ := fit xs e
    rw [e] at q
    have q : Q (optV rowV (chanOf xs)) h := q
    refine src_tupI ?_
    have xl : xs.length ≤ 3900 := Nat.le_trans (Nat.le_mul_of_pos_left xs.length (show 0 < n + 2 by omega)) (by omega)
    refine ⟨show (_ : Nat) < 1000000 by rw [List.length_map]; omega, ?_⟩
    refine lc_map (g := fun x => .bl (decide (x < 0))) trivial (fun x hx K kk => ?_) ?_
    · rw [← neg_iff] at kk
      exact kk
    · refine newL_in fun p np => ?_
      have sp := (Sub.refl h).new (o := .lst (xs.map fun x => .bl (decide (x < 0)))) np
      have ea : (xs.map fun x => Val.bl (decide (x < 0))) = (xs.map fun x => decide (x < 0)).map Val.bl := by rw [List.map_map]; rfl
      have hb : (hset h p (.lst (xs.map fun x => .bl (decide (x < 0))))) p = some (.lst ((xs.map fun x => decide (x < 0)).map Val.bl)) := by rw [hset_same, ea]
      refine onB_in hb ?_
      have eb : (xs.map fun x => decide (x < 0)).any id = xs.any fun x => decide (x < 0) := by rw [List.any_map]; rfl
      unfold chanOf at q
      cases c : xs.any fun x => decide (x < 0) with
      | true =>
        rw [if_neg (by rw [c]; simp)] at q
        refine ifT (by rw [eb, c]) ?_
        exact ⟨h, sp, q⟩
      | false =>
        refine ifF (by rw [eb, c]) ?_
        refine total_ok (k := k) hT.sl (.inl rfl) h0 bx hl (by omega) ?_
        refine on_fr (x := sumR xs) (y := 1) ?_
        by_cases s1 : sumR xs = 1
        · rw [if_pos ⟨c, s1⟩] at q
          refine ifT (by rw [eqv_fr]; exact decide_eq_true s1) ?_
          exact ⟨h, sp, q⟩
        · rw [if_neg (fun z => s1 z.2)] at q
          refine ifF (by rw [eqv_fr]; exact decide_eq_false s1) ?_
          exact ⟨h, sp, q⟩
end
end KM
/-! KNE: comprehensions that leave things behind; looks. -/
namespace KM
open PySem PySem.Spec PyProof.Rows L2
theorem lc_up {C : CalT} {elt : WE} {bind : Val → Env → Option Env} {pins : List (Addr × List Val)} {env : Env} {h : Hep} {Q : VQ} {P : Val → Val → Prop} (pn : ∀ h', Sub h h' → pinOk h' pins)
    (st : ∀ h', Sub h h' → ∀ v y, P v y → ∀ K : VQ, (∀ h2, Sub h' h2 → K y h2) → onO (bind v env) fun env' => elt env' h' K (fun _ _ => False)) : ∀ {vs ys : List Val} {acc : List Val} {h' : Hep}, Sub h h' → All2 P vs ys → (∀ h2, Sub h h2 → newL h2 (acc ++ ys) Q) → lcW (wCs C .nil) elt bind pins env Q vs acc h'
  | _, _, acc, h', s, .nil, q => by
    have q := q h' s
    rw [List.append_nil] at q
    exact ⟨pn h' s, q⟩
  | v :: vs, y :: ys, acc, h', s, .cons a b, q => by
    refine ⟨pn h' s, ?_⟩
    exact st h' s v y a (fun y' h2 => lcW (wCs C .nil) elt bind pins env Q vs (acc ++ [y']) h2) fun h2 s2 => lc_up pn st (s.trans s2) b (fun h3 s3 => by rw [List.append_assoc]; exact q h3 s3)
theorem lc_mapU {α : Type} {C : CalT} {elt : WE} {bind : Val → Env → Option Env} {pins : List (Addr × List Val)} {env : Env} {h : Hep} {Q : VQ} {f g : α → Val} {xs : List α} (pn : ∀ h', Sub h h' → pinOk h' pins)
    (st : ∀ h', Sub h h' → ∀ x ∈ xs, ∀ K : VQ, (∀ h2, Sub h' h2 → K (g x) h2) → onO (bind (f x) env) fun env' => elt env' h' K (fun _ _ => False)) (q : ∀ h2, Sub h h2 → newL h2 (xs.map g) Q) : lcW (wCs C .nil) elt bind pins env Q (xs.map f) [] h :=
  lc_up (P := fun v y => ∃ x ∈ xs, v = f x ∧ y = g x) pn (fun h' s v y ⟨x, hx, e1, e2⟩ K k => by subst e1 e2; exact st h' s x hx K k) (Sub.refl h) (All2.map fun x hx => ⟨x, hx, rfl, rfl⟩) q
end KM
/-! KNF: any object as a look, as wishes. -/
namespace KM
open PySem PySem.Spec PyProof.Rows L2
def c_kept_look : Sxs := .cons (.ife (.or (.not (.call "is_list" (.cons (.var 0) .nil))) (.cmp .Eq (.bi .len (.cons (.var 0) .nil)) (.int 0))) (.cons (.ret .non) .nil) .nil) (.cons (.asg (.nm 1) (.lc (.call "kept_chances" (.cons (.var 2) .nil)) (.nm 2) (.seq (.var 0)) .nil [2])) (.cons (.ife (.or (.cmp .In .non (.var 1)) (.not (.bi .all (.cons (.lc (.cmp .Eq (.bi .len (.cons (.var 2) .nil)) (.bi .len (.cons (.ix (.var 1) (.int 0)) .nil))) (.nm 2) (.seq (.var 1)) .nil [2]) .nil)))) (.cons (.ret .non) .nil) .nil) (.cons (.ret (.bi .tuple (.cons (.var 1) .nil))) .nil)))
def c_any_wishes : Sxs := .cons (.ife (.or (.not (.call "is_list" (.cons (.var 0) .nil))) (.cmp .Eq (.bi .len (.cons (.var 0) .nil)) (.int 0))) (.cons (.ret .non) .nil) .nil) (.cons (.asg (.nm 1) (.lc (.call "kept_row" (.cons (.var 2) .nil)) (.nm 2) (.seq (.var 0)) .nil [2])) (.cons (.ife (.or (.cmp .In .non (.var 1)) (.or (.cmp .Eq (.ix (.var 1) (.int 0)) (.tup .nil)) (.not (.bi .all (.cons (.lc (.cmp .Eq (.bi .len (.cons (.var 2) .nil)) (.bi .len (.cons (.ix (.var 1) (.int 0)) .nil))) (.nm 2) (.seq (.var 1)) .nil [2]) .nil))))) (.cons (.ret .non) .nil) .nil) (.cons (.ret (.bi .tuple (.cons (.var 1) .nil))) .nil)))
/-- rows as long as the first -/
def evenR (rows : List (List Rat)) : Bool := match rows with
  | [] => true
  | r :: _ => rows.all fun x => decide (x.length = r.length)
/-- all parts kept, or none -/
theorem mapM_opt {β : Type} (f : D → Option β) (g : β → Val) : ∀ ds : List D, (ds.mapM f = none ∧ (ds.any fun d => (f d).isNone) = true) ∨ ∃ xs, ds.mapM f = some xs ∧ (ds.any fun d => (f d).isNone) = false ∧ (ds.map fun d => optV g (f d)) = xs.map g ∧ xs.length = ds.length
  | [] => .inr ⟨[], rfl, rfl, rfl, rfl⟩
  | d :: ds => by
    rw [List.mapM_cons, List.any_cons, List.map_cons]
    cases e : f d with
    | none => exact .inl ⟨rfl, rfl⟩
    | some x =>
      rcases mapM_opt f g ds with ⟨h1, h2⟩ | ⟨xs, h1, h2, h3, h4⟩
      · exact .inl ⟨by rw [h1]; rfl, by rw [h2]; rfl⟩
      · exact .inr ⟨x :: xs, by rw [h1]; rfl, by rw [h2]; rfl, by rw [h3]; rfl, by rw [List.length_cons, List.length_cons, h4]⟩
theorem dep_row (xs : List Rat) : (rowD xs).dep ≤ 2 := by have := deps_drs xs; show D.deps _ + 1 ≤ 2; omega
theorem rds_rows {h : Hep} (f : D → Option (List Rat)) : ∀ ds : List D, Rds h (ds.map fun d => optD rowD (f d)) (ds.map fun d => optV rowV (f d))
  | [] => rfl
  | d :: ds => Rds.cons (by
      show Rd h (optD rowD (f d)) (optV rowV (f d))
      cases f d with
      | none => exact rfl
      | some x => exact rd_row h x) (rds_rows f ds)
theorem nbs_rows (f : D → Option (List Rat)) : ∀ ds : List D, D.nbs (ds.map fun d => optD rowD (f d)) = true
  | [] => rfl
  | d :: ds => by
    simp only [List.map_cons, D.nbs, nbs_rows f ds, Bool.and_true]
    cases f d with
    | none => rfl
    | some x => show D.nbs _ = true; exact nbs_drs x
theorem deps_rows (f : D → Option (List Rat)) : ∀ ds : List D, D.deps (ds.map fun d => optD rowD (f d)) ≤ 2
  | [] => by simp [D.deps]
  | d :: ds => by
    simp only [List.map_cons, D.deps]
    have := deps_rows f ds
    cases f d with
    | none => show max 0 _ ≤ 2; omega
    | some x => have := dep_row x; show max (rowD x).dep _ ≤ 2; omega
theorem any_rows (f : D → Option (List Rat)) : ∀ ds : List D, ((ds.map fun d => optD rowD (f d)).any fun z => D.beq z .non) = ds.any fun d => (f d).isNone
  | [] => rfl
  | d :: ds => by
    simp only [List.map_cons, List.any_cons, any_rows f ds]
    cases f d <;> rfl
def D.look (d : D) : Option (List (List Rat)) := d.items.bind fun ds => if ds = [] then none else (ds.mapM D.chances).bind fun rows => if evenR rows = true then some rows else none
def lookV (rows : List (List Rat)) : Val := .tup (rows.map rowV)
def FitL (n : Nat) (d : D) : Prop := ∀ ds, d.items = some ds → ∀ x ∈ ds, ∀ xs, x.row = some xs → Fit n xs
theorem wid_items {d : D} {ds : List D} (e : d.items = some ds) {m : Nat} (h : d.wid < m) : ds.length < m ∧ ∀ x ∈ ds, x.wid < m := by
  have k : ∀ x ∈ ds, x.wid ≤ D.wids ds := fun x hx => D.wids_mem hx
  cases d <;> first | (cases e; simp only [D.wid] at h; exact ⟨by omega, fun x hx => by have := k x hx; omega⟩) | cases e
section
variable {T : Str → Option Fc}
/-- whether all rows are as long as the first -/
theorem even_lc {C : CalT} {h : Hep} {p : Addr} {Q : VQ} {v : Val} {rows : List (List Rat)} (hp : h p = some (.lst (rows.map rowV))) (q : newL h ((rows.map fun x => decide (x.length = (rows.headD []).length)).map Val.bl) Q) :
    lcW (wCs C .nil) (wE C (.cmp .Eq (.bi .len (.cons (.var 2) .nil)) (.bi .len (.cons (.ix (.var 1) (.int 0)) .nil)))) (bindT (.nm 2)) [(p, rows.map rowV)] [some v, some (.ref p), none] Q (rows.map rowV) [] h := by
  refine lc_map (g := fun x => .bl (decide (x.length = (rows.headD []).length))) ⟨hp, trivial⟩ (fun x hx K kk => ?_) (by rw [List.map_map] at q; exact q)
  refine onJ_tup ?_
  cases rows with
  | nil => cases hx
  | cons r rs =>
    refine opIx_list (v := rowV r) hp (atI_nat (j := 0) rfl) ?_
    refine onJ_tup ?_
    have e : decide (((x.map fr).length : Int) = ((r.map fr).length : Int)) = decide (x.length = r.length) := by
      rw [decide_eq_decide, List.length_map, List.length_map]; omega
    show K (.bl (decide (((x.map fr).length : Int) = ((r.map fr).length : Int)))) h
    rw [e]
    exact kk
theorem even_all (rows : List (List Rat)) : (rows.map fun x => decide (x.length = (rows.headD []).length)).all id = evenR rows := by
  cases rows with
  | nil => rfl
  | cons r rs => unfold evenR; rw [List.all_map]; rfl
structure LookLib (T : Str → Option Fc) : Prop extends ChanLib T where
  kl : T "kept_look" = some ⟨1, 3, c_kept_look⟩
theorem look_gen (hT : LookLib T) {k n : Nat} {v : Val} {d : D} {h : Hep} {Q : VQ} {E : XQ} (rd : Rd h d v) (hw : d.wid < 1000000) (h0 : 0 < n) (hn : n ≤ 1000) (fit : FitL n d) (q : Q (optV lookV d.look) h) : Calls T (k + 6) "kept_look" [v] h Q E := by
  refine Calls_eq [some v, none, none] hT.kl rfl rfl ?_
  refine is_list_ok hT.il rd ?_
  unfold D.look at q
  cases e : d.items with
  | none =>
    rw [e] at q
    refine ifT (by rw [items_seq, e]; rfl) ?_
    exact Dr.here q
  | some ds =>
    rw [e] at q
    have q : Q (optV lookV (if ds = [] then none else (ds.mapM D.chances).bind fun rows => if evenR rows = true then some rows else none)) h := q
    refine ifF (by rw [items_seq, e]; rfl) ?_
    obtain ⟨vs, i, r⟩ := rd_its rd e
    obtain ⟨len, wd⟩ := wid_items e hw
    have rl := r.length
    refine onJ_its i ?_
    by_cases n0 : ds = []
    · rw [if_pos n0] at q
      refine ifT (decide_eq_true (by rw [rl, n0]; rfl)) ?_
      exact Dr.here q
    · rw [if_neg n0] at q
      have n1 : ds.length ≠ 0 := fun z => n0 (List.eq_nil_of_length_eq_zero z)
      refine ifF (decide_eq_false (by rw [rl]; omega)) ?_
      refine src_its i fun pins hp => ?_
      refine ⟨show vs.length < 1000000 by rw [rl]; exact len, ?_⟩
      refine lc_rel0 (P := fun v y => ∃ d ∈ ds, Rd h d v ∧ y = optV rowV d.chances) (hp h (Sub.refl h)) (fun v y ⟨x, hx, r1, e1⟩ K kk => ?_) (all2_rds (P := fun _ _ _ => True) (f := fun d => optV rowV d.chances) r) ?_
      · subst e1
        exact chances_gen hT.toChanLib (k := k) r1 (wd x hx) h0 hn (fit ds e x hx) kk
      · refine newL_in fun p np => ?_
        have sp := (Sub.refl h).new (o := .lst (ds.map fun d => optV rowV d.chances)) np
        have rl2 : Rd (hset h p (.lst (ds.map fun d => optV rowV d.chances))) (.lst (ds.map fun d => optD rowD d.chances)) (.ref p) := ⟨p, _, rfl, hset_same, rds_rows _ ds⟩
        refine on2 (a := .non) (b := .lst (ds.map fun d => optD rowD d.chances)) rfl rl2 rfl (by simp only [D.nb]; exact nbs_rows _ ds) (by decide) (by have := deps_rows D.chances ds; simp only [D.dep]; omega) ?_
        have any : ((D.dats (ds.map fun d => optD rowD d.chances)).any fun z => PyData.eqv z (D.dat .non)) = ds.any fun d => d.chances.isNone := by
          rw [any_dats (d := .non) rfl (nbs_rows _ ds), any_rows]
        rcases mapM_opt D.chances rowV ds with ⟨h1, h2⟩ | ⟨rows, h1, h2, h3, h4⟩
        · rw [h1] at q
          refine ifT (by rw [any, h2]) ?_
          exact ⟨h, sp, q⟩
        · rw [h1] at q
          have q : Q (optV lookV (if evenR rows = true then some rows else none)) h := q
          refine ifF (by rw [any, h2]) ?_
          rw [h3] at sp ⊢
          refine src_refI hset_same ?_
          refine ⟨show (rows.map rowV).length < 1000000 by rw [List.length_map, h4]; exact len, ?_⟩
          refine even_lc hset_same ?_
          refine newL_in fun p2 np2 => ?_
          have sp2 := sp.trans ((Sub.refl _).new (o := .lst ((rows.map fun x => decide (x.length = (rows.headD []).length)).map Val.bl)) np2)
          refine onB_in hset_same ?_
          cases ev : evenR rows with
          | false =>
            rw [ev, if_neg (by simp)] at q
            refine ifT (by rw [even_all, ev]; rfl) ?_
            exact ⟨h, sp2, q⟩
          | true =>
            rw [ev, if_pos rfl] at q
            refine ifF (by rw [even_all, ev]; rfl) ?_
            have hp2 : (hset (hset h p (.lst (rows.map rowV))) p2 (.lst ((rows.map fun x => decide (x.length = (rows.headD []).length)).map Val.bl))) p = some (.lst (rows.map rowV)) := ((Sub.refl _).new np2) _ _ hset_same
            refine onJ_ref hp2 ?_
            exact ⟨h, sp2, q⟩
end
end KM
/-! KNG: wishes; what is needed. -/
namespace KM
open PySem PySem.Spec PyProof.Rows L2
def c_need_look (b : Sx) : Sxs := .cons (.asg (.nm 1) (.call "kept_look" (.cons (.var 0) .nil))) (.cons (.ife (.cmp .Is (.var 1) .non) (.cons b .nil) .nil) (.cons (.ret (.var 1)) .nil))
def c_kept_wishes : Sxs := .cons (.asg (.nm 2) (.call "any_wishes" (.cons (.var 1) .nil))) (.cons (.ret (.ife (.and (.cmp .IsNot (.var 2) .non) (.cmp .Eq (.bi .len (.cons (.ix (.var 2) (.int 0)) .nil)) (.var 0))) (.var 2) .non)) .nil)
def c_need_chances (b : Sx) : Sxs := .cons (.asg (.nm 1) (.call "kept_chances" (.cons (.var 0) .nil))) (.cons (.ife (.cmp .Is (.var 1) .non) (.cons b .nil) .nil) (.cons (.ret (.var 1)) .nil))
def c_need_wishes (b : Sx) : Sxs := .cons (.asg (.nm 2) (.call "kept_wishes" (.cons (.var 0) (.cons (.var 1) .nil)))) (.cons (.ife (.cmp .Is (.var 2) .non) (.cons b .nil) .nil) (.cons (.ret (.var 2)) .nil))
def c_need_look_for (b : Sx) : Sxs := .cons (.asg (.nm 2) (.call "kept_look" (.cons (.var 1) .nil))) (.cons (.ife (.or (.cmp .Is (.var 2) .non) (.cmp .NotEq (.bi .len (.cons (.var 2) .nil)) (.var 0))) (.cons b .nil) .nil) (.cons (.ret (.var 2)) .nil))
def c_need_all : Sxs := .cons (.asg (.nm 3) (.call "need_chances" (.cons (.var 0) .nil))) (.cons (.asg (.nm 4) (.call "need_wishes" (.cons (.bi .len (.cons (.var 3) .nil)) (.cons (.var 1) .nil)))) (.cons (.ret (.tup (.cons (.var 3) (.cons (.var 4) (.cons (.call "need_look_for" (.cons (.bi .len (.cons (.var 3) .nil)) (.cons (.var 2) .nil))) .nil))))) .nil))
def D.wishes (d : D) : Option (List (List Rat)) := d.items.bind fun ds => if ds = [] then none else (ds.mapM D.row).bind fun rows => if rows.headD [] ≠ [] ∧ evenR rows = true then some rows else none
section
variable {T : Str → Option Fc}
structure WishLib (T : Str → Option Fc) : Prop extends LookLib T where
  aw : T "any_wishes" = some ⟨1, 3, c_any_wishes⟩
theorem beq_nil (r : List Rat) : PyData.eqv (rowD r).dat (D.dat (.tup [])) = decide (r = []) := by
  rw [D.eqv (by show D.nbs _ = true; exact nbs_drs r) rfl]
  cases r with
  | nil => rfl
  | cons x xs => rfl
theorem wishes_gen (hT : WishLib T) {k : Nat} {v : Val} {d : D} {h : Hep} {Q : VQ} {E : XQ} (rd : Rd h d v) (hw : d.wid < 1000000) (q : Q (optV lookV d.wishes) h) : Calls T (k + 6) "any_wishes" [v] h Q E := by
  refine Calls_eq [some v, none, none] hT.aw rfl rfl ?_
  refine is_list_ok hT.il rd ?_
  unfold D.wishes at q
  cases e : d.items with
  | none =>
    rw [e] at q
    refine ifT (by rw [items_seq, e]; rfl) ?_
    exact Dr.here q
  | some ds =>
    rw [e] at q
    have q : Q (optV lookV (if ds = [] then none else (ds.mapM D.row).bind fun rows => if rows.headD [] ≠ [] ∧ evenR rows = true then some rows else none)) h := q
    refine ifF (by rw [items_seq, e]; rfl) ?_
    obtain ⟨vs, i, r⟩ := rd_its rd e
    obtain ⟨len, wd⟩ := wid_items e hw
    have rl := r.length
    refine onJ_its i ?_
    by_cases n0 : ds = []
    · rw [if_pos n0] at q
      refine ifT (decide_eq_true (by rw [rl, n0]; rfl)) ?_
      exact Dr.here q
    · rw [if_neg n0] at q
      have n1 : ds.length ≠ 0 := fun z => n0 (List.eq_nil_of_length_eq_zero z)
      refine ifF (decide_eq_false (by rw [rl]; omega)) ?_
      refine src_its i fun pins hp => ?_
      refine ⟨show vs.length < 1000000 by rw [rl]; exact len, ?_⟩
      refine lc_rel0 (P := fun v y => ∃ d ∈ ds, Rd h d v ∧ y = optV rowV d.row) (hp h (Sub.refl h)) (fun v y ⟨x, hx, r1, e1⟩ K kk => ?_) (all2_rds (P := fun _ _ _ => True) (f := fun d => optV rowV d.row) r) ?_
      · subst e1
        exact row_gen (k := k + 1) hT.toRowLib r1 (wd x hx) kk
      · refine newL_in fun p np => ?_
        have sp := (Sub.refl h).new (o := .lst (ds.map fun d => optV rowV d.row)) np
        have rl2 : Rd (hset h p (.lst (ds.map fun d => optV rowV d.row))) (.lst (ds.map fun d => optD rowD d.row)) (.ref p) := ⟨p, _, rfl, hset_same, rds_rows _ ds⟩
        refine on2 (a := .non) (b := .lst (ds.map fun d => optD rowD d.row)) rfl rl2 rfl (by simp only [D.nb]; exact nbs_rows _ ds) (by decide) (by have := deps_rows D.row ds; simp only [D.dep]; omega) ?_
        have any : ((D.dats (ds.map fun d => optD rowD d.row)).any fun z => PyData.eqv z (D.dat .non)) = ds.any fun d => d.row.isNone := by
          rw [any_dats (d := .non) rfl (nbs_rows _ ds), any_rows]
        rcases mapM_opt D.row rowV ds with ⟨h1, h2⟩ | ⟨rows, h1, h2, h3, h4⟩
        · rw [h1] at q
          refine ifT (by rw [any, h2]) ?_
          exact ⟨h, sp, q⟩
        · rw [h1] at q
          have q : Q (optV lookV (if rows.headD [] ≠ [] ∧ evenR rows = true then some rows else none)) h := q
          refine ifF (by rw [any, h2]) ?_
          rw [h3] at sp ⊢
          obtain ⟨r0, rs, er⟩ : ∃ r0 rs, rows = r0 :: rs := by
            cases rows with
            | nil => exact absurd h4.symm n1
            | cons a b => exact ⟨a, b, rfl⟩
          have hd : rows.headD [] = r0 := by rw [er]; rfl
          refine opIx_list (v := rowV r0) hset_same (by rw [er]; exact atI_nat (j := 0) rfl) ?_
          refine on2 (a := rowD r0) (b := .tup []) (rd_row _ r0) ⟨[], rfl, rfl⟩ (by show D.nbs _ = true; exact nbs_drs r0) rfl (by have := dep_row r0; omega) (by decide) ?_
          by_cases r00 : r0 = []
          · rw [if_neg (fun z => z.1 (by rw [hd]; exact r00))] at q
            refine ifT (by rw [beq_nil, decide_eq_true r00]) ?_
            exact ⟨h, sp, q⟩
          · refine ifF (by rw [beq_nil, decide_eq_false r00]) ?_
            refine src_refI hset_same ?_
            refine ⟨show (rows.map rowV).length < 1000000 by rw [List.length_map, h4]; exact len, ?_⟩
            refine even_lc hset_same ?_
            refine newL_in fun p2 np2 => ?_
            have sp2 := sp.trans ((Sub.refl _).new (o := .lst ((rows.map fun x => decide (x.length = (rows.headD []).length)).map Val.bl)) np2)
            refine onB_in hset_same ?_
            cases ev : evenR rows with
            | false =>
              rw [ev, if_neg (by simp)] at q
              refine ifT (by rw [even_all, ev]; rfl) ?_
              exact ⟨h, sp2, q⟩
            | true =>
              rw [ev, if_pos ⟨by rw [hd]; exact r00, rfl⟩] at q
              refine ifF (by rw [even_all, ev]; rfl) ?_
              have hp2 : (hset (hset h p (.lst (rows.map rowV))) p2 (.lst ((rows.map fun x => decide (x.length = (rows.headD []).length)).map Val.bl))) p = some (.lst (rows.map rowV)) := ((Sub.refl _).new np2) _ _ hset_same
              refine onJ_ref hp2 ?_
              exact ⟨h, sp2, q⟩
end
end KM
/-! KNH: what is needed, where it is right. -/
namespace KM
open PySem PySem.Spec PyProof.Rows L2
section
variable {T : Str → Option Fc}
structure NeedsLib (T : Str → Option Fc) : Prop extends WishLib T where
  kw : T "kept_wishes" = some ⟨2, 3, c_kept_wishes⟩
  nc : ∃ b, T "need_chances" = some ⟨1, 2, c_need_chances b⟩
  nw : ∃ b, T "need_wishes" = some ⟨2, 3, c_need_wishes b⟩
  nl : ∃ b, T "need_look_for" = some ⟨2, 3, c_need_look_for b⟩
theorem look_head {rows : List (List Rat)} {r : List Rat} {rs : List (List Rat)} (e : rows = r :: rs) : lookV rows = .tup (rowV r :: rs.map rowV) := by subst e; rfl
theorem kwishes_ok (hT : WishLib T) (hK : T "kept_wishes" = some ⟨2, 3, c_kept_wishes⟩) {k m : Nat} {v : Val} {d : D} {w : List (List Rat)} {r : List Rat} {rs : List (List Rat)} {h : Hep} {Q : VQ} {E : XQ} (rd : Rd h d v) (hw : d.wid < 1000000) (e : d.wishes = some w) (er : w = r :: rs) (hm : r.length = m) (q : Q (lookV w) h) : Calls T (k + 7) "kept_wishes" [.int m, v] h Q E := by
  refine Calls_eq [some (.int m), some v, none] hK rfl rfl ?_
  refine wishes_gen (k := k) hT rd hw ?_
  rw [e]
  have ev : optV lookV (some w) = .tup (rowV r :: rs.map rowV) := look_head er
  rw [ev]
  refine opIx_tup (h := h) (v := rowV r) (atI_nat (j := 0) rfl) ?_
  refine onJ_tup ?_
  refine ifT (decide_eq_true (by rw [List.length_map, hm])) ?_
  rw [look_head er] at q
  exact Dr.here q
theorem nchances_ok (hT : NeedsLib T) {k n : Nat} {v : Val} {d : D} {xs : List Rat} {h : Hep} {Q : VQ} {E : XQ} (rd : Rd h d v) (hw : d.wid < 1000000) (h0 : 0 < n) (hn : n ≤ 1000) (fit : ∀ xs, d.row = some xs → Fit n xs) (e : d.chances = some xs) (q : Q (rowV xs) h) : Calls T (k + 6) "need_chances" [v] h Q E := by
  obtain ⟨b, hb⟩ := hT.nc
  refine Calls_eq [some v, none] hb rfl rfl ?_
  refine chances_gen (k := k) hT.toChanLib rd hw h0 hn fit ?_
  rw [e]
  exact Dr.here q
theorem nwishes_ok (hT : NeedsLib T) {k m : Nat} {v : Val} {d : D} {w : List (List Rat)} {r : List Rat} {rs : List (List Rat)} {h : Hep} {Q : VQ} {E : XQ} (rd : Rd h d v) (hw : d.wid < 1000000) (e : d.wishes = some w) (er : w = r :: rs) (hm : r.length = m) (q : Q (lookV w) h) : Calls T (k + 8) "need_wishes" [.int m, v] h Q E := by
  obtain ⟨b, hb⟩ := hT.nw
  refine Calls_eq [some (.int m), some v, none] hb rfl rfl ?_
  refine kwishes_ok (k := k) hT.toWishLib hT.kw rd hw e er hm ?_
  exact Dr.here q
theorem nlook_ok (hT : NeedsLib T) {k n m : Nat} {v : Val} {d : D} {l : List (List Rat)} {h : Hep} {Q : VQ} {E : XQ} (rd : Rd h d v) (hw : d.wid < 1000000) (h0 : 0 < n) (hn : n ≤ 1000) (fit : FitL n d) (e : d.look = some l) (hm : l.length = m) (q : Q (lookV l) h) : Calls T (k + 7) "need_look_for" [.int m, v] h Q E := by
  obtain ⟨b, hb⟩ := hT.nl
  refine Calls_eq [some (.int m), some v, none] hb rfl rfl ?_
  refine look_gen (k := k) hT.toLookLib rd hw h0 hn fit ?_
  rw [e]
  refine onJ_tup ?_
  refine ifF (by rw [List.length_map, hm]; simp) ?_
  exact Dr.here q
theorem nall_ok (hT : NeedsLib T) (hna : T "need_all" = some ⟨3, 5, c_need_all⟩) {k n : Nat} {v1 v2 v3 : Val} {d1 d2 d3 : D} {c : List Rat} {w l : List (List Rat)} {r : List Rat} {rs : List (List Rat)} {h : Hep} {Q : VQ} {E : XQ} (r1 : Rd h d1 v1) (r2 : Rd h d2 v2) (r3 : Rd h d3 v3) (w1 : d1.wid < 1000000) (w2 : d2.wid < 1000000) (w3 : d3.wid < 1000000)
    (h0 : 0 < n) (hn : n ≤ 1000) (f1 : ∀ xs, d1.row = some xs → Fit n xs) (f3 : FitL n d3) (e1 : d1.chances = some c) (e2 : d2.wishes = some w) (e3 : d3.look = some l) (er : w = r :: rs) (hr : r.length = c.length) (hl : l.length = c.length) (q : Q (.tup [rowV c, lookV w, lookV l]) h) : Calls T (k + 9) "need_all" [v1, v2, v3] h Q E := by
  refine Calls_eq [some v1, some v2, some v3, none, none] hna rfl rfl ?_
  refine nchances_ok (k := k + 2) hT r1 w1 h0 hn f1 e1 ?_
  have lc : (c.map fr).length = c.length := List.length_map ..
  refine onJ_tup ?_
  rw [lc]
  refine nwishes_ok (k := k) hT r2 w2 e2 er hr ?_
  refine onJ_tup ?_
  rw [lc]
  refine nlook_ok (k := k + 1) hT r3 w3 h0 hn f3 e3 hl ?_
  exact Dr.here q
end
end KM
/-! KNI: columns, weights, deeds, worths. -/
namespace KM
open PySem PySem.Spec PyProof.Rows L2
def c_columns_of : Sxs := .cons (.ret (.lc (.bi .tuple (.cons (.lc (.ix (.var 2) (.var 1)) (.nm 2) (.seq (.var 0)) .nil [2]) .nil)) (.nm 1) (.rng1 (.bi .len (.cons (.ix (.var 0) (.int 0)) .nil))) .nil [1])) .nil
def c_told_look : Sxs := .cons (.ret (.lc (.bi .list (.cons (.var 1) .nil)) (.nm 1) (.seq (.var 0)) .nil [1])) .nil
def c_full_of : Sxs := .cons (.ret (.bi .tuple (.cons (.lc (.bi .tuple (.cons (.lc (.ife (.cmp .Eq (.var 2) (.var 1)) (.con (.tup [.int 1, .int 1])) (.con (.tup [.int 0, .int 1]))) (.nm 2) (.rng1 (.var 0)) .nil [2]) .nil)) (.nm 1) (.rng1 (.var 0)) .nil [1]) .nil))) .nil
def c_weights_at : Sxs := .cons (.ret (.lc (.call "times" (.cons (.var 2) (.cons (.var 3) .nil))) (.tc (.nm 2) (.tc (.nm 3) .tn)) (.zip (.var 0) (.var 1)) .nil [2, 3])) .nil
def c_deeds_at : Sxs := .cons (.ret (.lc (.call "dot" (.cons (.var 0) (.cons (.var 2) .nil))) (.nm 2) (.seq (.var 1)) .nil [2])) .nil
def c_worths_at_signs : Sxs := .cons (.ret (.lc (.call "deeds_at" (.cons (.call "weights_at" (.cons (.var 0) (.cons (.var 3) .nil))) (.cons (.var 1) .nil))) (.nm 3) (.seq (.call "columns_of" (.cons (.var 2) .nil))) .nil [3])) .nil
def c_worth_of : Sxs := .cons (.ret (.call "total" (.cons (.lc (.call "greatest" (.cons (.var 3) .nil)) (.nm 3) (.seq (.call "worths_at_signs" (.cons (.var 0) (.cons (.var 1) (.cons (.var 2) .nil))))) .nil [3]) .nil))) .nil
theorem none_of {h g : Hep} (s : Sub h g) {p : Addr} (n : g p = none) : h p = none := by
  cases e : h p with
  | none => rfl
  | some o => rw [s _ _ e] at n; cases n
/-- a new list told, all else let go -/
theorem newL_dr {h g : Hep} {xs : List Val} {Q : VQ} (s : Sub h g) (q : newL h xs Q) : newL g xs fun v h1 => Dr h1 (Q v) := newL_in fun p np => ⟨_, fun a o z => by
  by_cases y : a = p
  · subst y; rw [hset_same] at z ⊢; exact z
  · rw [hset_ne y] at z ⊢; exact s a o z, newL_at q p (none_of s np)⟩
def colR (rows : List (List Rat)) (i : Nat) : List Rat := rows.map fun r => r.getD i 0
def colsR (s : Nat) (rows : List (List Rat)) : List (List Rat) := (List.range s).map (colR rows)
theorem rngV_map (n : Nat) : ∀ lo : Nat, rngV lo n = (List.range' lo n).map fun i => Val.int (i : Nat) := by
  induction n with
  | zero => intro lo; rfl
  | succ n ih =>
    intro lo
    simp only [rngV, List.range'_succ, List.map_cons]
    have := ih (lo + 1)
    rw [← this]
    rfl
section
variable {T : Str → Option Fc}
theorem columns_ok (hT : T "columns_of" = some ⟨1, 3, c_columns_of⟩) {k s : Nat} {rows : List (List Rat)} {r : List Rat} {rs : List (List Rat)} {h : Hep} {Q : VQ} {E : XQ} (er : rows = r :: rs) (hs : ∀ x ∈ rows, x.length = s) (l1 : rows.length < 1000000) (l2 : s < 1000000) (q : newL h ((colsR s rows).map rowV) Q) : Calls T (k + 1) "columns_of" [lookV rows] h Q E := by
  refine Calls_eq [some (lookV rows), none, none] hT rfl rfl ?_
  have e0 : r.length = s := hs r (by rw [er]; exact List.mem_cons_self)
  refine opIx_tup (h := h) (xs := rows.map rowV) (v := rowV r) (by rw [er]; exact atI_nat (j := 0) rfl) ?_
  refine onJ_tup ?_
  have ls : (((r.map fr).length : Nat) : Int) = (s : Int) := by rw [List.length_map, e0]
  refine ⟨⟨by rw [ls]; omega, by rw [ls]; omega⟩, ?_⟩
  have en : (((r.map fr).length : Nat) : Int).toNat = s := by rw [ls]; omega
  show Sm (rngV 0 (((r.map fr).length : Nat) : Int).toNat).length ∧ lcW _ _ _ _ _ _ (rngV 0 (((r.map fr).length : Nat) : Int).toNat) [] h
  rw [en]
  have e1 : rngV 0 s = (List.range s).map fun i => Val.int (i : Nat) := by
    rw [List.range_eq_range']
    exact rngV_map s 0
  rw [e1]
  refine ⟨show (_ : Nat) < 1000000 by rw [List.length_map, List.length_range]; exact l2, ?_⟩
  refine lc_mapU (g := fun i => rowV (colR rows i)) (fun _ _ => trivial) (fun h' s' i hi K kk => ?_) (fun h2 s2 => ?_)
  · refine src_tupI ?_
    refine ⟨show (rows.map rowV).length < 1000000 by rw [List.length_map]; exact l1, ?_⟩
    refine lc_map (f := rowV) (g := fun x => fr (x.getD i 0)) trivial (fun x hx K kk => ?_) ?_
    · have hx' := hs x hx
      have hi' : i < x.length := by rw [hx']; exact List.mem_range.mp hi
      refine opIx_tup (h := h') (xs := x.map fr) (v := fr (x.getD i 0)) (atI_nat ?_) kk
      rw [List.getElem?_map, List.getElem?_eq_getElem hi', List.getD_eq_getElem?_getD, List.getElem?_eq_getElem hi']
      rfl
    · refine newL_in fun p np => ?_
      refine onJ_ref hset_same ?_
      have := kk _ ((Sub.refl h').new (o := .lst (rows.map fun x => fr (x.getD i 0))) np)
      unfold rowV colR at this
      rw [List.map_map] at this
      exact this
  · refine newL_dr s2 ?_
    unfold colsR at q
    rw [List.map_map] at q
    exact q
end
end KM
/-! KNJ: comprehensions of lists; worths. -/
namespace KM
open PySem PySem.Spec PyProof.Rows L2
/-- pairwise, in a view -/
def AllH {α : Type} (R : α → Hep → Val → Prop) (h : Hep) : List α → List Val → Prop
  | [], ys => ys = []
  | x :: xs, ys => ∃ y r, ys = y :: r ∧ R x h y ∧ AllH R h xs r
theorem AllH.sub {α : Type} {R : α → Hep → Val → Prop} (mono : ∀ x h h' y, Sub h h' → R x h y → R x h' y) {h h' : Hep} (s : Sub h h') : ∀ {xs : List α} {ys : List Val}, AllH R h xs ys → AllH R h' xs ys
  | [], _, e => e
  | _ :: _, _, ⟨y, r, e, a, b⟩ => ⟨y, r, e, mono _ _ _ _ s a, AllH.sub mono s b⟩
theorem AllH.len {α : Type} {R : α → Hep → Val → Prop} {h : Hep} : ∀ {xs : List α} {ys : List Val}, AllH R h xs ys → ys.length = xs.length
  | [], _, e => by rw [show _ = [] from e]; rfl
  | _ :: _, _, ⟨y, r, e, a, b⟩ => by rw [e, List.length_cons, List.length_cons, AllH.len b]
theorem AllH.app {α : Type} {R : α → Hep → Val → Prop} {h : Hep} {x : α} {y : Val} (a : R x h y) : ∀ {xs : List α} {ys : List Val}, AllH R h xs ys → AllH R h (xs ++ [x]) (ys ++ [y])
  | [], _, e => by rw [show _ = [] from e]; exact ⟨y, [], rfl, a, rfl⟩
  | _ :: _, _, ⟨z, r, e, b, c⟩ => by rw [e]; exact ⟨z, _, rfl, b, AllH.app a c⟩
theorem lc_gr {α : Type} {C : CalT} {elt : WE} {bind : Val → Env → Option Env} {pins : List (Addr × List Val)} {env : Env} {h : Hep} {Q : VQ} {f : α → Val} {R : α → Hep → Val → Prop} (mono : ∀ x h h' y, Sub h h' → R x h y → R x h' y) (pn : ∀ h', Sub h h' → pinOk h' pins) :
    ∀ (xs : List α) (done : List α) {acc : List Val} {h' : Hep}, (∀ h', Sub h h' → ∀ x ∈ xs, ∀ K : VQ, (∀ y h2, Sub h' h2 → R x h2 y → K y h2) → onO (bind (f x) env) fun env' => elt env' h' K (fun _ _ => False)) → Sub h h' → AllH R h' done acc →
    (∀ ys h2, Sub h h2 → AllH R h2 (done ++ xs) ys → newL h2 ys Q) → lcW (wCs C .nil) elt bind pins env Q (xs.map f) acc h'
  | [], done, acc, h', st, s, a, q => by
    rw [List.append_nil] at q
    exact ⟨pn h' s, q acc h' s a⟩
  | x :: xs, done, acc, h', st, s, a, q => by
    refine ⟨pn h' s, ?_⟩
    refine st h' s x List.mem_cons_self (fun y' h2 => lcW (wCs C .nil) elt bind pins env Q (xs.map f) (acc ++ [y']) h2) fun y h2 s2 r => ?_
    exact lc_gr mono pn xs (done ++ [x]) (fun h' s' x' hx => st h' s' x' (List.mem_cons_of_mem _ hx)) (s.trans s2) (AllH.app r (AllH.sub mono s2 a)) (fun ys h3 s3 al => q ys h3 s3 (by rw [List.append_assoc] at al; exact al))
end KM
/-! KNK: weights, deeds, worths. -/
namespace KM
open PySem PySem.Spec PyProof.Rows L2
def mulR (xs ys : List Rat) : List Rat := List.zipWith (· * ·) xs ys
structure WorthLib (T : Str → Option Fc) : Prop extends SumLib T where
  un : T "is_under" = some ⟨2, 2, c_is_under⟩
  gr : T "greatest" = some ⟨1, 3, c_greatest⟩
  co : T "columns_of" = some ⟨1, 3, c_columns_of⟩
  wa : T "weights_at" = some ⟨2, 4, c_weights_at⟩
  da : T "deeds_at" = some ⟨2, 3, c_deeds_at⟩
  ws : T "worths_at_signs" = some ⟨3, 4, c_worths_at_signs⟩
  wo : T "worth_of" = some ⟨3, 4, c_worth_of⟩
section
variable {T : Str → Option Fc}
theorem weights_ok (hT : WorthLib T) {k n m : Nat} {v w : Val} {xs ys : List Rat} {h : Hep} {Q : VQ} {E : XQ} (i : Its h v (xs.map fr)) (j : Its h w (ys.map fr)) (h0 : 0 < n) (h1 : 0 < m) (hn : n + m ≤ 1000) (hx : ∀ x ∈ xs, Bd n x) (hy : ∀ y ∈ ys, Bd m y) (hl : xs.length < 1000000) (q : newL h ((mulR xs ys).map fr) Q) : Calls T (k + 4) "weights_at" [v, w] h Q E := by
  refine Calls_eq [some v, some w, none, none] hT.wa rfl rfl ?_
  refine src_its i fun pins hp => ?_
  refine src_its j fun pins2 hp2 => ?_
  show Sm (zipV (xs.map fr) (ys.map fr)).length ∧ lcW _ _ _ _ _ _ (zipV (xs.map fr) (ys.map fr)) [] h
  rw [zipV_map]
  refine ⟨show (_ : Nat) < 1000000 by rw [List.length_map, List.length_zip]; omega, ?_⟩
  refine lc_map (g := fun p => fr (p.1 * p.2)) (pinOk_both (hp h (Sub.refl h)) (hp2 h (Sub.refl h))) (fun p hm K kk => ?_) ?_
  · have mm := zip_mem hm
    exact times_ok hT.toRedLib hT.ti (k := k) (n := n + m) (by omega) (by omega) ((hx _ mm.1).mono (by omega)) ((hy _ mm.2).mono (by omega)) kk
  · rw [← zipWith_map]
    exact newL_dr (Sub.refl h) q
theorem deeds_ok (hT : WorthLib T) {k n m : Nat} {v : Val} {xs : List Rat} {wish : List (List Rat)} {h : Hep} {Q : VQ} {E : XQ} (i : Its h v (xs.map fr)) (h0 : 0 < n) (h1 : 0 < m) (hn : n + m ≤ 1000) (hx : ∀ x ∈ xs, Bd n x) (hy : ∀ r ∈ wish, ∀ y ∈ r, Bd m y) (hl : 1 + (n + m + 3) * xs.length ≤ 3900) (hw : wish.length < 1000000) (q : newL h (wish.map fun r => fr (dotR xs r)) Q) : Calls T (k + 6) "deeds_at" [v, lookV wish] h Q E := by
  refine Calls_eq [some v, some (lookV wish), none] hT.da rfl rfl ?_
  refine src_tupI ?_
  refine ⟨show (wish.map rowV).length < 1000000 by rw [List.length_map]; exact hw, ?_⟩
  refine lc_map (f := rowV) (g := fun r => fr (dotR xs r)) trivial (fun r hr K kk => ?_) (newL_dr (Sub.refl h) q)
  exact dot_ok hT.toSumLib (k := k) i (.inl rfl) h0 h1 hx (hy r hr) hl hn kk
/-- what the deeds bring with these weights -/
def deedR (wish : List (List Rat)) (ws : List Rat) : List Rat := wish.map fun r => dotR ws r
theorem mulR_bd {n m : Nat} {xs ys : List Rat} (hx : ∀ x ∈ xs, Bd n x) (hy : ∀ y ∈ ys, Bd m y) : ∀ z ∈ mulR xs ys, Bd (n + m + 1) z := zipWith_bd hx hy
theorem sumR_bd {n : Nat} : ∀ {xs : List Rat}, (∀ x ∈ xs, Bd n x) → Bd (1 + (n + 2) * xs.length) (sumR xs)
  | [], _ => bd_zero (by simp)
  | x :: xs, h => by
    have a := h x List.mem_cons_self
    have b := sumR_bd fun y hy => h y (List.mem_cons_of_mem _ hy)
    show Bd _ (x + sumR xs)
    have := a.addM b
    refine this.mono ?_
    rw [List.length_cons, Nat.mul_add]
    omega
theorem dotR_bd {n m s : Nat} {xs ys : List Rat} (hx : ∀ x ∈ xs, Bd n x) (hy : ∀ y ∈ ys, Bd m y) (hl : xs.length ≤ s) : Bd (1 + (n + m + 3) * s) (dotR xs ys) := by
  have := sumR_bd (zipWith_bd hx hy)
  refine this.mono ?_
  have l : (List.zipWith (· * ·) xs ys).length ≤ s := by rw [List.length_zipWith]; omega
  have := Nat.mul_le_mul_left (n + m + 3) l
  have e : n + m + 1 + 2 = n + m + 3 := by omega
  rw [e]
  omega
theorem topR_mem : ∀ (xs : List Rat) (a : Rat), topR a xs = a ∨ topR a xs ∈ xs
  | [], a => .inl rfl
  | x :: xs, a => by
    show topR (if a < x then x else a) xs = a ∨ _
    split
    · rcases topR_mem xs x with h | h
      · exact .inr (by rw [topR, if_pos (by assumption), h]; exact List.mem_cons_self)
      · exact .inr (by rw [topR, if_pos (by assumption)]; exact List.mem_cons_of_mem _ h)
    · rcases topR_mem xs a with h | h
      · exact .inl h
      · exact .inr (by rw [topR, if_neg (by assumption)]; exact List.mem_cons_of_mem _ h)
def maxR (xs : List Rat) : Rat := topR (xs.headD 0) xs
theorem maxR_bd {n : Nat} (h0 : 0 < n) {xs : List Rat} (h : ∀ x ∈ xs, Bd n x) : Bd n (maxR xs) := by
  cases xs with
  | nil => exact bd_zero h0
  | cons x xs =>
    rcases topR_mem (x :: xs) x with e | e
    · show Bd n (topR x (x :: xs)); rw [e]; exact h x List.mem_cons_self
    · exact h _ e
theorem greatest_ok (hT : WorthLib T) {k n : Nat} {v : Val} {xs : List Rat} {h : Hep} {Q : VQ} {E : XQ} (i : Its h v (xs.map fr)) (ne : xs ≠ []) (h0 : 0 < n) (hn : n ≤ 4000) (hx : ∀ x ∈ xs, Bd n x) (q : Q (fr (maxR xs)) h) : Calls T (k + 2) "greatest" [v] h Q E := by
  refine Calls_eq [some v, none, none] hT.gr rfl rfl ?_
  cases xs with
  | nil => exact (ne rfl).elim
  | cons x xs =>
    refine its_ix i (x := fr x) (atI_nat (j := 0) rfl) ?_
    refine src_its i fun pins hp => ?_
    refine great_for hT.un (hp h (Sub.refl h)) h0 hn (x :: xs) x hx (hx x List.mem_cons_self) fun z => ?_
    exact Dr.here q
def RowAt (f : List Rat → List Rat) (x : List Rat) (h : Hep) (y : Val) : Prop := Its h y ((f x).map fr)
theorem RowAt.mono {f : List Rat → List Rat} : ∀ x h h' y, Sub h h' → RowAt f x h y → RowAt f x h' y := fun _ _ _ _ s i => i.sub s
theorem worths_ok (hT : WorthLib T) {k n l m s : Nat} {c : List Rat} {wish look : List (List Rat)} {r : List Rat} {rs : List (List Rat)} {h : Hep} {Q : VQ} {E : XQ} (er : look = r :: rs) (hs : ∀ x ∈ look, x.length = s) (l1 : look.length < 1000000) (l2 : s < 1000000) (lc : look.length = c.length)
    (h0 : 0 < n) (hl0 : 0 < l) (h1 : 0 < m) (hn : n + l + 1 + m ≤ 1000) (bc : ∀ x ∈ c, Bd n x) (bl : ∀ x ∈ look, ∀ y ∈ x, Bd l y) (bw : ∀ x ∈ wish, ∀ y ∈ x, Bd m y) (hl : 1 + (n + l + 1 + m + 3) * c.length ≤ 3900) (hw : wish.length < 1000000)
    (q : ∀ p h2 ys, Sub h h2 → h2 p = some (.lst ys) → AllH (RowAt fun col => deedR wish (mulR c col)) h2 (colsR s look) ys → Q (.ref p) h2) : Calls T (k + 8) "worths_at_signs" [rowV c, lookV wish, lookV look] h Q E := by
  refine Calls_eq [some (rowV c), some (lookV wish), some (lookV look), none] hT.ws rfl rfl ?_
  refine columns_ok hT.co (k := k + 6) er hs l1 l2 ?_
  refine newL_in fun p np => ?_
  have sp := (Sub.refl h).new (o := .lst ((colsR s look).map rowV)) np
  refine src_refI hset_same ?_
  have bcol : ∀ col ∈ colsR s look, ∀ y ∈ col, Bd l y := by
    intro col hc y hy
    obtain ⟨i, hi, rfl⟩ := List.mem_map.mp hc
    obtain ⟨x, hx, rfl⟩ := List.mem_map.mp hy
    have li : i < x.length := by rw [hs x hx]; exact List.mem_range.mp hi
    rw [List.getD_eq_getElem?_getD, List.getElem?_eq_getElem li]
    exact bl x hx _ (List.getElem_mem li)
  have lcol : ∀ col ∈ colsR s look, col.length = look.length := by
    intro col hc
    obtain ⟨i, hi, rfl⟩ := List.mem_map.mp hc
    exact List.length_map ..
  have clen : c.length ≤ 3900 := Nat.le_trans (Nat.le_mul_of_pos_left c.length (show 0 < n + l + 1 + m + 3 by omega)) (by omega)
  refine ⟨show ((colsR s look).map rowV).length < 1000000 by rw [List.length_map]; unfold colsR; rw [List.length_map, List.length_range]; exact l2, ?_⟩
  refine lc_gr (pins := [(p, (colsR s look).map rowV)]) (R := RowAt fun col => deedR wish (mulR c col)) RowAt.mono (fun h' s' => ⟨s' _ _ hset_same, trivial⟩) (colsR s look) [] (fun h' s' col hc K kk => ?_) (Sub.refl _) rfl (fun ys h2 s2 al => ?_)
  · refine weights_ok hT (k := k + 3) (xs := c) (ys := col) (.inl rfl) (.inl rfl) h0 hl0 (by omega) bc (bcol col hc) (by omega) ?_
    refine newL_in fun p2 np2 => ?_
    have sp2 := (Sub.refl h').new (o := .lst ((mulR c col).map fr)) np2
    have lm : (mulR c col).length ≤ c.length := by unfold mulR; rw [List.length_zipWith]; omega
    refine deeds_ok hT (k := k + 1) (n := n + l + 1) (m := m) (xs := mulR c col) (.inr ⟨p2, rfl, hset_same⟩) (by omega) h1 hn (mulR_bd bc (bcol col hc)) bw ?_ hw ?_
    · have := Nat.mul_le_mul_left (n + l + 1 + m + 3) lm
      omega
    · refine newL_in fun p3 np3 => ?_
      refine kk _ _ (sp2.trans ((Sub.refl _).new np3)) (.inr ⟨p3, rfl, ?_⟩)
      rw [hset_same]
      unfold deedR
      rw [List.map_map]
      rfl
  · refine newL_in fun p4 np4 => ?_
    exact Dr.here (q p4 _ ys (sp.trans (s2.trans ((Sub.refl h2).new np4))) hset_same (AllH.sub RowAt.mono ((Sub.refl h2).new np4) al))
def worthR (c : List Rat) (wish look : List (List Rat)) (s : Nat) : Rat := sumR ((colsR s look).map fun col => maxR (deedR wish (mulR c col)))
theorem AllH.all2 {α : Type} {R : α → Hep → Val → Prop} {h : Hep} {g : α → Val} : ∀ {xs : List α} {ys : List Val}, AllH R h xs ys → All2 (fun v y => ∃ x ∈ xs, R x h v ∧ y = g x) ys (xs.map g) := by
  have key : ∀ {xs' xs : List α} {ys : List Val}, (∀ x ∈ xs, x ∈ xs') → AllH R h xs ys → All2 (fun v y => ∃ x ∈ xs', R x h v ∧ y = g x) ys (xs.map g) := by
    intro xs' xs
    induction xs with
    | nil => intro ys _ a; rw [show ys = [] from a]; exact .nil
    | cons x xs ih =>
      intro ys m ⟨y, r, e, a, b⟩
      subst e
      exact .cons ⟨x, m x List.mem_cons_self, a, rfl⟩ (ih (fun z hz => m z (List.mem_cons_of_mem _ hz)) b)
  intro xs ys a
  exact key (fun _ hx => hx) a
theorem worth_ok (hT : WorthLib T) {k n l m s : Nat} {c : List Rat} {wish look : List (List Rat)} {r : List Rat} {rs : List (List Rat)} {h : Hep} {Q : VQ} {E : XQ} (er : look = r :: rs) (hs : ∀ x ∈ look, x.length = s) (l1 : look.length < 1000000) (l2 : s < 1000000) (lc : look.length = c.length) (wn : wish ≠ [])
    (h0 : 0 < n) (hl0 : 0 < l) (h1 : 0 < m) (hn : n + l + 1 + m ≤ 1000) (bc : ∀ x ∈ c, Bd n x) (bl : ∀ x ∈ look, ∀ y ∈ x, Bd l y) (bw : ∀ x ∈ wish, ∀ y ∈ x, Bd m y) (hl : 1 + (n + l + 1 + m + 3) * c.length ≤ 3900) (hw : wish.length < 1000000)
    (big : 1 + (1 + (n + l + 1 + m + 3) * c.length + 2) * s ≤ 3900) (q : Q (fr (worthR c wish look s)) h) : Calls T (k + 9) "worth_of" [rowV c, lookV wish, lookV look] h Q E := by
  refine Calls_eq [some (rowV c), some (lookV wish), some (lookV look), none] hT.wo rfl rfl ?_
  refine worths_ok (k := k) hT er hs l1 l2 lc h0 hl0 h1 hn bc bl bw hl hw fun p h2 ys s2 hp al => ?_
  have cl : (colsR s look).length = s := by unfold colsR; rw [List.length_map, List.length_range]
  have bcol : ∀ col ∈ colsR s look, ∀ y ∈ col, Bd l y := by
    intro col hc y hy
    obtain ⟨i, hi, rfl⟩ := List.mem_map.mp hc
    obtain ⟨x, hx, rfl⟩ := List.mem_map.mp hy
    have li : i < x.length := by rw [hs x hx]; exact List.mem_range.mp hi
    rw [List.getD_eq_getElem?_getD, List.getElem?_eq_getElem li]
    exact bl x hx _ (List.getElem_mem li)
  have bd : ∀ col ∈ colsR s look, ∀ x ∈ deedR wish (mulR c col), Bd (1 + (n + l + 1 + m + 3) * c.length) x := by
    intro col hc x hx
    obtain ⟨w, hw', rfl⟩ := List.mem_map.mp hx
    exact dotR_bd (mulR_bd bc (bcol col hc)) (bw w hw') (by unfold mulR; rw [List.length_zipWith]; omega)
  refine src_refI hp ?_
  refine ⟨show ys.length < 1000000 by rw [al.len, cl]; exact l2, ?_⟩
  refine lc_rel0 (P := fun v y => ∃ col ∈ colsR s look, RowAt (fun col => deedR wish (mulR c col)) col h2 v ∧ y = fr (maxR (deedR wish (mulR c col)))) ⟨hp, trivial⟩ (fun v y ⟨col, hc, rw1, e1⟩ K kk => ?_) (al.all2 (g := fun col => fr (maxR (deedR wish (mulR c col))))) ?_
  · subst e1
    exact greatest_ok hT (k := k + 6) rw1 (fun z => wn (List.map_eq_nil_iff.mp z)) (by omega) (by omega) (bd col hc) kk
  · refine newL_in fun p3 np3 => ?_
    have e3 : ((colsR s look).map fun col => fr (maxR (deedR wish (mulR c col)))) = ((colsR s look).map fun col => maxR (deedR wish (mulR c col))).map fr := by rw [List.map_map]; rfl
    rw [e3]
    refine total_ok hT.toSumLib (k := k + 4) (n := 1 + (n + l + 1 + m + 3) * c.length) (.inr ⟨p3, rfl, hset_same⟩) (by omega) (fun x hx => ?_) (by rw [List.length_map, cl]; exact big) (by omega) ?_
    · obtain ⟨col, hc, rfl⟩ := List.mem_map.mp hx
      exact maxR_bd (by omega) (bd col hc)
    · exact ⟨h, s2.trans ((Sub.refl h2).new np3), q⟩
end
end KM
/-! KNL: comprehensions that draw; drawn chances. -/
namespace KM
open PySem PySem.Spec PyProof.Rows L2
theorem lc_st {α : Type} {C : CalT} {elt : WE} {bind : Val → Env → Option Env} {pins : List (Addr × List Val)} {env : Env} {h : Hep} {Q : VQ} {f : α → Val} {R : α → Hep → Val → Prop} {a : Addr} {b c : Nat} (mono : ∀ x h h' y, Sub h h' → R x h y → R x h' y) (pn : ∀ h', Sub h h' → pinOk h' pins) :
    ∀ (xs : List α) (done : List α) {acc : List Val} {h' g' : Hep}, (∀ h' g' b', Sub h h' → St a h' (b' + c) g' → ∀ x ∈ xs, ∀ K : VQ, (∀ y h2 g2, Sub h' h2 → St a h2 b' g2 → R x h2 y → K y g2) → onO (bind (f x) env) fun env' => elt env' g' K (fun _ _ => False)) → Sub h h' → St a h' (b + c * xs.length) g' → AllH R h' done acc →
    (∀ ys h2 g2, Sub h h2 → St a h2 b g2 → AllH R h2 (done ++ xs) ys → newL g2 ys Q) → lcW (wCs C .nil) elt bind pins env Q (xs.map f) acc g'
  | [], done, acc, h', g', st, s, sg, al, q => by
    rw [List.append_nil] at q
    exact ⟨pinOk_sub sg.sub (pn h' s), q acc h' g' s sg al⟩
  | x :: xs, done, acc, h', g', st, s, sg, al, q => by
    refine ⟨pinOk_sub sg.sub (pn h' s), ?_⟩
    have sg' : St a h' ((b + c * xs.length) + c) g' := sg.le (by rw [List.length_cons, Nat.mul_add]; omega)
    refine st h' g' (b + c * xs.length) s sg' x List.mem_cons_self (fun y' h2 => lcW (wCs C .nil) elt bind pins env Q (xs.map f) (acc ++ [y']) h2) fun y h2 g2 s2 sg2 r => ?_
    exact lc_st mono pn xs (done ++ [x]) (fun h' g' b' s' t' x' hx => st h' g' b' s' t' x' (List.mem_cons_of_mem _ hx)) (s.trans s2) sg2 (AllH.app r (AllH.sub mono s2 al)) (fun ys h3 g3 s3 t3 al => q ys h3 g3 s3 t3 (by rw [List.append_assoc] at al; exact al))
/-! ### shares of a whole -/
theorem sum_shares (W : Int) : ∀ ws : List Int, sumR (ws.map fun w => Rat.divInt w W) = Rat.divInt ws.sum W
  | [] => by
    show (0 : Rat) = Rat.divInt 0 W
    rw [Rat.zero_divInt]
  | w :: ws => by
    show Rat.divInt w W + sumR _ = _
    rw [sum_shares W ws, List.sum_cons, Rat.divInt_eq_div, Rat.divInt_eq_div, Rat.divInt_eq_div, Rat.intCast_add, Rat.div_def, Rat.div_def, Rat.div_def, Rat.add_mul]
def c__law_chances : Sxs := .cons (.asg (.nm 3) (.lc (.bin .Add (.var 2) (.call "_law_draw" (.cons (.var 0) (.cons (.call "_law_pick" (.cons (.var 0) (.cons (.lst (.cons (.int 1) (.cons (.int 2) (.cons (.int 4) (.cons (.int 7) .nil))))) .nil))) .nil)))) (.nm 4) (.rng1 (.var 1)) .nil [4])) (.cons (.ife (.cmp .Eq (.bi .sum (.cons (.var 3) .nil)) (.int 0)) (.cons (.setix (.var 3) (.call "_law_draw" (.cons (.var 0) (.cons (.var 1) .nil))) (.int 1)) .nil) .nil) (.cons (.ret (.lc (.call "_law_frac" (.cons (.var 5) (.cons (.bi .sum (.cons (.var 3) .nil)) .nil))) (.nm 5) (.seq (.var 3)) .nil [5])) .nil))
def c__law_look : Sxs := .cons (.asg (.nm 3) (.lc (.call "_law_chances" (.cons (.var 0) (.cons (.var 2) (.cons (.int 0) .nil)))) (.nm 4) (.rng1 (.var 1)) .nil [4])) (.cons (.ife (.and (.cmp .Gt (.var 1) (.int 1)) (.cmp .Eq (.call "_law_draw" (.cons (.var 0) (.cons (.int 5) .nil))) (.int 0))) (.cons (.setix (.var 3) (.int 0) (.bi .list (.cons (.ix (.var 3) (.call "_law_draw" (.cons (.var 0) (.cons (.var 1) .nil)))) .nil))) .nil) .nil) (.cons (.ret (.var 3)) .nil))
def c__law_wishes : Sxs := .cons (.ret (.lc (.lc (.call "_law_drawn" (.cons (.var 0) (.cons (.int 3) .nil))) (.nm 4) (.rng1 (.var 1)) .nil [4]) (.nm 3) (.rng1 (.var 2)) .nil [3])) .nil
def c__law_drawn : Sxs := .cons (.asg (.nm 2) (.call "_law_pick" (.cons (.var 0) (.cons (.lst (.cons (.int 1) (.cons (.int 1) (.cons (.int 1) (.cons (.int 2) (.cons (.int 3) (.cons (.int 4) (.cons (.int 5) (.cons (.int 7) .nil))))))))) .nil)))) (.cons (.ret (.call "_law_frac" (.cons (.bin .Sub (.call "_law_draw" (.cons (.var 0) (.cons (.bin .Add (.bin .Mult (.bin .Mult (.int 2) (.var 1)) (.var 2)) (.int 1)) .nil))) (.bin .Mult (.var 1) (.var 2))) (.cons (.var 2) .nil)))) .nil)
def c__law_weights : Sxs := .cons (.ret (.lc (.call "_law_times" (.cons (.var 3) (.cons (.ix (.var 4) (.var 2)) .nil))) (.tc (.nm 3) (.tc (.nm 4) .tn)) (.zip (.var 0) (.var 1)) .nil [3, 4])) .nil
def c__law_best : Sxs := .cons (.ret (.call "_law_greatest" (.cons (.lc (.call "_law_dot" (.cons (.var 0) (.cons (.var 2) .nil))) (.nm 2) (.seq (.var 1)) .nil [2]) .nil))) .nil
def c__law_worth : Sxs := .cons (.ret (.call "_law_total" (.cons (.lc (.call "_law_best" (.cons (.call "_law_weights" (.cons (.var 0) (.cons (.var 2) (.cons (.var 3) .nil)))) (.cons (.var 1) .nil))) (.nm 3) (.rng1 (.bi .len (.cons (.ix (.var 2) (.int 0)) .nil))) .nil [3]) .nil))) .nil
def c__law_w_sized : Sxs := .cons (.ret (.call "_law_look" (.cons (.var 0) (.cons (.bin .Add (.int 1) (.call "_law_draw" (.cons (.var 0) (.cons (.var 1) .nil)))) (.cons (.bin .Add (.int 1) (.call "_law_draw" (.cons (.var 0) (.cons (.var 2) .nil)))) .nil))))) .nil
def c__law_w_full : Sxs := .cons (.ret (.lc (.lc (.ife (.cmp .Eq (.var 2) (.var 1)) (.tup (.cons (.int 1) (.cons (.int 1) .nil))) (.tup (.cons (.int 0) (.cons (.int 1) .nil)))) (.nm 2) (.rng1 (.var 0)) .nil [2]) (.nm 1) (.rng1 (.var 0)) .nil [1])) .nil
def c__law_w_case : Sxs := .cons (.asg (.nm 4) (.call "_law_w_sized" (.cons (.var 0) (.cons (.var 1) (.cons (.var 2) .nil))))) (.cons (.asg (.nm 5) (.bi .len (.cons (.var 4) .nil))) (.cons (.ret (.tup (.cons (.call "_law_chances" (.cons (.var 0) (.cons (.var 5) (.cons (.int 0) .nil)))) (.cons (.call "_law_wishes" (.cons (.var 0) (.cons (.var 5) (.cons (.bin .Add (.int 1) (.call "_law_draw" (.cons (.var 0) (.cons (.var 3) .nil)))) .nil)))) (.cons (.var 4) .nil))))) .nil))
def c__law_w_at_signs : Sxs := .cons (.ret (.lc (.lc (.call "_law_dot" (.cons (.call "_law_weights" (.cons (.var 0) (.cons (.var 2) (.cons (.var 3) .nil)))) (.cons (.var 4) .nil))) (.nm 4) (.seq (.var 1)) .nil [4]) (.nm 3) (.rng1 (.bi .len (.cons (.ix (.var 2) (.int 0)) .nil))) .nil [3])) .nil
def c__law_w_ahead : Sxs := .cons (.ret (.call "_law_greatest" (.cons (.lc (.call "_law_dot" (.cons (.var 0) (.cons (.var 2) .nil))) (.nm 2) (.seq (.var 1)) .nil [2]) .nil))) .nil
structure DrawLib (T : Str → Option Fc) : Prop where
  dw : T "_law_draw" = some ⟨2, 5, c__law_draw⟩
  pk : T "_law_pick" = some ⟨2, 2, c__law_pick⟩
  fr : T "_law_frac" = some ⟨2, 5, c__law_frac⟩
  ch : T "_law_chances" = some ⟨3, 6, c__law_chances⟩
/-- chances, not too long -/
structure Chan (xs : List Rat) (many : Nat) : Prop where
  len : xs.length = many
  nn : ∀ x ∈ xs, 0 ≤ x
  bd : ∀ x ∈ xs, Bd 8 x
  one : sumR xs = 1
theorem chan_of {ws : List Int} {W : Int} {many : Nat} (hl : ws.length = many) (h0 : ∀ w ∈ ws, 0 ≤ w ∧ w < 128) (hs : ws.sum = W) (hW : 0 < W) (hW2 : W < 128) : Chan (ws.map fun w => Rat.divInt w W) many where
  len := by rw [List.length_map, hl]
  nn := fun x hx => by
    obtain ⟨w, hw, rfl⟩ := List.mem_map.mp hx
    exact Rat.divInt_nonneg (h0 w hw).1 (by omega)
  bd := fun x hx => by
    obtain ⟨w, hw, rfl⟩ := List.mem_map.mp hx
    have := h0 w hw
    exact Bd.divInt (n := 7) (by omega) (by omega)
  one := by rw [sum_shares, hs, Rat.divInt_self' (by omega)]
end KM
/-! KPA: drawn chances, looks, wishes. -/
namespace KM
open PySem PySem.Spec PyProof.Rows L2
theorem sub_to {i j k : Int} {h : Hep} {Q : VQ} (e : i - j = k) (q : Q (.int k) h) : opB .Sub (.int i) (.int j) h Q := by subst e; exact q
theorem add_to {i j k : Int} {h : Hep} {Q : VQ} (e : i + j = k) (q : Q (.int k) h) : opB .Add (.int i) (.int j) h Q := by subst e; exact q
theorem St.newL {a : Addr} {h g : Hep} {n : Nat} {xs : List Val} {Q : VQ} (st : St a h n g) (q : ∀ p h' g', Sub h h' → Sub g g' → St a h' n g' → h' p = some (.lst xs) → h p = none → Q (.ref p) g') : KM.newL g xs Q := newL_in fun p np => by
  obtain ⟨st1, hp⟩ := st.new (o := .lst xs) np
  exact q p _ _ ((Sub.refl h).new hp) ((Sub.refl g).new np) st1 hset_same hp
theorem Sub.setNew {h h' : Hep} (s : Sub h h') {p : Addr} {o : Ob} (n : h p = none) : Sub h (hset h' p o) := fun a ob e => by
  have z : a ≠ p := fun y => by subst y; rw [n] at e; cases e
  rw [hset_ne z]; exact s a ob e
theorem mem_small {xs : List Int} {i : Nat} {x : Val} (h : (xs.map Val.int)[i]? = some x) : ∃ b, x = .int b ∧ b ∈ xs := by
  have := List.mem_of_getElem? h
  obtain ⟨b, hb, rfl⟩ := List.mem_map.mp this
  exact ⟨b, rfl, hb⟩
theorem opSet_in {h : Hep} {p : Addr} {xs ys : List Val} {d : Int} {j : Nat} {v : Val} {Q : Hep → Prop} (hp : h p = some (.lst xs)) (ix : ixN xs.length d = some j) (e : xs.set j v = ys) (q : Q (hset h p (.lst ys))) : opSet (.ref p) (.int d) v h Q := by
  subst e
  show onL h p _
  refine onL_in hp ?_
  rw [ix]
  exact q
/-! ### lists of fractions, tables -/
def rowL (xs : List Rat) : D := .lst (xs.map dr)
def tabL (rows : List (List Rat)) : D := .lst (rows.map rowL)
theorem rds_frs_eq {h : Hep} : ∀ {xs : List Rat} {vs : List Val}, Rds h (xs.map dr) vs → vs = xs.map fr
  | [], vs, r => r
  | x :: xs, vs, ⟨v, r, e, ⟨ws, e1, w0, r0, e2, q0, w1, r1, e3, q1, e4⟩, b⟩ => by
    have f0 : w0 = .int x.num := q0
    have f1 : w1 = .int x.den := q1
    have f2 : r1 = [] := e4
    rw [e, e1, e2, e3, f0, f1, f2, rds_frs_eq b]
    rfl
theorem rowL_in {h : Hep} {p : Addr} {xs : List Rat} (e : h p = some (.lst (xs.map fr))) : Rd h (rowL xs) (.ref p) := ⟨p, _, rfl, e, rds_frs xs⟩
theorem rowL_out {h : Hep} {v : Val} {xs : List Rat} (r : Rd h (rowL xs) v) : ∃ p, v = .ref p ∧ h p = some (.lst (xs.map fr)) := by
  obtain ⟨p, vs, rfl, hp, q⟩ := r
  rw [rds_frs_eq q] at hp
  exact ⟨p, rfl, hp⟩
theorem rowL_its {h : Hep} {v : Val} {xs : List Rat} (r : Rd h (rowL xs) v) : Its h v (xs.map fr) := .inr (rowL_out r)
theorem tabL_out {h : Hep} {v : Val} {rows : List (List Rat)} (r : Rd h (tabL rows) v) : ∃ p vs, v = .ref p ∧ h p = some (.lst vs) ∧ Rds h (rows.map rowL) vs := r
/-- the part at a place -/
theorem rds_at {h : Hep} : ∀ {ds : List D} {vs : List Val} {i : Nat} {d : D}, Rds h ds vs → ds[i]? = some d → ∃ v, vs[i]? = some v ∧ Rd h d v
  | _ :: _, _, 0, d, ⟨v, r, e, q, t⟩, hi => by
    rw [List.getElem?_cons_zero] at hi
    cases hi
    exact ⟨v, by rw [e]; rfl, q⟩
  | _ :: _, _, i + 1, d, ⟨v, r, e, q, t⟩, hi => by
    rw [List.getElem?_cons_succ] at hi
    obtain ⟨w, e1, q1⟩ := rds_at t hi
    exact ⟨w, by rw [e, List.getElem?_cons_succ]; exact e1, q1⟩
theorem rds_set {h : Hep} : ∀ {ds : List D} {vs : List Val} {i : Nat} {d : D} {v : Val}, Rds h ds vs → Rd h d v → Rds h (ds.set i d) (vs.set i v)
  | [], vs, i, d, v, r, _ => by rw [show vs = [] from r]; exact rfl
  | d0 :: ds, _, 0, d, v, ⟨v0, r, e, q, t⟩, rd => by rw [e]; exact Rds.cons rd t
  | d0 :: ds, _, i + 1, d, v, ⟨v0, r, e, q, t⟩, rd => by rw [e]; exact Rds.cons q (rds_set t rd)
theorem allH_map {α β : Type} {f : β → Val} {P : β → Prop} {h : Hep} : ∀ {xs : List α} {ys : List Val}, AllH (fun _ _ y => ∃ w, y = f w ∧ P w) h xs ys → ∃ ws : List β, ys = ws.map f ∧ ws.length = xs.length ∧ ∀ w ∈ ws, P w
  | [], ys, e => ⟨[], e, rfl, fun _ h => by cases h⟩
  | x :: xs, ys, ⟨y, r, e, ⟨w, e1, pw⟩, b⟩ => by
    obtain ⟨ws, e2, l, pq⟩ := allH_map b
    exact ⟨w :: ws, by rw [e, e1, e2]; rfl, by rw [List.length_cons, List.length_cons, l], fun z hz => by
      rcases List.mem_cons.mp hz with rfl | hz
      · exact pw
      · exact pq z hz⟩
theorem allH_rd {α β : Type} {F : β → D} {P : β → Prop} {h : Hep} : ∀ {xs : List α} {ys : List Val}, AllH (fun _ h y => ∃ w, Rd h (F w) y ∧ P w) h xs ys → ∃ ws : List β, Rds h (ws.map F) ys ∧ ws.length = xs.length ∧ ∀ w ∈ ws, P w
  | [], ys, e => ⟨[], e, rfl, fun _ h => by cases h⟩
  | x :: xs, ys, ⟨y, r, e, ⟨w, e1, pw⟩, b⟩ => by
    obtain ⟨ws, e2, l, pq⟩ := allH_rd b
    exact ⟨w :: ws, ⟨y, r, e, e1, e2⟩, by rw [List.length_cons, List.length_cons, l], fun z hz => by
      rcases List.mem_cons.mp hz with rfl | hz
      · exact pw
      · exact pq z hz⟩
theorem rdP_mono {α β : Type} {F : β → D} {P : β → Prop} : ∀ (x : α) h h' y, Sub h h' → (∃ w, Rd h (F w) y ∧ P w) → ∃ w, Rd h' (F w) y ∧ P w := fun _ _ _ _ s ⟨w, r, p⟩ => ⟨w, r.sub s, p⟩
theorem valP_mono {α β : Type} {f : β → Val} {P : β → Prop} : ∀ (x : α) (h h' : Hep) y, Sub h h' → (∃ w, y = f w ∧ P w) → ∃ w, y = f w ∧ P w := fun _ _ _ _ _ e => e
/-- a comprehension over range(n) -/
theorem rng_lc {cnd : WT} {elt : WE} {bind : Val → Env → Option Env} {env : Env} {h : Hep} {Q : VQ} {i : Int} {n : Nat} (e : i = n) (l : n < 1000000) (q : lcW cnd elt bind [] env Q ((List.range n).map fun j => Val.int (j : Nat)) [] h) :
    smI i ∧ Sm (rngV 0 i.toNat).length ∧ lcW cnd elt bind [] env Q (rngV 0 i.toNat) [] h := by
  subst e
  have e1 : rngV 0 ((n : Int)).toNat = (List.range n).map fun j => Val.int (j : Nat) := by
    rw [List.range_eq_range', show ((n : Int)).toNat = n from rfl]
    exact rngV_map n 0
  rw [e1]
  exact ⟨⟨by omega, by omega⟩, show (_ : Nat) < 1000000 by rw [List.length_map, List.length_range]; exact l, q⟩
theorem sum_set : ∀ (ws : List Int) (j : Nat) (x : Int) (hj : j < ws.length), (ws.set j x).sum = ws.sum - ws[j] + x
  | w :: ws, 0, x, _ => by simp only [List.set_cons_zero, List.sum_cons, List.getElem_cons_zero]; omega
  | w :: ws, j + 1, x, hj => by
    simp only [List.set_cons_succ, List.sum_cons, List.getElem_cons_succ]
    rw [sum_set ws j x (by simpa using hj)]
    omega
theorem sum_nn : ∀ {ws : List Int}, (∀ w ∈ ws, 0 ≤ w) → 0 ≤ ws.sum
  | [], _ => by simp
  | w :: ws, h => by
    rw [List.sum_cons]
    have := h w List.mem_cons_self
    have := sum_nn fun z hz => h z (List.mem_cons_of_mem _ hz)
    omega
theorem sum_mem_le : ∀ {ws : List Int} {w : Int}, (∀ w ∈ ws, 0 ≤ w) → w ∈ ws → w ≤ ws.sum
  | x :: ws, w, h, hw => by
    rw [List.sum_cons]
    have := h x List.mem_cons_self
    have q := sum_nn fun z hz => h z (List.mem_cons_of_mem _ hz)
    rcases List.mem_cons.mp hw with rfl | hw
    · omega
    · have := sum_mem_le (fun z hz => h z (List.mem_cons_of_mem _ hz)) hw; omega
theorem sum_le : ∀ {ws : List Int} {m : Int}, (∀ w ∈ ws, w ≤ m) → ws.sum ≤ m * ws.length
  | [], m, _ => by simp
  | w :: ws, m, h => by
    rw [List.sum_cons, List.length_cons, Int.natCast_add, Int.mul_add]
    have := h w List.mem_cons_self
    have := sum_le fun z hz => h z (List.mem_cons_of_mem _ hz)
    omega
section
variable {T : Str → Option Fc}
theorem lchances_ok (hT : DrawLib T) {k : Nat} {a : Addr} {h g : Hep} {b : Nat} {many : Nat} {n least : Int} {Q : VQ} {E : XQ} (en : n = many) (m0 : 0 < many) (m1 : many ≤ 8) (l0 : 0 ≤ least) (l1 : least ≤ 5) (st : St a h (b + 20) g)
    (q : ∀ xs v h' g', Sub h h' → St a h' b g' → Chan xs many → (0 < least → ∀ x ∈ xs, 0 < x) → Rd h' (rowL xs) v → Q v g') : Calls T (k + 3) "_law_chances" [.ref a, .int n, .int least] g Q E := by
  refine Calls_eq [some (.ref a), some (.int n), some (.int least), none, none, none] hT.ch rfl rfl ?_
  refine rng_lc en (by omega) ?_
  refine lc_st (pins := []) (h := h) (b := b + 1) (c := 2) (R := fun _ _ y => ∃ w, y = .int w ∧ least ≤ w ∧ w < least + 7) valP_mono (fun _ _ => trivial) (List.range many) [] (fun h' g' b' s sg x hx K kk => ?_) (Sub.refl h) (st.le (by rw [List.length_range]; omega)) rfl (fun ys h2 g2 s2 sg2 al => ?_)
  · refine St.newL sg fun p h1 g1 s1 _ sg1 hp np => ?_
    refine pickS hT.dw hT.pk (k := k) (b := b' + 1) (xs := ([1, 2, 4, 7] : List Int).map Val.int) sg1 hp (by decide) (by decide) fun i x g3 e st3 => ?_
    obtain ⟨w, rfl, hw⟩ := mem_small e
    have w1 : 1 ≤ w ∧ w ≤ 7 := by
      simp only [List.mem_cons, List.not_mem_nil, or_false] at hw
      omega
    refine drawS hT.dw (k := k + 1) (b := b') st3 (by omega) (by omega) fun d g4 st4 d0 d1 => ?_
    exact kk _ _ _ s1 st4 ⟨least + d, rfl, by omega, by omega⟩
  · obtain ⟨ws, rfl, lw, pw⟩ := allH_map al
    rw [List.nil_append, List.length_range] at lw
    have nn : ∀ w ∈ ws, 0 ≤ w := fun w hw => by have := (pw w hw).1; omega
    have nns := sum_nn nn
    have fin : ∀ (ws : List Int) (p : Addr) (h3 g3 : Hep), ws.length = many → (∀ w ∈ ws, 0 ≤ w ∧ w < 128) → 0 < ws.sum → ws.sum < 128 → (0 < least → ∀ w ∈ ws, 0 < w) → Sub h h3 → St a h3 b g3 → h3 p = some (.lst (ws.map Val.int)) →
        wSs (Calls T (k + 2)) (.cons (.ret (.lc (.call "_law_frac" (.cons (.var 5) (.cons (.bi .sum (.cons (.var 3) .nil)) .nil))) (.nm 5) (.seq (.var 3)) .nil [5])) .nil) [some (.ref a), some (.int n), some (.int least), some (.ref p), none, none] g3 { nx := fun _ h1 => Dr h1 (Q .non), rt := fun v h1 => Dr h1 (Q v), bk := fun _ _ => False, ct := fun _ _ => False } (fun x _ h1 => Dr h1 (E x)) := by
      intro ws p h3 g3 hl hw hs hs2 hpos s3 sg3 hp
      have hp3 := sg3.sub _ _ hp
      refine src_refI hp3 ?_
      refine ⟨show (ws.map Val.int).length < 1000000 by rw [List.length_map, hl]; omega, ?_⟩
      refine lc_map (g := fun w => fr (Rat.divInt w ws.sum)) ⟨hp3, trivial⟩ (fun w hw' K kk => ?_) ?_
      · refine onZ_in hp3 ?_
        have := hw w hw'
        exact lfrac_ok hT.fr (k := k + 1) (n := 7) (by omega) (by decide) (by decide) (by omega) (by omega) kk
      · refine St.newL sg3 fun p2 h4 g4 s4 _ sg4 hp4 np4 => ?_
        refine Dr.here (q (ws.map fun w => Rat.divInt w ws.sum) _ h4 g4 (s3.trans s4) sg4 (chan_of hl hw rfl hs hs2) (fun lp x hx => ?_) (rowL_in (by rw [hp4, List.map_map]; rfl)))
        obtain ⟨w, hw', rfl⟩ := List.mem_map.mp hx
        have := hpos lp w hw'
        rw [Rat.divInt_eq_div, Rat.div_def]
        exact Rat.mul_pos (Rat.intCast_pos.mpr this) (Rat.inv_pos.mpr (Rat.intCast_pos.mpr hs))
    refine St.newL sg2 fun p h3 g3 s3 sg23 sg3 hp np => ?_
    have hp3 := sg3.sub _ _ hp
    have npH : h p = none := none_of s2 np
    refine onZ_in hp3 ?_
    by_cases z : ws.sum = 0
    · refine ifT (decide_eq_true z) ?_
      refine drawS hT.dw (k := k + 1) (b := b) sg3 (by omega) (by omega) fun d g4 st4 d0 d1 => ?_
      have dl : d.toNat < ws.length := by omega
      have hp4 := st4.sub _ _ hp
      have ix : ixN (ws.map Val.int).length d = some d.toNat := by
        rw [List.length_map]
        unfold ixN
        rw [if_pos d0, if_pos (by omega)]
      have all0 : ∀ w ∈ ws, w = 0 := fun w hw => by have := sum_mem_le nn hw; have := nn w hw; omega
      have least0 : least = 0 := by
        have hm : ws[d.toNat] ∈ ws := List.getElem_mem dl
        have := pw _ hm
        have := all0 _ hm
        omega
      have es : (ws.set d.toNat 1).sum = 1 := by rw [sum_set ws _ _ dl, z, all0 _ (List.getElem_mem dl)]; omega
      have em : (ws.map Val.int).set d.toNat (.int 1) = (ws.set d.toNat 1).map Val.int := by rw [List.map_set]
      refine opSet_in hp4 ix em ?_
      have sg5 := st4.set (o := .lst ((ws.set d.toNat 1).map Val.int)) hp
      refine fin (ws.set d.toNat 1) p _ _ (by rw [List.length_set]; exact lw) (fun w hw => ?_) (by omega) (by omega) (fun lp => by omega) ((s2.trans s3).setNew npH) sg5 hset_same
      rcases List.mem_or_eq_of_mem_set hw with hw | rfl
      · rw [all0 w hw]; decide
      · decide
    · refine ifF (decide_eq_false z) ?_
      have up := sum_le (ws := ws) (m := 11) fun w hw => by have := pw w hw; omega
      refine fin ws p h3 g3 lw (fun w hw => ?_) (by omega) (by omega) (fun lp w hw => by have := pw w hw; omega) (s2.trans s3) (sg3.le (by omega)) hp
      have := pw w hw
      omega
end
end KM
/-! KPB: drawn looks, wishes, cases. -/
namespace KM
open PySem PySem.Spec PyProof.Rows L2
/-- a look, not too long -/
structure Looks (rows : List (List Rat)) (things signs : Nat) : Prop where
  len : rows.length = things
  ch : ∀ r ∈ rows, Chan r signs
structure Wishs (rows : List (List Rat)) (things deeds : Nat) : Prop where
  len : rows.length = deeds
  lens : ∀ r ∈ rows, r.length = things
  bd : ∀ r ∈ rows, ∀ x ∈ r, Bd 6 x
structure CaseLib (T : Str → Option Fc) : Prop extends DrawLib T where
  lk : T "_law_look" = some ⟨3, 5, c__law_look⟩
  wi : T "_law_wishes" = some ⟨3, 5, c__law_wishes⟩
  dn : T "_law_drawn" = some ⟨2, 3, c__law_drawn⟩
  sz : T "_law_w_sized" = some ⟨3, 3, c__law_w_sized⟩
section
variable {T : Str → Option Fc}
theorem llook_ok (hT : CaseLib T) {k : Nat} {a : Addr} {h g : Hep} {b : Nat} {things signs : Nat} {n m : Int} {Q : VQ} {E : XQ} (en : n = things) (em : m = signs) (t0 : 0 < things) (t1 : things ≤ 8) (s0 : 0 < signs) (s1 : signs ≤ 8) (st : St a h (b + 200) g)
    (q : ∀ rows v h' g', Sub h h' → St a h' b g' → Looks rows things signs → Rd h' (tabL rows) v → Q v g') : Calls T (k + 4) "_law_look" [.ref a, .int n, .int m] g Q E := by
  refine Calls_eq [some (.ref a), some (.int n), some (.int m), none, none] hT.lk rfl rfl ?_
  refine rng_lc en (by omega) ?_
  refine lc_st (pins := []) (h := h) (b := b + 2) (c := 20) (R := fun _ h y => ∃ w, Rd h (rowL w) y ∧ Chan w signs) rdP_mono (fun _ _ => trivial) (List.range things) [] (fun h' g' b' s sg x hx K kk => ?_) (Sub.refl h) (st.le (by rw [List.length_range]; omega)) rfl (fun ys h2 g2 s2 sg2 al => ?_)
  · refine lchances_ok hT.toDrawLib (k := k) em s0 s1 (by decide) (by decide) sg fun xs v h1 g1 s1 st1 ch _ rd => ?_
    exact kk v h1 g1 s1 st1 ⟨xs, rd, ch⟩
  · obtain ⟨rows, rds, lw, pw⟩ := allH_rd al
    rw [List.nil_append, List.length_range] at lw
    refine St.newL sg2 fun p h3 g3 s3 sg23 sg3 hp np => ?_
    have npH : h p = none := none_of s2 np
    have rds3 := rds.sub s3
    have fin : ∀ g4, St a h3 b g4 → Dr g4 (Q (.ref p)) := fun g4 st4 => Dr.here (q rows _ h3 g4 (s2.trans s3) st4 ⟨lw, pw⟩ ⟨p, ys, rfl, hp, rds3⟩)
    by_cases c : 1 < n
    · refine ifT (decide_eq_true c) ?_
      refine drawS hT.dw (k := k + 2) (b := b + 1) sg3 (by decide) (by decide) fun d g4 st4 d0 d1 => ?_
      by_cases dz : d = 0
      · refine ifT (decide_eq_true dz) ?_
        refine drawS hT.dw (k := k + 2) (b := b) st4 (by omega) (by omega) fun e g5 st5 e0 e1 => ?_
        obtain ⟨r, hr⟩ : ∃ r, rows[e.toNat]? = some r := ⟨_, List.getElem?_eq_getElem (by omega)⟩
        obtain ⟨v, ev, rv⟩ := rds_at (d := rowL r) rds3 (by rw [List.getElem?_map, hr]; rfl)
        obtain ⟨p1, rfl, hp1⟩ := rowL_out rv
        have hp5 := st5.sub _ _ hp
        have ly : ys.length = things := by have := rds.length; rw [List.length_map] at this; omega
        have at1 : atI ys e = some (.ref p1) := by
          obtain ⟨x, e2, e3⟩ := atI_nn (xs := ys) e0 (by omega)
          rw [e3] at ev
          cases ev
          exact e2
        refine opIx_list hp5 at1 ?_
        refine onJ_ref (st5.sub _ _ hp1) ?_
        refine St.newL st5 fun p2 h6 g6 s6 sg56 sg6 hp2 np2 => ?_
        have hp6 := s6 _ _ hp
        have ix : ixN ys.length 0 = some 0 := by
          unfold ixN
          rw [if_pos (by decide), if_pos (by omega)]; rfl
        refine opSet_in (sg6.sub _ _ hp6) ix rfl ?_
        have sg7 := sg6.set (o := .lst (ys.set 0 (.ref p2))) hp6
        have sb : Sub h2 (hset h6 p (.lst (ys.set 0 (.ref p2)))) := (s3.trans s6).setNew np
        have sh : Sub h (hset h6 p (.lst (ys.set 0 (.ref p2)))) := s2.trans sb
        have rd2 : Rd (hset h6 p (.lst (ys.set 0 (.ref p2)))) (rowL r) (.ref p2) := rowL_in (by
          have : p2 ≠ p := fun z => by rw [z, hp] at np2; cases np2
          rw [hset_ne this]; exact hp2)
        refine Dr.here (q (rows.set 0 r) _ _ _ sh sg7 ⟨by rw [List.length_set]; exact lw, fun x hx => ?_⟩ ⟨p, _, rfl, hset_same, ?_⟩)
        · rcases List.mem_or_eq_of_mem_set hx with hx | rfl
          · exact pw x hx
          · exact pw _ (List.mem_of_getElem? hr)
        · rw [List.map_set]
          exact rds_set (rds.sub sb) rd2
      · refine ifF (decide_eq_false dz) ?_
        exact fin _ (st4.le (by omega))
    · refine ifF (decide_eq_false c) ?_
      exact fin _ (sg3.le (by omega))
theorem den_le {a b : Int} (h : 0 < b) : (Rat.divInt a b).den ≤ b.natAbs := by
  rw [Rat.den_divInt, if_neg (by omega)]
  exact Nat.div_le_self _ _
theorem ldrawn_ok (hT : CaseLib T) {k : Nat} {a : Addr} {h g : Hep} {b : Nat} {Q : VQ} {E : XQ} (st : St a h (b + 2) g)
    (q : ∀ x h' g', Sub h h' → St a h' b g' → Bd 6 x → Q (fr x) g') : Calls T (k + 3) "_law_drawn" [.ref a, .int 3] g Q E := by
  refine Calls_eq [some (.ref a), some (.int 3), none] hT.dn rfl rfl ?_
  refine St.newL st fun p h1 g1 s1 _ st1 hp np => ?_
  refine pickS hT.dw hT.pk (k := k) (b := b + 1) (xs := ([1, 1, 1, 2, 3, 4, 5, 7] : List Int).map Val.int) st1 hp (by decide) (by decide) fun i x g2 e st2 => ?_
  obtain ⟨w, rfl, hw⟩ := mem_small e
  have w1 : 1 ≤ w ∧ w ≤ 7 := by
    simp only [List.mem_cons, List.not_mem_nil, or_false] at hw
    omega
  refine ⟨mul_ok (n := 64) (by decide) (by decide) (by decide) (by decide), mul_ok (n := 64) (by decide) (by decide) (by decide) (by omega), ?_⟩
  refine drawS hT.dw (k := k + 1) (b := b) st2 (by show 0 < 2 * 3 * w + 1; omega) (by show 2 * 3 * w + 1 < _; omega) fun d g3 st3 d0 d1 => ?_
  refine ⟨mul_ok (n := 64) (by decide) (by decide) (by decide) (by omega), ?_⟩
  have d1 : d < 2 * 3 * w + 1 := d1
  refine lfrac_ok hT.fr (k := k + 1) (n := 5) (by omega) (by decide) (by decide) (by omega) (by omega) ?_
  exact Dr.here (q _ _ _ s1 st3 (Bd.divInt (n := 5) (by omega) (by omega)))
theorem lwishes_ok (hT : CaseLib T) {k : Nat} {a : Addr} {h g : Hep} {b : Nat} {things deeds : Nat} {n m : Int} {Q : VQ} {E : XQ} (en : n = things) (em : m = deeds) (t1 : things ≤ 8) (s1 : deeds ≤ 8) (st : St a h (b + 128) g)
    (q : ∀ rows v h' g', Sub h h' → St a h' b g' → Wishs rows things deeds → Rd h' (tabL rows) v → Q v g') : Calls T (k + 4) "_law_wishes" [.ref a, .int n, .int m] g Q E := by
  refine Calls_eq [some (.ref a), some (.int n), some (.int m), none, none] hT.wi rfl rfl ?_
  refine rng_lc em (by omega) ?_
  refine lc_st (pins := []) (h := h) (b := b) (c := 16) (R := fun _ h y => ∃ w, Rd h (rowL w) y ∧ (w.length = things ∧ ∀ x ∈ w, Bd 6 x)) rdP_mono (fun _ _ => trivial) (List.range deeds) [] (fun h' g' b' s sg x hx K kk => ?_) (Sub.refl h) (st.le (by rw [List.length_range]; omega)) rfl (fun ys h2 g2 s2 sg2 al => ?_)
  · refine rng_lc en (by omega) ?_
    refine lc_st (pins := []) (h := h') (b := b') (c := 2) (R := fun _ _ y => ∃ w, y = fr w ∧ Bd 6 w) valP_mono (fun _ _ => trivial) (List.range things) [] (fun h1 g1 b1 s1 sg1 x1 hx1 K1 kk1 => ?_) (Sub.refl h') (sg.le (by rw [List.length_range]; omega)) rfl (fun ys1 h3 g3 s3 sg3 al3 => ?_)
    · exact ldrawn_ok hT (k := k) sg1 fun w h2 g2 s2 sg2 bw => kk1 _ _ _ s2 sg2 ⟨w, rfl, bw⟩
    · obtain ⟨ws, rfl, lw, pw⟩ := allH_map al3
      rw [List.nil_append, List.length_range] at lw
      exact St.newL sg3 fun p h4 g4 s4 _ sg4 hp np => kk _ h4 g4 (s3.trans s4) sg4 ⟨ws, rowL_in hp, lw, pw⟩
  · obtain ⟨rows, rds, lw, pw⟩ := allH_rd al
    rw [List.nil_append, List.length_range] at lw
    exact St.newL sg2 fun p h3 g3 s3 _ sg3 hp np => Dr.here (q rows _ h3 g3 (s2.trans s3) sg3 ⟨lw, fun r hr => (pw r hr).1, fun r hr => (pw r hr).2⟩ ⟨p, ys, rfl, hp, rds.sub s3⟩)
theorem lsized_ok (hT : CaseLib T) {k : Nat} {a : Addr} {h g : Hep} {b : Nat} {mt ms : Nat} {n m : Int} {Q : VQ} {E : XQ} (en : n = mt) (em : m = ms) (t0 : 0 < mt) (t1 : mt ≤ 8) (s0 : 0 < ms) (s1 : ms ≤ 8) (st : St a h (b + 202) g)
    (q : ∀ things signs rows v h' g', 0 < things → things ≤ mt → 0 < signs → signs ≤ ms → Sub h h' → St a h' b g' → Looks rows things signs → Rd h' (tabL rows) v → Q v g') : Calls T (k + 5) "_law_w_sized" [.ref a, .int n, .int m] g Q E := by
  refine Calls_eq [some (.ref a), some (.int n), some (.int m)] hT.sz rfl rfl ?_
  refine drawS hT.dw (k := k + 3) (b := b + 201) st (by omega) (by omega) fun d g1 st1 d0 d1 => ?_
  refine drawS hT.dw (k := k + 3) (b := b + 200) st1 (by omega) (by omega) fun e g2 st2 e0 e1 => ?_
  refine llook_ok hT (k := k) (things := (1 + d).toNat) (signs := (1 + e).toNat) (by omega) (by omega) (by omega) (by omega) (by omega) (by omega) st2 fun rows v h' g' s st' lk rd => ?_
  exact Dr.here (q (1 + d).toNat (1 + e).toNat rows v h' g' (by omega) (by omega) (by omega) (by omega) s st' lk rd)
theorem lcase_ok (hT : CaseLib T) (hcs : T "_law_w_case" = some ⟨4, 6, c__law_w_case⟩) {k : Nat} {a : Addr} {h g : Hep} {b : Nat} {mt ms md : Nat} {n m l : Int} {Q : VQ} {E : XQ} (en : n = mt) (em : m = ms) (el : l = md) (t0 : 0 < mt) (t1 : mt ≤ 8) (s0 : 0 < ms) (s1 : ms ≤ 8) (r0 : 0 < md) (r1 : md ≤ 8) (st : St a h (b + 400) g)
    (q : ∀ things signs deeds c w l v1 v2 v3 h' g', 0 < things → things ≤ mt → 0 < signs → signs ≤ ms → 0 < deeds → deeds ≤ md → Sub h h' → St a h' b g' → Chan c things → Wishs w things deeds → Looks l things signs → Rd h' (rowL c) v1 → Rd h' (tabL w) v2 → Rd h' (tabL l) v3 → Q (.tup [v1, v2, v3]) g') : Calls T (k + 6) "_law_w_case" [.ref a, .int n, .int m, .int l] g Q E := by
  refine Calls_eq [some (.ref a), some (.int n), some (.int m), some (.int l), none, none] hcs rfl rfl ?_
  refine lsized_ok hT (k := k) (b := b + 198) en em t0 t1 s0 s1 st fun things signs rows v h1 g1 t2 t3 s2 s3 sb1 st1 lk rd => ?_
  obtain ⟨p, vs, rfl, hp, rds⟩ := tabL_out rd
  have lv : vs.length = things := by have := rds.length; rw [List.length_map] at this; have := lk.len; omega
  refine onJ_ref (st1.sub _ _ hp) ?_
  rw [lv]
  refine lchances_ok hT.toDrawLib (k := k + 2) (b := b + 178) rfl t2 (by omega) (by decide) (by decide) st1 fun c v2 h2 g2 sb2 st2 ch _ rd2 => ?_
  refine drawS hT.dw (k := k + 4) (b := b + 177) st2 (by omega) (by omega) fun d g3 st3 d0 d1 => ?_
  refine lwishes_ok hT (k := k + 1) (b := b + 49) (deeds := (1 + d).toNat) rfl (by omega) (by omega) (by omega) st3 fun w v3 h4 g4 sb4 st4 wi rd4 => ?_
  exact Dr.here (q things signs (1 + d).toNat c w rows _ _ _ h4 g4 t2 t3 s2 s3 (by omega) (by omega) (sb1.trans (sb2.trans sb4)) (st4.le (by omega)) ch wi lk (rd2.sub sb4) rd4 ((rd.sub sb2).sub sb4))
end
end KM
/-! KPC: the law's own worths. -/
namespace KM
open PySem PySem.Spec PyProof.Rows L2
/-- so many rows of so many fractions, so long -/
structure Tab (n t s : Nat) (rows : List (List Rat)) : Prop where
  len : rows.length = t
  lens : ∀ r ∈ rows, r.length = s
  bd : ∀ r ∈ rows, ∀ x ∈ r, Bd n x
theorem Looks.tab {rows : List (List Rat)} {t s : Nat} (l : Looks rows t s) : Tab 8 t s rows := ⟨l.len, fun r h => (l.ch r h).len, fun r h => (l.ch r h).bd⟩
theorem Wishs.tab {rows : List (List Rat)} {t s : Nat} (l : Wishs rows t s) : Tab 6 s t rows := ⟨l.len, l.lens, l.bd⟩
theorem Tab.mono {n m t s : Nat} {rows : List (List Rat)} (l : Tab n t s rows) (h : n ≤ m) : Tab m t s rows := ⟨l.len, l.lens, fun r hr x hx => (l.bd r hr x hx).mono h⟩
theorem Tab.cols {n t s : Nat} {rows : List (List Rat)} (l : Tab n t s rows) : Tab n s t (colsR s rows) where
  len := by unfold colsR; rw [List.length_map, List.length_range]
  lens := fun col hc => by
    obtain ⟨i, hi, rfl⟩ := List.mem_map.mp hc
    unfold colR
    rw [List.length_map, l.len]
  bd := fun col hc y hy => by
    obtain ⟨i, hi, rfl⟩ := List.mem_map.mp hc
    obtain ⟨x, hx, rfl⟩ := List.mem_map.mp hy
    have li : i < x.length := by rw [l.lens x hx]; exact List.mem_range.mp hi
    rw [List.getD_eq_getElem?_getD, List.getElem?_eq_getElem li]
    exact l.bd x hx _ (List.getElem_mem li)
/-- the first row -/
theorem tab_head {h : Hep} {v : Val} {rows : List (List Rat)} {n t s : Nat} (l : Tab n t s rows) (t0 : 0 < t) (rd : Rd h (tabL rows) v) : ∃ p vs p0 xs, v = .ref p ∧ h p = some (.lst vs) ∧ atI vs 0 = some (.ref p0) ∧ h p0 = some (.lst xs) ∧ xs.length = s ∧ Rds h (rows.map rowL) vs := by
  obtain ⟨p, vs, rfl, hp, rds⟩ := tabL_out rd
  cases rows with
  | nil => have := l.len; rw [List.length_nil] at this; omega
  | cons r rs =>
    obtain ⟨v0, r0, e, q, rest⟩ := id rds
    obtain ⟨p0, rfl, hp0⟩ := rowL_out q
    exact ⟨p, vs, p0, _, rfl, hp, by rw [e]; exact atI_nat (j := 0) rfl, hp0, by rw [List.length_map]; exact l.lens r List.mem_cons_self, rds⟩
theorem zip_tab {h : Hep} {i : Nat} : ∀ {c : List Rat} {rows : List (List Rat)} {vs : List Val}, Rds h (rows.map rowL) vs →
    All2 (fun v y => ∃ x ∈ c, ∃ r ∈ rows, ∃ p, v = .tup [fr x, .ref p] ∧ h p = some (.lst (r.map fr)) ∧ y = fr (x * r.getD i 0)) (zipV (c.map fr) vs) ((mulR c (colR rows i)).map fr) := by
  have key : ∀ {c c' : List Rat} {rows rows' : List (List Rat)} {vs : List Val}, (∀ x ∈ c, x ∈ c') → (∀ x ∈ rows, x ∈ rows') → Rds h (rows.map rowL) vs →
      All2 (fun v y => ∃ x ∈ c', ∃ r ∈ rows', ∃ p, v = .tup [fr x, .ref p] ∧ h p = some (.lst (r.map fr)) ∧ y = fr (x * r.getD i 0)) (zipV (c.map fr) vs) ((mulR c (colR rows i)).map fr) := by
    intro c
    induction c with
    | nil => intro c' rows rows' vs _ _ _; exact .nil
    | cons x c ih =>
      intro c' rows rows' vs hc hr rd
      cases rows with
      | nil =>
        have e : vs = [] := rd
        subst e
        exact .nil
      | cons r rows =>
        obtain ⟨v, vs', e, q, rest⟩ := rd
        subst e
        obtain ⟨p, rfl, hp⟩ := rowL_out q
        exact .cons ⟨x, hc x List.mem_cons_self, r, hr r List.mem_cons_self, p, rfl, hp, rfl⟩ (ih (fun z hz => hc z (List.mem_cons_of_mem _ hz)) (fun z hz => hr z (List.mem_cons_of_mem _ hz)) rest)
  intro c rows vs rd
  exact key (fun _ h => h) (fun _ h => h) rd
theorem zipV_le : ∀ (xs ys : List Val), (zipV xs ys).length ≤ xs.length
  | [], ys => by simp [zipV]
  | _ :: _, [] => by simp [zipV]
  | _ :: xs, _ :: ys => by simp only [zipV, List.length_cons]; have := zipV_le xs ys; omega
def fullR (n : Nat) : List (List Rat) := (List.range n).map fun t => (List.range n).map fun s => if s = t then 1 else 0
structure LWorthLib (T : Str → Option Fc) : Prop extends LSumLib T where
  un : T "_law_under" = some ⟨2, 2, c__law_under⟩
  gr : T "_law_greatest" = some ⟨1, 3, c__law_greatest⟩
  dt : T "_law_dot" = some ⟨2, 4, c__law_dot⟩
  we : T "_law_weights" = some ⟨3, 5, c__law_weights⟩
  be : T "_law_best" = some ⟨2, 3, c__law_best⟩
  wo : T "_law_worth" = some ⟨3, 4, c__law_worth⟩
  fu : T "_law_w_full" = some ⟨1, 3, c__law_w_full⟩
  ah : T "_law_w_ahead" = some ⟨2, 3, c__law_w_ahead⟩
section
variable {T : Str → Option Fc}
theorem lgreatest_ok (hT : LWorthLib T) {k n : Nat} {p : Addr} {xs : List Rat} {h : Hep} {Q : VQ} {E : XQ} (hp : h p = some (.lst (xs.map fr))) (ne : xs ≠ []) (h0 : 0 < n) (hn : n ≤ 4000) (hx : ∀ x ∈ xs, Bd n x) (q : Q (fr (maxR xs)) h) : Calls T (k + 2) "_law_greatest" [.ref p] h Q E := by
  refine Calls_eq [some (.ref p), none, none] hT.gr rfl rfl ?_
  cases xs with
  | nil => exact (ne rfl).elim
  | cons x xs =>
    refine opIx_list hp (v := fr x) (atI_nat (j := 0) rfl) ?_
    refine onL_in hp ?_
    rw [List.map_cons, cut_tail]
    refine newL_in fun p1 np => ?_
    have sb := (Sub.refl h).new (o := .lst (xs.map fr)) np
    refine src_refI hset_same ?_
    refine lgreat_for hT.un (pins := [(p1, xs.map fr)]) ⟨hset_same, trivial⟩ h0 hn xs x (fun y hy => hx y (List.mem_cons_of_mem _ hy)) (hx x List.mem_cons_self) fun z => ?_
    have e : maxR (x :: xs) = topR x xs := by
      show topR x (x :: xs) = _
      rw [topR]
      split <;> rfl
    rw [e] at q
    exact ⟨h, sb, q⟩
theorem lweights_ok (hT : LWorthLib T) {k n m t s i : Nat} {v w : Val} {c : List Rat} {rows : List (List Rat)} {j : Int} {h : Hep} {Q : VQ} {E : XQ} (ej : j = i) (hi : i < s) (ic : Its h v (c.map fr)) (rd : Rd h (tabL rows) w) (l : Tab m t s rows) (bc : ∀ x ∈ c, Bd n x) (h0 : 0 < n) (h1 : 0 < m) (hn : n + m ≤ 1000) (hl : c.length < 1000000)
    (q : newL h ((mulR c (colR rows i)).map fr) Q) : Calls T (k + 3) "_law_weights" [v, w, .int j] h Q E := by
  refine Calls_eq [some v, some w, some (.int j), none, none] hT.we rfl rfl ?_
  obtain ⟨p, vs, rfl, hp, rds⟩ := tabL_out rd
  refine src_its ic fun pins hpins => ?_
  refine src_refI hp ?_
  refine ⟨show (zipV (c.map fr) vs).length < 1000000 by have := zipV_le (c.map fr) vs; rw [List.length_map] at this; omega, ?_⟩
  refine lc_rel0 (pinOk_both (hpins h (Sub.refl h)) ⟨hp, trivial⟩) (fun v y ⟨x, hx, r, hr, p1, e1, hp1, e2⟩ K kk => ?_) (zip_tab (i := i) rds) (newL_dr (Sub.refl h) q)
  subst e1 e2 ej
  have li : i < r.length := by rw [l.lens r hr]; exact hi
  have eg : r.getD i 0 = r[i] := by rw [List.getD_eq_getElem?_getD, List.getElem?_eq_getElem li]; rfl
  rw [eg] at kk
  refine opIx_list hp1 (v := fr r[i]) (atI_nat (by rw [List.getElem?_map, List.getElem?_eq_getElem li]; rfl)) ?_
  exact ltimes_ok hT.fr hT.ti (k := k) (n := n + m) (by omega) (by omega) ((bc x hx).mono (by omega)) ((l.bd r hr _ (List.getElem_mem li)).mono (by omega)) kk
/-- what the deeds bring, as a list -/
theorem ldeeds_lc (hT : LWorthLib T) {k n m t s : Nat} {e0 e1 : Option Val} {v : Val} {w : Val} {c : List Rat} {rows : List (List Rat)} {h : Hep} {Q : VQ} (ic : Its h v (c.map fr)) (rd : Rd h (tabL rows) w) (l : Tab m t s rows) (bc : ∀ x ∈ c, Bd n x) (h0 : 0 < n) (h1 : 0 < m) (hn : n + m + 1 ≤ 1000) (hl : 1 + (n + m + 3) * c.length ≤ 3900) (ht : t < 1000000) (q : newL h ((deedR rows c).map fr) Q)
    : onSrc h w fun src => Sm src.vals.length ∧ lcW (wCs (Calls T (k + 4)) .nil) (wE (Calls T (k + 4)) (.call "_law_dot" (.cons (.var 0) (.cons (.var 2) .nil)))) (bindT (.nm 2)) src.pins [some v, e1, none] Q src.vals [] h := by
  obtain ⟨p, vs, rfl, hp, rds⟩ := tabL_out rd
  refine src_refI hp ?_
  refine ⟨show vs.length < 1000000 by have := rds.length; rw [List.length_map, l.len] at this; omega, ?_⟩
  refine lc_rel0 (P := fun v y => ∃ r ∈ rows, Rd h (rowL r) v ∧ y = fr (dotR c r)) ⟨hp, trivial⟩ (fun v1 y ⟨r, hr, r1, e2⟩ K kk => ?_) (ys := rows.map fun r => fr (dotR c r)) ?_ ?_
  · subst e2
    exact ldot_ok hT.toLSumLib hT.dt (k := k) ic (rowL_its r1) h0 h1 bc (l.bd r hr) hl hn kk
  · clear q hl ht
    have key : ∀ {rs : List (List Rat)} {vs : List Val}, (∀ r ∈ rs, r ∈ rows) → Rds h (rs.map rowL) vs → All2 (fun v y => ∃ r ∈ rows, Rd h (rowL r) v ∧ y = fr (dotR c r)) vs (rs.map fun r => fr (dotR c r)) := by
      intro rs
      induction rs with
      | nil => intro vs _ e; rw [show vs = [] from e]; exact .nil
      | cons r rs ih =>
        intro vs hm ⟨v1, vs1, e, a, b⟩
        subst e
        exact .cons ⟨r, hm r List.mem_cons_self, a, rfl⟩ (ih (fun z hz => hm z (List.mem_cons_of_mem _ hz)) b)
    exact key (fun _ h => h) rds
  · unfold deedR at q
    rw [List.map_map] at q
    exact q
theorem deedR_bd {n m t s l : Nat} {c : List Rat} {rows : List (List Rat)} (bc : ∀ x ∈ c, Bd n x) (lt : Tab m t s rows) (hl : c.length ≤ l) : ∀ x ∈ deedR rows c, Bd (1 + (n + m + 3) * l) x := by
  intro x hx
  obtain ⟨w, hw, rfl⟩ := List.mem_map.mp hx
  exact dotR_bd bc (lt.bd w hw) hl
theorem lbest_ok (hT : LWorthLib T) {k n m t s : Nat} {v w : Val} {c : List Rat} {rows : List (List Rat)} {h : Hep} {Q : VQ} {E : XQ} (ic : Its h v (c.map fr)) (rd : Rd h (tabL rows) w) (l : Tab m t s rows) (bc : ∀ x ∈ c, Bd n x) (h0 : 0 < n) (h1 : 0 < m) (hn : n + m + 1 ≤ 1000) (hl : 1 + (n + m + 3) * c.length ≤ 3900) (t0 : 0 < t) (ht : t < 1000000) (q : Q (fr (maxR (deedR rows c))) h) : Calls T (k + 5) "_law_best" [v, w] h Q E := by
  refine Calls_eq [some v, some w, none] hT.be rfl rfl ?_
  refine ldeeds_lc hT (k := k) (e0 := none) ic rd l bc h0 h1 hn hl ht ?_
  refine newL_in fun p np => ?_
  refine lgreatest_ok hT (k := k + 2) (n := 1 + (n + m + 3) * c.length) hset_same (fun e => ?_) (by omega) (by omega) (deedR_bd bc l (Nat.le_refl _)) ?_
  · have := l.len
    rw [List.map_eq_nil_iff.mp e, List.length_nil] at this
    omega
  · exact ⟨h, (Sub.refl h).new np, q⟩
theorem lahead_ok (hT : LWorthLib T) {k n m t s : Nat} {v w : Val} {c : List Rat} {rows : List (List Rat)} {h : Hep} {Q : VQ} {E : XQ} (ic : Its h v (c.map fr)) (rd : Rd h (tabL rows) w) (l : Tab m t s rows) (bc : ∀ x ∈ c, Bd n x) (h0 : 0 < n) (h1 : 0 < m) (hn : n + m + 1 ≤ 1000) (hl : 1 + (n + m + 3) * c.length ≤ 3900) (t0 : 0 < t) (ht : t < 1000000) (q : Q (fr (maxR (deedR rows c))) h) : Calls T (k + 5) "_law_w_ahead" [v, w] h Q E := by
  refine Calls_eq [some v, some w, none] hT.ah rfl rfl ?_
  refine ldeeds_lc hT (k := k) (e0 := none) ic rd l bc h0 h1 hn hl ht ?_
  refine newL_in fun p np => ?_
  refine lgreatest_ok hT (k := k + 2) (n := 1 + (n + m + 3) * c.length) hset_same (fun e => ?_) (by omega) (by omega) (deedR_bd bc l (Nat.le_refl _)) ?_
  · have := l.len
    rw [List.map_eq_nil_iff.mp e, List.length_nil] at this
    omega
  · exact ⟨h, (Sub.refl h).new np, q⟩
theorem mulR_len (xs ys : List Rat) : (mulR xs ys).length ≤ xs.length := by unfold mulR; rw [List.length_zipWith]; omega
/-- the law's worth behind a look -/
theorem lworth_ok (hT : LWorthLib T) {k t s d : Nat} {v1 v2 v3 : Val} {c : List Rat} {wish look : List (List Rat)} {h : Hep} {Q : VQ} {E : XQ} (ic : Its h v1 (c.map fr)) (rw' : Rd h (tabL wish) v2) (rl : Rd h (tabL look) v3) (lc : c.length = t) (bc : ∀ x ∈ c, Bd 8 x) (lw : Tab 6 d t wish) (ll : Tab 8 t s look) (t0 : 0 < t) (t1 : t ≤ 8) (s1 : s ≤ 8) (d0 : 0 < d) (d1 : d ≤ 8)
    (q : Q (fr (worthR c wish look s)) h) : Calls T (k + 6) "_law_worth" [v1, v2, v3] h Q E := by
  refine Calls_eq [some v1, some v2, some v3, none] hT.wo rfl rfl ?_
  obtain ⟨p, vs, p0, xs, rfl, hp, hat, hp0, lx, rds⟩ := tab_head ll t0 rl
  refine opIx_list hp hat ?_
  refine onJ_ref hp0 ?_
  refine rng_lc (by rw [lx]) (by omega) ?_
  refine lc_mapU (pins := []) (g := fun i => fr (maxR (deedR wish (mulR c (colR look i))))) (fun _ _ => trivial) (fun h' s' i hi K kk => ?_) (fun h2 s2 => ?_)
  · have hi' := List.mem_range.mp hi
    refine lweights_ok hT (k := k + 2) (n := 8) (m := 8) rfl hi' (ic.sub s') (rl.sub s') ll bc (by decide) (by decide) (by decide) (by omega) ?_
    refine newL_in fun p1 np1 => ?_
    have sp := (Sub.refl h').new (o := .lst ((mulR c (colR look i)).map fr)) np1
    have ml := mulR_len c (colR look i)
    have bcol : ∀ y ∈ colR look i, Bd 8 y := ll.cols.bd _ (List.mem_map.mpr ⟨i, hi, rfl⟩)
    refine lbest_ok hT (k := k) (n := 17) (m := 6) (c := mulR c (colR look i)) (.inr ⟨p1, rfl, hset_same⟩) ((rw'.sub s').sub sp) lw (mulR_bd bc bcol) (by decide) (by decide) (by decide) (by omega) d0 (by omega) ?_
    exact kk _ sp
  · refine newL_in fun p3 np3 => ?_
    have e3 : ((List.range s).map fun i => fr (maxR (deedR wish (mulR c (colR look i))))) = (((colsR s look).map fun col => maxR (deedR wish (mulR c col)))).map fr := by unfold colsR; rw [List.map_map, List.map_map]; rfl
    rw [e3]
    refine ltotal_ok hT.toLSumLib (k := k + 2) (n := 209) (.inr ⟨p3, rfl, hset_same⟩) (by decide) (fun x hx => ?_) ?_ (by decide) ?_
    · obtain ⟨col, hc, rfl⟩ := List.mem_map.mp hx
      refine maxR_bd (by decide) fun x hx => ?_
      exact deedR_bd (l := 8) (mulR_bd bc (ll.cols.bd col hc)) lw (by have := mulR_len c col; omega) x hx
    · rw [List.length_map, ll.cols.len]; omega
    · exact ⟨h, s2.trans ((Sub.refl h2).new np3), q⟩
theorem full_tab (n : Nat) : Tab 8 n n (fullR n) where
  len := by unfold fullR; rw [List.length_map, List.length_range]
  lens := fun r hr => by
    obtain ⟨i, _, rfl⟩ := List.mem_map.mp hr
    rw [List.length_map, List.length_range]
  bd := fun r hr x hx => by
    obtain ⟨i, _, rfl⟩ := List.mem_map.mp hr
    obtain ⟨j, _, rfl⟩ := List.mem_map.mp hx
    split
    · exact ⟨by decide, by decide⟩
    · exact ⟨by decide, by decide⟩
theorem full_lc {C : CalT} {n : Nat} {e0 : Option Val} {j : Nat} {h : Hep} {Q : VQ} (q : newL h (((List.range n).map fun s => if s = j then (1 : Rat) else 0).map fr) Q) :
    lcW (wCs C .nil) (wE C (.ife (.cmp .Eq (.var 2) (.var 1)) (.tup (.cons (.int 1) (.cons (.int 1) .nil))) (.tup (.cons (.int 0) (.cons (.int 1) .nil))))) (bindT (.nm 2)) [] [e0, some (.int j), none] Q ((List.range n).map fun j => Val.int (j : Nat)) [] h := by
  refine lc_map (g := fun s : Nat => fr (if s = j then 1 else 0)) trivial (fun s hs K kk => ?_) (by rw [List.map_map] at q; exact q)
  by_cases e : s = j
  · rw [if_pos e] at kk
    exact ifT (decide_eq_true (by rw [e])) kk
  · rw [if_neg e] at kk
    exact ifF (decide_eq_false (by omega)) kk
theorem lfull_ok (hT : LWorthLib T) {k n : Nat} {i : Int} {h : Hep} {Q : VQ} {E : XQ} (ei : i = n) (hn : n < 1000000) (q : ∀ v h', Sub h h' → Rd h' (tabL (fullR n)) v → Q v h') : Calls T (k + 1) "_law_w_full" [.int i] h Q E := by
  refine Calls_eq [some (.int i), none, none] hT.fu rfl rfl ?_
  refine rng_lc ei hn ?_
  refine lc_gr (pins := []) (h := h) (R := fun j h y => Rd h (rowL ((List.range n).map fun s => if s = j then (1 : Rat) else 0)) y) (fun _ _ _ _ s r => r.sub s) (fun _ _ => trivial) (List.range n) [] (fun h' s' j hj K kk => ?_) (Sub.refl h) rfl (fun ys h2 s2 al => ?_)
  · refine rng_lc ei hn ?_
    refine full_lc ?_
    refine newL_in fun p np => ?_
    exact kk _ _ ((Sub.refl h').new np) (rowL_in hset_same)
  · refine newL_in fun p np => ?_
    have sp := (Sub.refl h2).new (o := .lst ys) np
    refine Dr.here (q _ _ (s2.trans sp) ⟨p, ys, rfl, hset_same, ?_⟩)
    have key : ∀ {js : List Nat} {ys : List Val} {h : Hep}, AllH (fun j h y => Rd h (rowL ((List.range n).map fun s => if s = j then (1 : Rat) else 0)) y) h js ys → Rds h (((js.map fun t => (List.range n).map fun s => if s = t then (1 : Rat) else 0)).map rowL) ys := by
      intro js
      induction js with
      | nil => intro ys h e; exact e
      | cons j js ih =>
        intro ys h ⟨y, r, e, a, b⟩
        exact ⟨y, r, e, a, ih b⟩
    exact (key al).sub sp
end
end KM
/-! KPD: what deeds bring at signs; copies; data up to tuples. -/
namespace KM
open PySem PySem.Spec PyProof.Rows L2
def atR (c : List Rat) (wish look : List (List Rat)) (s : Nat) : List (List Rat) := (colsR s look).map fun col => deedR wish (mulR c col)
section
variable {T : Str → Option Fc}
/-- rows walked, numbers made -/
theorem all2_rows {h : Hep} {g : List Rat → Val} {rows : List (List Rat)} {vs : List Val} (rds : Rds h (rows.map rowL) vs) : All2 (fun v y => ∃ r ∈ rows, Rd h (rowL r) v ∧ y = g r) vs (rows.map g) := by
  have key : ∀ {rs : List (List Rat)} {vs : List Val}, (∀ r ∈ rs, r ∈ rows) → Rds h (rs.map rowL) vs → All2 (fun v y => ∃ r ∈ rows, Rd h (rowL r) v ∧ y = g r) vs (rs.map g) := by
    intro rs
    induction rs with
    | nil => intro vs _ e; rw [show vs = [] from e]; exact .nil
    | cons r rs ih =>
      intro vs hm ⟨v1, vs1, e, a, b⟩
      subst e
      exact .cons ⟨r, hm r List.mem_cons_self, a, rfl⟩ (ih (fun z hz => hm z (List.mem_cons_of_mem _ hz)) b)
  exact key (fun _ h => h) rds
theorem lat_ok (hT : LWorthLib T) (hat : T "_law_w_at_signs" = some ⟨3, 5, c__law_w_at_signs⟩) {k t s d : Nat} {v1 v2 v3 : Val} {c : List Rat} {wish look : List (List Rat)} {h : Hep} {Q : VQ} {E : XQ} (ic : Its h v1 (c.map fr)) (rw' : Rd h (tabL wish) v2) (rl : Rd h (tabL look) v3) (lc : c.length = t) (bc : ∀ x ∈ c, Bd 8 x) (lw : Tab 6 d t wish) (ll : Tab 8 t s look) (t0 : 0 < t) (t1 : t ≤ 8) (s1 : s ≤ 8) (d1 : d ≤ 8)
    (q : ∀ v h', Sub h h' → Rd h' (tabL (atR c wish look s)) v → Q v h') : Calls T (k + 5) "_law_w_at_signs" [v1, v2, v3] h Q E := by
  refine Calls_eq [some v1, some v2, some v3, none, none] hat rfl rfl ?_
  obtain ⟨p, vs, p0, xs, rfl, hp, hat, hp0, lx, rds⟩ := tab_head ll t0 rl
  refine opIx_list hp hat ?_
  refine onJ_ref hp0 ?_
  refine rng_lc (by rw [lx]) (by omega) ?_
  refine lc_gr (pins := []) (h := h) (R := fun i h y => Rd h (rowL (deedR wish (mulR c (colR look i)))) y) (fun _ _ _ _ s r => r.sub s) (fun _ _ => trivial) (List.range s) [] (fun h' s' i hi K kk => ?_) (Sub.refl h) rfl (fun ys h2 s2 al => ?_)
  · have hi' := List.mem_range.mp hi
    obtain ⟨pw, ws, rfl, hpw, rdw⟩ := tabL_out (rw'.sub s')
    refine src_refI hpw ?_
    refine ⟨show ws.length < 1000000 by have := rdw.length; rw [List.length_map, lw.len] at this; omega, ?_⟩
    refine lc_up (pins := [(pw, ws)]) (P := fun v y => ∃ r ∈ wish, Rd h' (rowL r) v ∧ y = fr (dotR (mulR c (colR look i)) r)) (fun h2 s2 => ⟨s2 _ _ hpw, trivial⟩) (fun h2 s2 v y ⟨r, hr, r1, e1⟩ K1 kk1 => ?_) (Sub.refl h') (all2_rows rdw) (fun h2 s2 => ?_)
    · subst e1
      refine lweights_ok hT (k := k + 1) (n := 8) (m := 8) rfl hi' ((ic.sub s').sub s2) ((rl.sub s').sub s2) ll bc (by decide) (by decide) (by decide) (by omega) ?_
      refine newL_in fun p1 np1 => ?_
      have sp := (Sub.refl h2).new (o := .lst ((mulR c (colR look i)).map fr)) np1
      have ml := mulR_len c (colR look i)
      have bcol : ∀ y ∈ colR look i, Bd 8 y := ll.cols.bd _ (List.mem_map.mpr ⟨i, hi, rfl⟩)
      refine ldot_ok hT.toLSumLib hT.dt (k := k) (n := 17) (m := 6) (xs := mulR c (colR look i)) (ys := r) (.inr ⟨p1, rfl, hset_same⟩) (rowL_its ((r1.sub s2).sub sp)) (by decide) (by decide) (mulR_bd bc bcol) (lw.bd r hr) (by omega) (by decide) ?_
      exact kk1 _ sp
    · refine newL_in fun p1 np1 => ?_
      refine kk _ _ (s2.trans ((Sub.refl h2).new np1)) (rowL_in ?_)
      rw [hset_same]
      unfold deedR
      rw [List.map_map]
      rfl
  · refine newL_in fun p1 np1 => ?_
    have sp := (Sub.refl h2).new (o := .lst ys) np1
    refine Dr.here (q _ _ (s2.trans sp) ⟨p1, ys, rfl, hset_same, ?_⟩)
    have key : ∀ {js : List Nat} {ys : List Val} {h : Hep}, AllH (fun i h y => Rd h (rowL (deedR wish (mulR c (colR look i)))) y) h js ys → Rds h (((js.map (colR look)).map fun col => deedR wish (mulR c col)).map rowL) ys := by
      intro js
      induction js with
      | nil => intro ys h e; exact e
      | cons j js ih =>
        intro ys h ⟨y, r, e, a, b⟩
        exact ⟨y, r, e, a, ih b⟩
    exact (key al).sub sp
/-! ### copies -/
theorem D.nds_mem : ∀ {ds : List D} {d : D}, D.nds ds = true → d ∈ ds → d.nd = true
  | x :: ds, d, h, hd => by
    simp only [D.nds, Bool.and_eq_true] at h
    rcases List.mem_cons.mp hd with rfl | hd
    · exact h.1
    · exact D.nds_mem h.2 hd
theorem copy_lc {C : CalT} {ps : List (Addr × List Val)} {v : Val} {e1 e2 : Option Val} : ∀ (ds : List D) {vs : List Val} {acc : List Val} {h : Hep} {Q : VQ}, Rds h ds vs → pinOk h ps →
    (∀ d ∈ ds, ∀ (v : Val) (h : Hep) (Q : VQ) (E : XQ), Rd h d v → (∀ v' h', Sub h h' → Rd h' d v' → Q v' h') → C "_law_copied" [v] h Q E) →
    (∀ (vs' : List Val) (h' : Hep), Sub h h' → Rds h' ds vs' → newL h' (acc ++ vs') Q) →
    lcW (wCs C .nil) (wE C (.call "_law_copied" (.cons (.var 3) .nil))) (bindT (.nm 3)) ps [some v, e1, e2, none] Q vs acc h
  | [], vs, acc, h, Q, rd, pn, ih, q => by
    have e : vs = [] := rd
    subst e
    refine ⟨pn, ?_⟩
    have z := q [] h (Sub.refl h) Rds.nil
    rw [List.append_nil] at z
    exact z
  | d :: ds, vs, acc, h, Q, ⟨v1, vs1, e, r1, r2⟩, pn, ih, q => by
    subst e
    refine ⟨pn, ?_⟩
    show C "_law_copied" [v1] h _ _
    refine ih d List.mem_cons_self v1 h _ _ r1 fun v' h' s rd' => ?_
    refine copy_lc ds (h := h') (r2.sub s) (pinOk_sub s pn) (fun d hd => ih d (List.mem_cons_of_mem _ hd)) fun vs' h2 s2 rds2 => ?_
    have z := q (v' :: vs') h2 (s.trans s2) (Rds.cons (rd'.sub s2) rds2)
    rw [List.append_assoc]
    exact z
theorem lcopied_ok (hT : T "_law_copied" = some ⟨1, 4, c__law_copied⟩) : ∀ (n : Nat) (d : D) (v : Val) (h : Hep) (Q : VQ) (E : XQ), d.dep < n → d.wid < 1000000 → d.nd = true → Rd h d v → (∀ v' h', Sub h h' → Rd h' d v' → Q v' h') → Calls T n "_law_copied" [v] h Q E := by
  intro n
  induction n with
  | zero => intro d v h Q E hn; exact absurd hn (Nat.not_lt_zero _)
  | succ n ih =>
    intro d v h Q E hn hw nd rd q
    refine Calls_eq [some v, none, none, none] hT rfl rfl ?_
    cases d with
    | lst ds =>
      refine isi_F rd rfl rfl ?_
      refine isi_tup rd (b := true) rfl ?_
      obtain ⟨a, xs, rfl, ha, r1⟩ := id rd
      have hn' : D.deps ds + 1 < n + 1 := hn
      have hw' : max ds.length (D.wids ds) < 1000000 := hw
      refine src_refI ha ?_
      refine ⟨show xs.length < 1000000 by rw [r1.length]; omega, ?_⟩
      refine copy_lc ds r1 ⟨ha, trivial⟩ (fun d hd v h Q E rd q => ih d v h Q E (by have := D.deps_mem hd; omega) (by have := D.wids_mem hd; omega) (D.nds_mem nd hd) rd q) fun vs' h' s rds' => ?_
      refine newL_in fun p np => ?_
      have sp := (Sub.refl h').new (o := .lst ([] ++ vs')) np
      refine isi_F (rd.sub (s.trans sp)) rfl rfl ?_
      exact Dr.here (q _ _ (s.trans sp) ⟨p, vs', rfl, hset_same, rds'.sub sp⟩)
    | tup ds =>
      refine isi_F rd rfl rfl ?_
      refine isi_tup rd (b := true) rfl ?_
      obtain ⟨xs, rfl, r1⟩ := id rd
      have hn' : D.deps ds + 1 < n + 1 := hn
      have hw' : max ds.length (D.wids ds) < 1000000 := hw
      refine src_tupI ?_
      refine ⟨show xs.length < 1000000 by rw [r1.length]; omega, ?_⟩
      refine copy_lc ds r1 trivial (fun d hd v h Q E rd q => ih d v h Q E (by have := D.deps_mem hd; omega) (by have := D.wids_mem hd; omega) (D.nds_mem nd hd) rd q) fun vs' h' s rds' => ?_
      refine newL_in fun p np => ?_
      have sp := (Sub.refl h').new (o := .lst ([] ++ vs')) np
      refine isi_T (rd.sub (s.trans sp)) rfl rfl ?_
      refine onJ_ref hset_same ?_
      exact Dr.here (q _ _ (s.trans sp) ⟨vs', rfl, rds'.sub sp⟩)
    | dct => cases nd
    | _ =>
      refine isi_F rd rfl rfl ?_
      refine isi_tup rd (b := false) rfl ?_
      refine isi_F rd rfl rfl ?_
      exact Dr.here (q v h (Sub.refl h) rd)
end
/-! ### up to tuples -/
mutual
theorem D.wid_tp : ∀ d : D, d.tp.wid = d.wid
  | .lst ds => by simp only [D.tp, D.wid, D.wids_tp ds, D.len_tps ds]
  | .tup ds => by simp only [D.tp, D.wid, D.wids_tp ds, D.len_tps ds]
  | .non => rfl
  | .bl _ => rfl
  | .int _ => rfl
  | .str _ => rfl
  | .dct => rfl
theorem D.wids_tp : ∀ ds : List D, D.wids (D.tps ds) = D.wids ds
  | [] => rfl
  | d :: ds => by simp only [D.tps, D.wids, D.wid_tp d, D.wids_tp ds]
theorem D.len_tps : ∀ ds : List D, (D.tps ds).length = ds.length
  | [] => rfl
  | d :: ds => by simp only [D.tps, List.length_cons, D.len_tps ds]
end
mutual
theorem D.dep_tp : ∀ d : D, d.tp.dep = d.dep
  | .lst ds => by simp only [D.tp, D.dep, D.deps_tp ds]
  | .tup ds => by simp only [D.tp, D.dep, D.deps_tp ds]
  | .non => rfl
  | .bl _ => rfl
  | .int _ => rfl
  | .str _ => rfl
  | .dct => rfl
theorem D.deps_tp : ∀ ds : List D, D.deps (D.tps ds) = D.deps ds
  | [] => rfl
  | d :: ds => by simp only [D.tps, D.deps, D.dep_tp d, D.deps_tp ds]
end
mutual
theorem D.nd_tp : ∀ d : D, d.tp.nd = d.nd
  | .lst ds => by simp only [D.tp, D.nd, D.nds_tp ds]
  | .tup ds => by simp only [D.tp, D.nd, D.nds_tp ds]
  | .non => rfl
  | .bl _ => rfl
  | .int _ => rfl
  | .str _ => rfl
  | .dct => rfl
theorem D.nds_tp : ∀ ds : List D, D.nds (D.tps ds) = D.nds ds
  | [] => rfl
  | d :: ds => by simp only [D.tps, D.nds, D.nd_tp d, D.nds_tp ds]
end
theorem nd_drs : ∀ xs : List Rat, D.nds (xs.map dr) = true
  | [] => rfl
  | x :: xs => by simp only [List.map_cons, D.nds, nd_drs xs]; rfl
theorem nd_rowL (xs : List Rat) : (rowL xs).nd = true := nd_drs xs
theorem nd_tabL (rows : List (List Rat)) : (tabL rows).nd = true := by
  unfold tabL
  simp only [D.nd]
  induction rows with
  | nil => rfl
  | cons r rs ih => simp only [List.map_cons, D.nds, nd_rowL, ih]; rfl
theorem nd_of {d : D} {e : D} (h : d.tp = e.tp) (k : e.nd = true) : d.nd = true := by rw [← D.nd_tp, h, D.nd_tp]; exact k
theorem dr_tp (x : Rat) : (dr x).tp = dr x := rfl
theorem drs_tp : ∀ xs : List Rat, D.tps (xs.map dr) = xs.map dr
  | [] => rfl
  | x :: xs => by simp only [List.map_cons, D.tps, dr_tp, drs_tp xs]
def tabD (rows : List (List Rat)) : D := .tup (rows.map rowD)
theorem rowL_tp (xs : List Rat) : (rowL xs).tp = rowD xs := by unfold rowL rowD; simp only [D.tp, drs_tp]
theorem rowD_tp (xs : List Rat) : (rowD xs).tp = rowD xs := by unfold rowD; simp only [D.tp, drs_tp]
theorem rowLs_tp : ∀ rows : List (List Rat), D.tps (rows.map rowL) = rows.map rowD
  | [] => rfl
  | x :: xs => by simp only [List.map_cons, D.tps, rowL_tp, rowLs_tp xs]
theorem rowDs_tp : ∀ rows : List (List Rat), D.tps (rows.map rowD) = rows.map rowD
  | [] => rfl
  | x :: xs => by simp only [List.map_cons, D.tps, rowD_tp, rowDs_tp xs]
theorem tabL_tp (rows : List (List Rat)) : (tabL rows).tp = tabD rows := by unfold tabL tabD; simp only [D.tp, rowLs_tp]
theorem tabD_tp (rows : List (List Rat)) : (tabD rows).tp = tabD rows := by unfold tabD; simp only [D.tp, rowDs_tp]
theorem items_tp {d : D} {es : List D} (e : d.tp = .tup es) : ∃ ds, d.items = some ds ∧ D.tps ds = es := by
  cases d with
  | lst ds => simp only [D.tp, D.tup.injEq] at e; exact ⟨ds, rfl, e⟩
  | tup ds => simp only [D.tp, D.tup.injEq] at e; exact ⟨ds, rfl, e⟩
  | _ => simp only [D.tp] at e; cases e
theorem frac_tp {d : D} {x : Rat} (e : d.tp = dr x) : d.frac = some x := by
  obtain ⟨ds, h1, h2⟩ := items_tp e
  have h3 : ds = [.int x.num, .int x.den] := by
    match ds, h2 with
    | [a, b], h2 =>
      simp only [D.tps, List.cons.injEq, and_true] at h2
      rw [D.tp_int h2.1, D.tp_int h2.2]
    | [], h2 => cases h2
    | [a], h2 => simp [D.tps] at h2
    | a :: b :: c :: r, h2 => simp [D.tps] at h2
  unfold D.frac
  rw [h1, h3]
  show fracOf [.int x.num, .int x.den] = some x
  show (if 0 < (x.den : Int) ∧ Int.gcd x.num x.den = 1 then some (Rat.divInt x.num x.den) else none) = some x
  have := x.den_nz
  rw [if_pos ⟨by omega, x.reduced⟩, Rat.num_divInt_den]
theorem fracs_tp : ∀ {ds : List D} {xs : List Rat}, D.tps ds = xs.map dr → ds.mapM D.frac = some xs
  | [], [], _ => rfl
  | [], _ :: _, e => by cases e
  | _ :: _, [], e => by cases e
  | d :: ds, x :: xs, e => by
    simp only [D.tps, List.map_cons, List.cons.injEq] at e
    rw [List.mapM_cons, frac_tp e.1, fracs_tp e.2]
    rfl
theorem row_tp {d : D} {xs : List Rat} (e : d.tp = rowD xs) : d.row = some xs := by
  obtain ⟨ds, h1, h2⟩ := items_tp e
  unfold D.row
  rw [h1]
  exact fracs_tp h2
theorem any_neg {xs : List Rat} (h : ∀ x ∈ xs, 0 ≤ x) : (xs.any fun x => decide (x < 0)) = false := by
  rw [List.any_eq_false]
  intro x hx
  have := h x hx
  simp [Rat.not_lt.mpr this]
theorem Chan.of {xs : List Rat} {m : Nat} (c : Chan xs m) : chanOf xs = some xs := by
  unfold chanOf
  rw [if_pos ⟨any_neg c.nn, c.one⟩]
theorem chances_tp {d : D} {xs : List Rat} (e : d.tp = rowD xs) (c : chanOf xs = some xs) : d.chances = some xs := by
  unfold D.chances
  rw [row_tp e]
  exact c
theorem chances_tps : ∀ {ds : List D} {rows : List (List Rat)}, D.tps ds = rows.map rowD → (∀ r ∈ rows, chanOf r = some r) → ds.mapM D.chances = some rows
  | [], [], _, _ => rfl
  | [], _ :: _, e, _ => by cases e
  | _ :: _, [], e, _ => by cases e
  | d :: ds, x :: xs, e, h => by
    simp only [D.tps, List.map_cons, List.cons.injEq] at e
    rw [List.mapM_cons, chances_tp e.1 (h x List.mem_cons_self), chances_tps e.2 fun r hr => h r (List.mem_cons_of_mem _ hr)]
    rfl
theorem rows_tps : ∀ {ds : List D} {rows : List (List Rat)}, D.tps ds = rows.map rowD → ds.mapM D.row = some rows
  | [], [], _ => rfl
  | [], _ :: _, e => by cases e
  | _ :: _, [], e => by cases e
  | d :: ds, x :: xs, e => by
    simp only [D.tps, List.map_cons, List.cons.injEq] at e
    rw [List.mapM_cons, row_tp e.1, rows_tps e.2]
    rfl
theorem Tab.even {n t s : Nat} {rows : List (List Rat)} (l : Tab n t s rows) : evenR rows = true := by
  cases rows with
  | nil => rfl
  | cons r rs =>
    unfold evenR
    rw [List.all_eq_true]
    intro x hx
    exact decide_eq_true (by rw [l.lens x hx, l.lens r List.mem_cons_self])
theorem tps_nil {ds : List D} (e : D.tps ds = []) : ds = [] := by
  cases ds with
  | nil => rfl
  | cons d ds => cases e
theorem look_tp {d : D} {rows : List (List Rat)} {n t s : Nat} (e : d.tp = tabD rows) (c : ∀ r ∈ rows, chanOf r = some r) (l : Tab n t s rows) (t0 : 0 < t) : d.look = some rows := by
  obtain ⟨ds, h1, h2⟩ := items_tp e
  unfold D.look
  rw [h1]
  have ne : ds ≠ [] := fun z => by
    have := D.len_tps ds
    rw [h2, List.length_map, l.len, z, List.length_nil] at this
    omega
  show (if ds = [] then none else _) = _
  rw [if_neg ne, chances_tps h2 c]
  show (if evenR rows = true then some rows else none) = _
  rw [if_pos l.even]
theorem wishes_tp {d : D} {rows : List (List Rat)} {n t s : Nat} (e : d.tp = tabD rows) (l : Tab n t s rows) (t0 : 0 < t) (s0 : 0 < s) : d.wishes = some rows := by
  obtain ⟨ds, h1, h2⟩ := items_tp e
  unfold D.wishes
  rw [h1]
  have ne : ds ≠ [] := fun z => by
    have := D.len_tps ds
    rw [h2, List.length_map, l.len, z, List.length_nil] at this
    omega
  show (if ds = [] then none else _) = _
  rw [if_neg ne, rows_tps h2]
  show (if rows.headD [] ≠ [] ∧ evenR rows = true then some rows else none) = _
  have hd : rows.headD [] ≠ [] := by
   cases rows with
   | nil => have := l.len; rw [List.length_nil] at this; omega
   | cons r rs =>
    intro z
    have := l.lens r List.mem_cons_self
    rw [show r = [] from z, List.length_nil] at this
    omega
  rw [if_pos ⟨hd, l.even⟩]
theorem tps_mem : ∀ {ds : List D} {rows : List (List Rat)} {x : D}, D.tps ds = rows.map rowD → x ∈ ds → ∃ r ∈ rows, x.tp = rowD r
  | d :: ds, [], x, e, _ => by cases e
  | d :: ds, r :: rows, x, e, hx => by
    simp only [D.tps, List.map_cons, List.cons.injEq] at e
    rcases List.mem_cons.mp hx with rfl | hx
    · exact ⟨r, List.mem_cons_self, e.1⟩
    · obtain ⟨r', h1, h2⟩ := tps_mem e.2 hx
      exact ⟨r', List.mem_cons_of_mem _ h1, h2⟩
theorem fit_tp {d : D} {rows : List (List Rat)} {n t s : Nat} (e : d.tp = tabD rows) (l : Tab n t s rows) (hf : 1 + (n + 2) * s ≤ 3900) : FitL n d := by
  intro ds h1 x hx xs hr
  obtain ⟨ds', h1', h2⟩ := items_tp e
  rw [h1] at h1'
  cases h1'
  obtain ⟨r, hr1, hr2⟩ := tps_mem h2 hx
  rw [row_tp hr2] at hr
  cases hr
  exact ⟨l.bd _ hr1, by rw [l.lens _ hr1]; exact hf⟩
theorem wid_rowD (xs : List Rat) : (rowD xs).wid ≤ max xs.length 2 := by
  have : ∀ xs : List Rat, D.wids (xs.map dr) ≤ 2 := by
    intro xs
    induction xs with
    | nil => simp [D.wids]
    | cons x xs ih => simp only [List.map_cons, D.wids]; have : (dr x).wid = 2 := rfl; omega
  have := this xs
  unfold rowD
  simp only [D.wid, List.length_map]
  omega
theorem wid_tabD {rows : List (List Rat)} {n t s : Nat} (l : Tab n t s rows) : (tabD rows).wid ≤ max t (max s 2) := by
  have key : ∀ rs : List (List Rat), (∀ r ∈ rs, r.length = s) → D.wids (rs.map rowD) ≤ max s 2 := by
    intro rs
    induction rs with
    | nil => intro _; simp [D.wids]
    | cons r rs ih =>
      intro h
      simp only [List.map_cons, D.wids]
      have h1 := wid_rowD r
      rw [h r List.mem_cons_self] at h1
      have := ih fun z hz => h z (List.mem_cons_of_mem _ hz)
      omega
  have := key rows l.lens
  unfold tabD
  simp only [D.wid, List.length_map, l.len]
  omega
theorem dep_tabD (rows : List (List Rat)) : (tabD rows).dep ≤ 3 := by
  have key : ∀ rs : List (List Rat), D.deps (rs.map rowD) ≤ 2 := by
    intro rs
    induction rs with
    | nil => simp [D.deps]
    | cons r rs ih => simp only [List.map_cons, D.deps]; have := dep_row r; omega
  have := key rows
  unfold tabD
  simp only [D.dep]
  omega
theorem wid_of {d : D} {e : D} (h : d.tp = e) : d.wid = e.wid := by rw [← h, D.wid_tp]
theorem dep_of {d : D} {e : D} (h : d.tp = e) : d.dep = e.dep := by rw [← h, D.dep_tp]
end KM
/-! KPE: what looks are worth, asked of the program. -/
namespace KM
open PySem PySem.Spec PyProof.Rows L2
def c_worth_behind : Sxs := .cons (.asg (.tc (.nm 3) (.tc (.nm 4) (.tc (.nm 5) .tn))) (.call "need_all" (.cons (.var 0) (.cons (.var 1) (.cons (.var 2) .nil))))) (.cons (.ret (.call "worth_of" (.cons (.var 3) (.cons (.var 4) (.cons (.var 5) .nil))))) .nil)
def c_price_of : Sxs := .cons (.asg (.tc (.nm 3) (.tc (.nm 4) (.tc (.nm 5) .tn))) (.call "need_all" (.cons (.var 0) (.cons (.var 1) (.cons (.var 2) .nil))))) (.cons (.ret (.call "minus" (.cons (.call "worth_of" (.cons (.var 3) (.cons (.var 4) (.cons (.var 5) .nil)))) (.cons (.call "greatest" (.cons (.call "deeds_at" (.cons (.var 3) (.cons (.var 4) .nil))) .nil)) .nil)))) .nil)
def c_regret : Sxs := .cons (.asg (.tc (.nm 3) (.tc (.nm 4) (.tc (.nm 5) .tn))) (.call "need_all" (.cons (.var 0) (.cons (.var 1) (.cons (.var 2) .nil))))) (.cons (.ret (.call "minus" (.cons (.call "worth_of" (.cons (.var 3) (.cons (.var 4) (.cons (.call "full_of" (.cons (.bi .len (.cons (.var 3) .nil)) .nil)) .nil)))) (.cons (.call "worth_of" (.cons (.var 3) (.cons (.var 4) (.cons (.var 5) .nil)))) .nil)))) .nil)
def c_need_count (b : Sx) : Sxs := .cons (.ife (.or (.not (.call "is_whole" (.cons (.var 0) .nil))) (.cmp .Lt (.var 0) (.int 1))) (.cons b .nil) .nil) .nil
def c_full : Sxs := .cons (.expr (.call "need_count" (.cons (.var 0) .nil))) (.cons (.ret (.call "told_look" (.cons (.call "full_of" (.cons (.var 0) .nil)) .nil))) .nil)
def c_veil_of : Sxs := .cons (.asg (.nm 2) (.call "columns_of" (.cons (.var 1) .nil))) (.cons (.ret (.bi .tuple (.cons (.lc (.bi .tuple (.cons (.lc (.call "dot" (.cons (.var 3) (.cons (.var 4) .nil))) (.nm 4) (.seq (.var 2)) .nil [4]) .nil)) (.nm 3) (.seq (.var 0)) .nil [3]) .nil))) .nil)
def c_veiled (b : Sx) : Sxs := .cons (.par [2, 3] (.cons (.call "need_look" (.cons (.var 0) .nil)) (.cons (.call "kept_look" (.cons (.var 1) .nil)) .nil))) (.cons (.ife (.or (.cmp .Is (.var 3) .non) (.cmp .NotEq (.bi .len (.cons (.var 3) .nil)) (.bi .len (.cons (.ix (.var 2) (.int 0)) .nil)))) (.cons b .nil) .nil) (.cons (.ret (.call "told_look" (.cons (.call "veil_of" (.cons (.var 2) (.cons (.var 3) .nil))) .nil))) .nil))
/-- things that read so -/
structure Asked (h : Hep) (v1 v2 v3 : Val) (c : List Rat) (wish look : List (List Rat)) (n m l t s d : Nat) : Prop where
  r1 : ∃ d1, Rd h d1 v1 ∧ d1.tp = rowD c
  r2 : ∃ d2, Rd h d2 v2 ∧ d2.tp = tabD wish
  r3 : ∃ d3, Rd h d3 v3 ∧ d3.tp = tabD look
  cc : chanOf c = some c
  bc : ∀ x ∈ c, Bd n x
  lc : c.length = t
  lw : Tab m d t wish
  ll : Tab l t s look
  cl : ∀ r ∈ look, chanOf r = some r
  t0 : 0 < t
  d0 : 0 < d
  n0 : 0 < n
  m0 : 0 < m
  l0 : 0 < l
theorem Asked.sub {h h' : Hep} (sb : Sub h h') {v1 v2 v3 : Val} {c : List Rat} {wish look : List (List Rat)} {n m l t s d : Nat} (a : Asked h v1 v2 v3 c wish look n m l t s d) : Asked h' v1 v2 v3 c wish look n m l t s d :=
  { a with r1 := a.r1.imp fun _ x => ⟨x.1.sub sb, x.2⟩, r2 := a.r2.imp fun _ x => ⟨x.1.sub sb, x.2⟩, r3 := a.r3.imp fun _ x => ⟨x.1.sub sb, x.2⟩ }
structure AskLib (T : Str → Option Fc) : Prop extends NeedsLib T where
  na : T "need_all" = some ⟨3, 5, c_need_all⟩
  wl : WorthLib T
  mi : T "minus" = some ⟨2, 2, c_minus⟩
  fo : T "full_of" = some ⟨1, 3, c_full_of⟩
  wb : T "worth_behind" = some ⟨3, 6, c_worth_behind⟩
  po : T "price_of" = some ⟨3, 6, c_price_of⟩
  rg : T "regret" = some ⟨3, 6, c_regret⟩
section
variable {T : Str → Option Fc}
theorem lookV_head {h : Hep} {rows : List (List Rat)} {n t s : Nat} (l : Tab n t s rows) (t0 : 0 < t) : ∃ r rs, rows = r :: rs ∧ r.length = s := by
  cases rows with
  | nil => have := l.len; rw [List.length_nil] at this; omega
  | cons r rs => exact ⟨r, rs, rfl, l.lens r List.mem_cons_self⟩
theorem asked_ok (hT : AskLib T) {k n m l t s d : Nat} {v1 v2 v3 : Val} {c : List Rat} {wish look : List (List Rat)} {h : Hep} {Q : VQ} {E : XQ} (a : Asked h v1 v2 v3 c wish look n m l t s d) (hn : n + l ≤ 900) (h1 : 1 + (n + l + 2) * t ≤ 3900) (h2 : 1 + (n + l + 2) * s ≤ 3900) (h3 : d < 1000000)
    (q : Q (.tup [rowV c, lookV wish, lookV look]) h) : Calls T (k + 9) "need_all" [v1, v2, v3] h Q E := by
  obtain ⟨d1, r1, e1⟩ := a.r1
  obtain ⟨d2, r2, e2⟩ := a.r2
  obtain ⟨d3, r3, e3⟩ := a.r3
  have lc := a.lc
  have t0 := a.t0
  obtain ⟨wr, ws, ew, ewl⟩ := lookV_head (h := h) a.lw a.d0
  have tl : t ≤ 3900 := Nat.le_trans (Nat.le_mul_of_pos_left t (show 0 < n + l + 2 by omega)) (by omega)
  have sl : s ≤ 3900 := Nat.le_trans (Nat.le_mul_of_pos_left s (show 0 < n + l + 2 by omega)) (by omega)
  have w1 : d1.wid < 1000000 := by rw [wid_of e1]; have := wid_rowD c; omega
  have w2 : d2.wid < 1000000 := by rw [wid_of e2]; have := wid_tabD a.lw; omega
  have w3 : d3.wid < 1000000 := by rw [wid_of e3]; have := wid_tabD a.ll; omega
  refine nall_ok hT.toNeedsLib hT.na (k := k) (n := n + l) r1 r2 r3 w1 w2 w3 (by have := a.n0; omega) (by omega) (fun xs hx => ?_) (fit_tp e3 (a.ll.mono (by omega)) h2) (chances_tp e1 a.cc) (wishes_tp e2 a.lw a.d0 a.t0) (look_tp e3 a.cl a.ll a.t0) ew (by rw [ewl, lc]) (by rw [a.ll.len, lc]) q
  rw [row_tp e1] at hx
  cases hx
  exact ⟨fun x hx => (a.bc x hx).mono (by omega), by rw [lc]; exact h1⟩
theorem wish_ne {n t s : Nat} {rows : List (List Rat)} (l : Tab n t s rows) (t0 : 0 < t) : rows ≠ [] := fun e => by
  have := l.len
  rw [e, List.length_nil] at this
  omega
/-- the worth of kept things -/
theorem worthT (hT : WorthLib T) {k n m l t s d : Nat} {c : List Rat} {wish look : List (List Rat)} {h : Hep} {Q : VQ} {E : XQ} (lc : c.length = t) (bc : ∀ x ∈ c, Bd n x) (lw : Tab m d t wish) (ll : Tab l t s look) (t0 : 0 < t) (d0 : 0 < d) (n0 : 0 < n) (m0 : 0 < m) (l0 : 0 < l) (hn : n + l + 1 + m ≤ 1000) (hd : d < 1000000)
    (h2 : 1 + (1 + (n + l + 1 + m + 3) * t + 2) * s ≤ 3900) (h1 : 1 + (n + l + 1 + m + 3) * t ≤ 3900) (q : Q (fr (worthR c wish look s)) h) : Calls T (k + 9) "worth_of" [rowV c, lookV wish, lookV look] h Q E := by
  obtain ⟨r, rs, er, el⟩ := lookV_head (h := h) ll t0
  have tl : t ≤ 3900 := Nat.le_trans (Nat.le_mul_of_pos_left t (show 0 < n + l + 1 + m + 3 by omega)) (by omega)
  have sl : s ≤ 3900 := Nat.le_trans (Nat.le_mul_of_pos_left s (show 0 < 1 + (n + l + 1 + m + 3) * t + 2 by omega)) (by omega)
  exact worth_ok hT (k := k) er ll.lens (by rw [ll.len]; omega) (by omega) (by rw [ll.len, lc]) (wish_ne lw d0) n0 l0 m0 hn bc ll.bd lw.bd (by rw [lc]; exact h1) (by rw [lw.len]; exact hd) (by rw [lc]; exact h2) q
theorem behind_ok (hT : AskLib T) {k n m l t s d : Nat} {v1 v2 v3 : Val} {c : List Rat} {wish look : List (List Rat)} {h : Hep} {Q : VQ} {E : XQ} (a : Asked h v1 v2 v3 c wish look n m l t s d) (hn : n + l + 1 + m ≤ 900) (hd : d < 1000000)
    (h2 : 1 + (1 + (n + l + 1 + m + 3) * t + 2) * s ≤ 3900) (h1 : 1 + (n + l + 1 + m + 3) * t ≤ 3900) (q : Q (fr (worthR c wish look s)) h) : Calls T (k + 10) "worth_behind" [v1, v2, v3] h Q E := by
  refine Calls_eq [some v1, some v2, some v3, none, none, none] hT.wb rfl rfl ?_
  have b1 : 1 + (n + l + 2) * t ≤ 3900 := by have := Nat.mul_le_mul_right t (show n + l + 2 ≤ n + l + 1 + m + 3 by omega); omega
  have b0 : n + l + 2 ≤ 1 + (n + l + 1 + m + 3) * t + 2 := by have := Nat.le_mul_of_pos_right (n + l + 1 + m + 3) a.t0; omega
  have b2 : 1 + (n + l + 2) * s ≤ 3900 := by have := Nat.mul_le_mul_right s b0; omega
  refine asked_ok hT (k := k) a (by omega) b1 b2 hd ?_
  refine worthT hT.wl (k := k) a.lc a.bc a.lw a.ll a.t0 a.d0 a.n0 a.m0 a.l0 (by omega) hd h2 h1 ?_
  exact Dr.here q
theorem worthR_bd {n m l t s d : Nat} {c : List Rat} {wish look : List (List Rat)} (lc : c.length = t) (bc : ∀ x ∈ c, Bd n x) (lw : Tab m d t wish) (ll : Tab l t s look) : Bd (1 + (1 + (n + l + 1 + m + 3) * t + 2) * s) (worthR c wish look s) := by
  have := sumR_bd (n := 1 + (n + l + 1 + m + 3) * t) (xs := (colsR s look).map fun col => maxR (deedR wish (mulR c col))) fun x hx => by
    obtain ⟨col, hc, rfl⟩ := List.mem_map.mp hx
    refine maxR_bd (by omega) fun x hx => ?_
    obtain ⟨w, hw, rfl⟩ := List.mem_map.mp hx
    refine dotR_bd (mulR_bd bc (ll.cols.bd col hc)) (lw.bd w hw) ?_
    have := mulR_len c col
    omega
  rw [List.length_map, ll.cols.len] at this
  exact this
theorem pfull_lc {C : CalT} {n : Nat} {e0 : Option Val} {j : Nat} {h : Hep} {Q : VQ} (q : newL h (((List.range n).map fun s => if s = j then (1 : Rat) else 0).map fr) Q) :
    lcW (wCs C .nil) (wE C (.ife (.cmp .Eq (.var 2) (.var 1)) (.con (.tup [.int 1, .int 1])) (.con (.tup [.int 0, .int 1])))) (bindT (.nm 2)) [] [e0, some (.int j), none] Q ((List.range n).map fun j => Val.int (j : Nat)) [] h := by
  refine lc_map (g := fun s : Nat => fr (if s = j then 1 else 0)) trivial (fun s hs K kk => ?_) (by rw [List.map_map] at q; exact q)
  by_cases e : s = j
  · rw [if_pos e] at kk
    exact ifT (decide_eq_true (by rw [e])) kk
  · rw [if_neg e] at kk
    exact ifF (decide_eq_false (by omega)) kk
theorem full_of_ok (hT : T "full_of" = some ⟨1, 3, c_full_of⟩) {k n : Nat} {i : Int} {h : Hep} {Q : VQ} {E : XQ} (ei : i = n) (hn : n < 1000000) (q : Q (lookV (fullR n)) h) : Calls T (k + 1) "full_of" [.int i] h Q E := by
  refine Calls_eq [some (.int i), none, none] hT rfl rfl ?_
  refine rng_lc ei hn ?_
  refine lc_mapU (pins := []) (g := fun j : Nat => rowV ((List.range n).map fun s => if s = j then (1 : Rat) else 0)) (fun _ _ => trivial) (fun h' s' j hj K kk => ?_) (fun h2 s2 => ?_)
  · refine rng_lc ei hn ?_
    refine pfull_lc ?_
    refine newL_in fun p np => ?_
    refine onJ_ref hset_same ?_
    exact kk _ ((Sub.refl h').new np)
  · refine newL_in fun p np => ?_
    refine onJ_ref hset_same ?_
    refine ⟨h, s2.trans ((Sub.refl h2).new np), ?_⟩
    unfold lookV fullR at q
    rw [List.map_map] at q
    exact q
theorem price_ok (hT : AskLib T) {k n m l t s d : Nat} {v1 v2 v3 : Val} {c : List Rat} {wish look : List (List Rat)} {h : Hep} {Q : VQ} {E : XQ} (a : Asked h v1 v2 v3 c wish look n m l t s d) (hn : n + l + 1 + m ≤ 900) (hd : d < 1000000)
    (h2 : 1 + (1 + (n + l + 1 + m + 3) * t + 2) * s ≤ 3900) (h1 : 1 + (n + l + 1 + m + 3) * t ≤ 3900) (q : Q (fr (worthR c wish look s - maxR (deedR wish c))) h) : Calls T (k + 10) "price_of" [v1, v2, v3] h Q E := by
  refine Calls_eq [some v1, some v2, some v3, none, none, none] hT.po rfl rfl ?_
  have b1 : 1 + (n + l + 2) * t ≤ 3900 := by have := Nat.mul_le_mul_right t (show n + l + 2 ≤ n + l + 1 + m + 3 by omega); omega
  have b0 : n + l + 2 ≤ 1 + (n + l + 1 + m + 3) * t + 2 := by have := Nat.le_mul_of_pos_right (n + l + 1 + m + 3) a.t0; omega
  have b2 : 1 + (n + l + 2) * s ≤ 3900 := by have := Nat.mul_le_mul_right s b0; omega
  have b3 : 1 + (n + m + 3) * t ≤ 3900 := by have := Nat.mul_le_mul_right t (show n + m + 3 ≤ n + l + 1 + m + 3 by omega); omega
  refine asked_ok hT (k := k) a (by omega) b1 b2 hd ?_
  refine worthT hT.wl (k := k) a.lc a.bc a.lw a.ll a.t0 a.d0 a.n0 a.m0 a.l0 (by omega) hd h2 h1 ?_
  refine deeds_ok hT.wl (k := k + 3) (n := n) (m := m) (xs := c) (.inl rfl) a.n0 a.m0 (by omega) a.bc a.lw.bd (by rw [a.lc]; exact b3) (by rw [a.lw.len]; exact hd) ?_
  refine newL_in fun p np => ?_
  have e1 : (wish.map fun r => fr (dotR c r)) = (deedR wish c).map fr := by unfold deedR; rw [List.map_map]; rfl
  rw [e1]
  have bd : ∀ x ∈ deedR wish c, Bd (1 + (n + m + 3) * t) x := by
    intro x hx
    obtain ⟨w, hw, rfl⟩ := List.mem_map.mp hx
    exact dotR_bd a.bc (a.lw.bd w hw) (by rw [a.lc]; exact Nat.le_refl _)
  refine greatest_ok hT.wl (k := k + 7) (n := 1 + (n + m + 3) * t) (.inr ⟨p, rfl, hset_same⟩) (fun z => wish_ne a.lw a.d0 (List.map_eq_nil_iff.mp z)) (by omega) (by omega) bd ?_
  refine minus_ok hT.wl.toRedLib hT.mi (k := k + 6) (n := 3900) (by decide) (by decide) ((worthR_bd a.lc a.bc a.lw a.ll).mono h2) ((maxR_bd (by omega) bd).mono b3) ?_
  exact ⟨h, (Sub.refl h).new np, q⟩
theorem regret_ok (hT : AskLib T) {k n m l t s d : Nat} {v1 v2 v3 : Val} {c : List Rat} {wish look : List (List Rat)} {h : Hep} {Q : VQ} {E : XQ} (a : Asked h v1 v2 v3 c wish look n m l t s d) (hn : n + l + 1 + m ≤ 900) (hd : d < 1000000) (l8 : 8 ≤ l) (h1 : 1 + (n + l + 1 + m + 3) * t ≤ 3900)
    (h2 : 1 + (1 + (n + l + 1 + m + 3) * t + 2) * s ≤ 3900) (h3 : 1 + (1 + (n + l + 1 + m + 3) * t + 2) * t ≤ 3900) (q : Q (fr (worthR c wish (fullR t) t - worthR c wish look s)) h) : Calls T (k + 10) "regret" [v1, v2, v3] h Q E := by
  refine Calls_eq [some v1, some v2, some v3, none, none, none] hT.rg rfl rfl ?_
  have b1 : 1 + (n + l + 2) * t ≤ 3900 := by have := Nat.mul_le_mul_right t (show n + l + 2 ≤ n + l + 1 + m + 3 by omega); omega
  have b0 : n + l + 2 ≤ 1 + (n + l + 1 + m + 3) * t + 2 := by have := Nat.le_mul_of_pos_right (n + l + 1 + m + 3) a.t0; omega
  have b2 : 1 + (n + l + 2) * s ≤ 3900 := by have := Nat.mul_le_mul_right s b0; omega
  have tl : t ≤ 3900 := Nat.le_trans (Nat.le_mul_of_pos_left t (show 0 < n + l + 1 + m + 3 by omega)) (by omega)
  refine asked_ok hT (k := k) a (by omega) b1 b2 hd ?_
  refine onJ_tup ?_
  refine full_of_ok hT.fo (k := k + 8) (n := t) (by rw [List.length_map, a.lc]) (by omega) ?_
  have lf := (full_tab t).mono l8
  refine worthT hT.wl (k := k) a.lc a.bc a.lw lf a.t0 a.d0 a.n0 a.m0 a.l0 (by omega) hd h3 h1 ?_
  refine worthT hT.wl (k := k) a.lc a.bc a.lw a.ll a.t0 a.d0 a.n0 a.m0 a.l0 (by omega) hd h2 h1 ?_
  refine minus_ok hT.wl.toRedLib hT.mi (k := k + 6) (n := 3900) (by decide) (by decide) ((worthR_bd a.lc a.bc a.lw lf).mono h3) ((worthR_bd a.lc a.bc a.lw a.ll).mono h2) ?_
  exact Dr.here q
end
end KM
/-! KPF: veiled looks, full ones, choices. -/
namespace KM
open PySem PySem.Spec PyProof.Rows L2
def c_need_list : Sxs := .cons (.ife (.not (.call "is_list" (.cons (.var 0) .nil))) (.cons .bad .nil) .nil) (.cons (.asg (.nm 2) (.lst .nil)) (.cons (.forr (.tc (.nm 3) (.tc (.nm 4) .tn)) (.enum (.var 0)) (.cons (.asg (.nm 5) (.call "kept_look" (.cons (.var 4) .nil))) (.cons (.ife (.or (.cmp .Is (.var 5) .non) (.cmp .NotEq (.bi .len (.cons (.var 5) .nil)) (.bi .len (.cons (.ix (.bin .Add (.var 2) (.lst (.cons (.var 5) .nil))) (.int 0)) .nil)))) (.cons .bad .nil) .nil) (.cons (.ife (.and (.var 1) (.cmp .NotEq (.bi .len (.cons (.ix (.var 5) (.int 0)) .nil)) (.bi .len (.cons (.ix (.ix (.bin .Add (.var 2) (.lst (.cons (.var 5) .nil))) (.int 0)) (.int 0)) .nil)))) (.cons .bad .nil) .nil) (.cons (.expr (.mth .append (.var 2) (.cons (.var 5) .nil))) .nil))))) (.cons (.ret (.var 2)) .nil)))
def c_need_choice : Sxs := .cons (.asg (.nm 3) (.call "kept_chances" (.cons (.var 0) .nil))) (.cons (.ife (.cmp .Is (.var 3) .non) (.cons .bad .nil) .nil) (.cons (.ife (.and (.call "is_list" (.cons (.var 1) .nil)) (.cmp .Gt (.bi .len (.cons (.var 1) .nil)) (.bi .len (.cons (.var 3) .nil)))) (.cons (.expr (.call "need_list" (.cons (.sl (.var 1) .nil (.cons (.bi .len (.cons (.var 3) .nil)) .nil)) (.cons (.var 2) .nil)))) (.cons .bad .nil)) .nil) (.cons (.asg (.nm 4) (.call "need_list" (.cons (.var 1) (.cons (.var 2) .nil)))) (.cons (.ife (.cmp .Lt (.bi .len (.cons (.var 4) .nil)) (.bi .len (.cons (.var 3) .nil))) (.cons .bad .nil) .nil) (.cons (.ret (.tup (.cons (.var 3) (.cons (.var 4) .nil)))) .nil)))))
def c_told_of : Sxs := .cons (.asg (.nm 2) (.lst .nil)) (.cons (.forr (.nm 3) (.rng1 (.bi .len (.cons (.ix (.var 1) (.int 0)) .nil))) (.cons (.asg (.nm 4) (.lst .nil)) (.cons (.forr (.tc (.nm 5) (.tc (.nm 6) .tn)) (.zip (.var 0) (.var 1)) (.cons (.expr (.mth .extend (.var 4) (.cons (.lc (.call "times" (.cons (.var 5) (.cons (.var 7) .nil))) (.nm 7) (.seq (.ix (.var 6) (.var 3))) .nil [7]) .nil))) .nil)) (.cons (.expr (.mth .append (.var 2) (.cons (.bi .tuple (.cons (.var 4) .nil)) .nil))) .nil)))) (.cons (.ret (.bi .tuple (.cons (.var 2) .nil))) .nil))
def c_told_choice : Sxs := .cons (.asg (.tc (.nm 2) (.tc (.nm 3) .tn)) (.call "need_choice" (.cons (.var 0) (.cons (.var 1) (.cons (.bl false) .nil))))) (.cons (.ret (.call "told_look" (.cons (.call "told_of" (.cons (.var 2) (.cons (.var 3) .nil))) .nil))) .nil)
def c_hidden_choice : Sxs := .cons (.asg (.tc (.nm 2) (.tc (.nm 3) .tn)) (.call "need_choice" (.cons (.var 0) (.cons (.var 1) (.cons (.bl true) .nil))))) (.cons (.asg (.nm 4) (.lst .nil)) (.cons (.forr (.nm 5) (.rng1 (.bi .len (.cons (.ix (.var 3) (.int 0)) .nil))) (.cons (.asg (.nm 6) (.call "columns_of" (.cons (.bi .tuple (.cons (.lc (.ix (.var 7) (.var 5)) (.nm 7) (.seq (.var 3)) .nil [7]) .nil)) .nil))) (.cons (.expr (.mth .append (.var 4) (.cons (.lc (.call "total" (.cons (.lc (.call "times" (.cons (.var 9) (.cons (.var 10) .nil))) (.tc (.nm 9) (.tc (.nm 10) .tn)) (.zip (.var 2) (.var 8)) .nil [9, 10]) .nil)) (.nm 8) (.seq (.var 6)) .nil [8]) .nil))) .nil))) (.cons (.ret (.var 4)) .nil)))
def veilR (look veil : List (List Rat)) (m : Nat) : List (List Rat) := look.map fun row => (colsR m veil).map fun col => dotR row col
structure VeilLib (T : Str → Option Fc) : Prop extends AskLib T where
  nlo : ∃ b, T "need_look" = some ⟨1, 2, c_need_look b⟩
  nco : ∃ b, T "need_count" = some ⟨1, 1, c_need_count b⟩
  tl : T "told_look" = some ⟨1, 2, c_told_look⟩
  vo : T "veil_of" = some ⟨2, 5, c_veil_of⟩
  vd : ∃ b, T "veiled" = some ⟨2, 4, c_veiled b⟩
  fu : T "full" = some ⟨1, 1, c_full⟩
  nli : T "need_list" = some ⟨2, 6, c_need_list⟩
  nch : T "need_choice" = some ⟨3, 5, c_need_choice⟩
  tof : T "told_of" = some ⟨2, 8, c_told_of⟩
  tc : T "told_choice" = some ⟨2, 4, c_told_choice⟩
  hc : T "hidden_choice" = some ⟨2, 11, c_hidden_choice⟩
section
variable {T : Str → Option Fc}
/-- a look kept, of tuples, told as lists -/
theorem told_ok (hT : T "told_look" = some ⟨1, 2, c_told_look⟩) {k : Nat} {rows : List (List Rat)} {h : Hep} {Q : VQ} {E : XQ} (hl : rows.length < 1000000) (q : ∀ v h', Sub h h' → Rd h' (tabL rows) v → Q v h') : Calls T (k + 1) "told_look" [lookV rows] h Q E := by
  refine Calls_eq [some (lookV rows), none] hT rfl rfl ?_
  refine src_tupI ?_
  refine ⟨show (rows.map rowV).length < 1000000 by rw [List.length_map]; exact hl, ?_⟩
  refine lc_gr (pins := []) (h := h) (f := rowV) (R := fun r h y => Rd h (rowL r) y) (fun _ _ _ _ s r => r.sub s) (fun _ _ => trivial) rows [] (fun h' s' r hr K kk => ?_) (Sub.refl h) rfl (fun ys h2 s2 al => ?_)
  · refine onJ_tup ?_
    refine newL_in fun p np => ?_
    exact kk _ _ ((Sub.refl h').new np) (rowL_in hset_same)
  · refine newL_in fun p np => ?_
    have sp := (Sub.refl h2).new (o := .lst ys) np
    refine Dr.here (q _ _ (s2.trans sp) ⟨p, ys, rfl, hset_same, ?_⟩)
    have key : ∀ {js : List (List Rat)} {ys : List Val} {h : Hep}, AllH (fun r h y => Rd h (rowL r) y) h js ys → Rds h (js.map rowL) ys := by
      intro js
      induction js with
      | nil => intro ys h e; exact e
      | cons j js ih =>
        intro ys h ⟨y, r, e, a, b⟩
        exact ⟨y, r, e, a, ih b⟩
    exact (key al).sub sp
theorem veil_of_ok (hT : VeilLib T) {k n t s m : Nat} {look veil : List (List Rat)} {h : Hep} {Q : VQ} {E : XQ} (ll : Tab n t s look) (lv : Tab n s m veil) (n0 : 0 < n) (s0 : 0 < s) (ht : t < 1000000) (hm : m < 1000000) (hn : n + n ≤ 1000) (hl : 1 + (n + n + 3) * s ≤ 3900)
    (q : Q (lookV (veilR look veil m)) h) : Calls T (k + 6) "veil_of" [lookV look, lookV veil] h Q E := by
  refine Calls_eq [some (lookV look), some (lookV veil), none, none, none] hT.vo rfl rfl ?_
  obtain ⟨r, rs, er, el⟩ := lookV_head (h := h) lv s0
  have sl : s ≤ 3900 := Nat.le_trans (Nat.le_mul_of_pos_left s (show 0 < n + n + 3 by omega)) (by omega)
  refine columns_ok hT.wl.co (k := k + 4) er lv.lens (by rw [lv.len]; omega) hm ?_
  refine newL_in fun p np => ?_
  have sp := (Sub.refl h).new (o := .lst ((colsR m veil).map rowV)) np
  refine src_tupI ?_
  refine ⟨show (look.map rowV).length < 1000000 by rw [List.length_map, ll.len]; exact ht, ?_⟩
  refine lc_mapU (f := rowV) (g := fun row => rowV ((colsR m veil).map fun col => dotR row col)) (fun _ _ => trivial) (fun h' s' row hrow K kk => ?_) (fun h2 s2 => ?_)
  · have hp' := s' _ _ hset_same
    refine src_refI hp' ?_
    refine ⟨show ((colsR m veil).map rowV).length < 1000000 by rw [List.length_map, lv.cols.len]; exact hm, ?_⟩
    refine lc_map (f := rowV) (g := fun col => fr (dotR row col)) ⟨hp', trivial⟩ (fun col hcol K1 kk1 => ?_) ?_
    · exact dot_ok hT.wl.toSumLib (k := k) (xs := row) (ys := col) (.inl rfl) (.inl rfl) n0 n0 (ll.bd row hrow) (lv.cols.bd col hcol) (by rw [ll.lens row hrow]; exact hl) (by omega) kk1
    · refine newL_in fun p1 np1 => ?_
      refine onJ_ref hset_same ?_
      have := kk _ ((Sub.refl h').new (o := .lst ((colsR m veil).map fun col => fr (dotR row col))) np1)
      unfold rowV at this
      rw [List.map_map] at this
      exact this
  · refine newL_in fun p1 np1 => ?_
    refine onJ_ref hset_same ?_
    refine ⟨h, sp.trans (s2.trans ((Sub.refl h2).new np1)), ?_⟩
    unfold lookV veilR at q
    rw [List.map_map] at q
    exact q
theorem lookN_ok (hT : VeilLib T) {k n t s : Nat} {v : Val} {d : D} {rows : List (List Rat)} {h : Hep} {Q : VQ} {E : XQ} (rd : Rd h d v) (e : d.tp = tabD rows) (l : Tab n t s rows) (c : ∀ r ∈ rows, chanOf r = some r) (t0 : 0 < t) (n0 : 0 < n) (hn : n ≤ 1000) (hf : 1 + (n + 2) * s ≤ 3900) (ht : t < 1000000)
    (q : Q (lookV rows) h) : Calls T (k + 6) "kept_look" [v] h Q E := by
  have sl : s ≤ 3900 := Nat.le_trans (Nat.le_mul_of_pos_left s (show 0 < n + 2 by omega)) (by omega)
  refine look_gen hT.toLookLib (k := k) rd (by rw [wid_of e]; have := wid_tabD l; omega) n0 hn (fit_tp e l hf) ?_
  rw [look_tp e c l t0]
  exact q
theorem veiled_ok (hT : VeilLib T) {k n t s m : Nat} {v1 v2 : Val} {d1 d2 : D} {look veil : List (List Rat)} {h : Hep} {Q : VQ} {E : XQ} (r1 : Rd h d1 v1) (e1 : d1.tp = tabD look) (r2 : Rd h d2 v2) (e2 : d2.tp = tabD veil) (ll : Tab n t s look) (lv : Tab n s m veil) (c1 : ∀ r ∈ look, chanOf r = some r) (c2 : ∀ r ∈ veil, chanOf r = some r)
    (n0 : 0 < n) (s0 : 0 < s) (t0 : 0 < t) (ht : t < 1000000) (hn : n + n ≤ 1000) (hl : 1 + (n + n + 3) * s ≤ 3900) (hm : 1 + (n + 2) * m ≤ 3900)
    (q : ∀ v h', Sub h h' → Rd h' (tabL (veilR look veil m)) v → Q v h') : Calls T (k + 8) "veiled" [v1, v2] h Q E := by
  obtain ⟨bb, hvd⟩ := hT.vd
  obtain ⟨bl, hnl⟩ := hT.nlo
  refine Calls_eq [some v1, some v2, none, none] hvd rfl rfl ?_
  have sl : s ≤ 3900 := Nat.le_trans (Nat.le_mul_of_pos_left s (show 0 < n + n + 3 by omega)) (by omega)
  have ml : m ≤ 3900 := Nat.le_trans (Nat.le_mul_of_pos_left m (show 0 < n + 2 by omega)) (by omega)
  have hs : 1 + (n + 2) * s ≤ 3900 := by have := Nat.mul_le_mul_right s (show n + 2 ≤ n + n + 3 by omega); omega
  refine Calls_eq [some v1, none] hnl rfl rfl ?_
  refine lookN_ok hT (k := k) r1 e1 ll c1 t0 n0 (by omega) hs ht ?_
  refine Dr.here ?_
  refine lookN_ok hT (k := k + 1) r2 e2 lv c2 s0 n0 (by omega) hm (by omega) ?_
  obtain ⟨r, rs, er, el⟩ := lookV_head (h := h) ll t0
  refine onJ_tup ?_
  refine opIx_tup (h := h) (v := rowV r) (by rw [er]; exact atI_nat (j := 0) rfl) ?_
  refine onJ_tup ?_
  refine ifF (by rw [List.length_map, List.length_map, lv.len, el]; simp) ?_
  refine veil_of_ok hT (k := k + 1) ll lv n0 s0 ht (by omega) hn hl ?_
  refine told_ok hT.tl (k := k + 6) (by unfold veilR; rw [List.length_map, ll.len]; exact ht) fun v h' s rd => ?_
  exact Dr.here (q v h' s rd)
theorem full_ok (hT : VeilLib T) {k n : Nat} {i : Int} {h : Hep} {Q : VQ} {E : XQ} (ei : i = n) (n0 : 0 < n) (hn : n < 1000000) (q : ∀ v h', Sub h h' → Rd h' (tabL (fullR n)) v → Q v h') : Calls T (k + 3) "full" [.int i] h Q E := by
  refine Calls_eq [some (.int i)] hT.fu rfl rfl ?_
  obtain ⟨bc, hco⟩ := hT.nco
  refine Calls_eq [some (.int i)] hco rfl rfl ?_
  refine is_whole_ok hT.iw (k := k) (d := .int i) rfl ?_
  refine ifF (decide_eq_false (by omega)) ?_
  refine Dr.here ?_
  refine full_of_ok hT.fo (k := k + 1) ei hn ?_
  refine told_ok hT.tl (k := k + 1) (by rw [(full_tab n).len]; exact hn) fun v h' s rd => ?_
  exact Dr.here (q v h' s rd)
end
end KM
/-! KPG: choices of looks. -/
namespace KM
open PySem PySem.Spec PyProof.Rows L2
def c_nl_body : Sxs := .cons (.asg (.nm 5) (.call "kept_look" (.cons (.var 4) .nil))) (.cons (.ife (.or (.cmp .Is (.var 5) .non) (.cmp .NotEq (.bi .len (.cons (.var 5) .nil)) (.bi .len (.cons (.ix (.bin .Add (.var 2) (.lst (.cons (.var 5) .nil))) (.int 0)) .nil)))) (.cons .bad .nil) .nil) (.cons (.ife (.and (.var 1) (.cmp .NotEq (.bi .len (.cons (.ix (.var 5) (.int 0)) .nil)) (.bi .len (.cons (.ix (.ix (.bin .Add (.var 2) (.lst (.cons (.var 5) .nil))) (.int 0)) (.int 0)) .nil)))) (.cons .bad .nil) .nil) (.cons (.expr (.mth .append (.var 2) (.cons (.var 5) .nil))) .nil)))
def c_to_in : Sxs := .cons (.expr (.mth .extend (.var 4) (.cons (.lc (.call "times" (.cons (.var 5) (.cons (.var 7) .nil))) (.nm 7) (.seq (.ix (.var 6) (.var 3))) .nil [7]) .nil))) .nil
def c_to_out : Sxs := .cons (.asg (.nm 4) (.lst .nil)) (.cons (.forr (.tc (.nm 5) (.tc (.nm 6) .tn)) (.zip (.var 0) (.var 1)) c_to_in) (.cons (.expr (.mth .append (.var 2) (.cons (.bi .tuple (.cons (.var 4) .nil)) .nil))) .nil))
def c_hi_out : Sxs := .cons (.asg (.nm 6) (.call "columns_of" (.cons (.bi .tuple (.cons (.lc (.ix (.var 7) (.var 5)) (.nm 7) (.seq (.var 3)) .nil [7]) .nil)) .nil))) (.cons (.expr (.mth .append (.var 4) (.cons (.lc (.call "total" (.cons (.lc (.call "times" (.cons (.var 9) (.cons (.var 10) .nil))) (.tc (.nm 9) (.tc (.nm 10) .tn)) (.zip (.var 2) (.var 8)) .nil [9, 10]) .nil)) (.nm 8) (.seq (.var 6)) .nil [8]) .nil))) .nil)
theorem hset_hset {h : Hep} {a : Addr} {o o' : Ob} : hset (hset h a o) a o' = hset h a o' := by
  funext x
  by_cases e : x = a
  · subst e; rw [hset_same, hset_same]
  · rw [hset_ne e, hset_ne e, hset_ne e]
theorem src_its2 {h g : Hep} {v : Val} {xs : List Val} {P : Src → Prop} (i : Its h v xs) (sb : Sub h g) (q : ∀ pins, (∀ h', Sub h h' → pinOk h' pins) → P ⟨xs, pins⟩) : onSrc g v P := by
  rcases i with rfl | ⟨a, rfl, e⟩
  · exact src_tupI (q [] fun _ _ => trivial)
  · exact src_refI (sb _ _ e) (q _ fun h' s => ⟨s _ _ e, trivial⟩)
/-- looks that are chosen from: as many things, few signs -/
structure Ch (n t : Nat) (same : Bool) (s : Nat) (l : List (List Rat)) : Prop where
  ex : ∃ s', Tab n t s' l ∧ s' ≤ 8 ∧ (same = true → s' = s)
  ch : ∀ r ∈ l, chanOf r = some r
section
variable {T : Str → Option Fc}
theorem at0 {l x : List (List Rat)} {done ls : List (List (List Rat))} (e : (done ++ l :: ls).head? = some x) : atI ((done.map lookV) ++ [lookV l]) 0 = some (lookV x) := by
  refine atI_nat (j := 0) ?_
  cases done with
  | nil =>
    simp only [List.nil_append, List.head?_cons, Option.some.injEq] at e
    subst e; rfl
  | cons d ds =>
    simp only [List.cons_append, List.head?_cons, Option.some.injEq] at e
    subst e; rfl
theorem nl_for (hT : VeilLib T) {k n t s : Nat} {b : Bool} {x : List (List Rat)} {v : Val} {p : Addr} {h0 : Hep} {D0 : KD} {E : XE'} {pins : List (Addr × List Val)} (hpins : ∀ h, Sub h0 h → pinOk h pins) (np : h0 p = none) (cx : Ch n t b s x) (t0 : 0 < t) (n0 : 0 < n) (hn : n ≤ 300) (ht : t < 1000000) :
    ∀ (ls : List (List (List Rat))) (es : List D) (vs : List Val) (i : Nat) (done : List (List (List Rat))) {h : Hep} {z3 z4 z5 : Option Val}, D.tps es = ls.map tabD → Rds h0 es vs → (∀ l ∈ ls, Ch n t b s l) → (done ++ ls).head? = some x → done.length + ls.length ≤ 100 → Sub h0 h → h p = some (.lst (done.map lookV)) →
    (∀ h' z3 z4 z5, Sub h0 h' → h' p = some (.lst ((done ++ ls).map lookV)) → D0.nx [some v, some (.bl b), some (.ref p), z3, z4, z5] h') →
    forW (wSs (Calls T (k + 6)) c_nl_body) (bindT (.tc (.nm 3) (.tc (.nm 4) .tn))) pins D0 E (enumV i vs) [some v, some (.bl b), some (.ref p), z3, z4, z5] h
  | [], [], vs, i, done, h, z3, z4, z5, _, rd, hc, hx, hl, sb, hp, q => by
    have e : vs = [] := rd
    subst e
    refine ⟨hpins h sb, ?_⟩
    rw [List.append_nil] at q
    exact q h z3 z4 z5 sb hp
  | [], _ :: _, _, _, _, _, _, _, _, e, _, _, _, _, _, _, _ => by cases e
  | _ :: _, [], _, _, _, _, _, _, _, e, _, _, _, _, _, _, _ => by cases e
  | l :: ls, e :: es, vs, i, done, h, z3, z4, z5, et, ⟨v1, vs1, ev, rd, rds⟩, hc, hx, hl, sb, hp, q => by
    subst ev
    simp only [D.tps, List.map_cons, List.cons.injEq] at et
    obtain ⟨⟨s1, tl, s8, ss⟩, cl⟩ := hc l List.mem_cons_self
    obtain ⟨⟨sx, tx, sx8, ssx⟩, cx'⟩ := id cx
    have hat := at0 hx
    refine ⟨hpins h sb, ?_⟩
    refine lookN_ok hT (k := k) (rd.sub sb) et.1 tl cl t0 n0 (by omega) ?_ ht ?_
    · have := Nat.mul_le_mul_left (n + 2) s8; omega
    rw [List.length_cons] at hl
    have ln : (l.map rowV).length = (x.map rowV).length := by rw [List.length_map, List.length_map, tl.len, tx.len]
    obtain ⟨r, rs, er, el⟩ := lookV_head (h := h) tl t0
    obtain ⟨r', rs', er', el'⟩ := lookV_head (h := h) tx t0
    refine onJ_tup ?_
    refine newL_in fun p1 np1 => ?_
    have sp1 := (Sub.refl h).new (o := .lst [lookV l]) np1
    refine onL_in (sp1 _ _ hp) ?_
    refine onL_in hset_same ?_
    refine ⟨show _ < 1000000 by rw [List.length_map, List.length_cons, List.length_nil]; omega, ?_⟩
    refine newL_in fun p2 np2 => ?_
    have sp2 := sp1.trans ((Sub.refl _).new (o := .lst (done.map lookV ++ [lookV l])) np2)
    refine opIx_list hset_same hat ?_
    refine onJ_tup ?_
    refine ifF (by rw [ln]; simp) ?_
    have fin : ∀ h3, Sub h h3 → wSs (Calls T (k + 6)) (.cons (.expr (.mth .append (.var 2) (.cons (.var 5) .nil))) .nil) [some v, some (.bl b), some (.ref p), some (.int i), some v1, some (lookV l)] h3 { D0 with nx := fun e1 h1 => forW (wSs (Calls T (k + 6)) c_nl_body) (bindT (.tc (.nm 3) (.tc (.nm 4) .tn))) pins D0 E (enumV (i + 1) vs1) e1 h1, ct := fun e1 h1 => forW (wSs (Calls T (k + 6)) c_nl_body) (bindT (.tc (.nm 3) (.tc (.nm 4) .tn))) pins D0 E (enumV (i + 1) vs1) e1 h1, bk := D0.nx } E := by
      intro h3 s3
      have hp3 := s3 _ _ hp
      refine ⟨onL_in hp3 trivial, onL_in hp3 ⟨show (done.map lookV).length < 1000000 by rw [List.length_map]; omega, ?_⟩⟩
      refine nl_for hT hpins np cx t0 n0 hn ht ls es vs1 (i + 1) (done ++ [l]) et.2 rds (fun l hl => hc l (List.mem_cons_of_mem _ hl)) (by rw [List.append_assoc]; exact hx) (by rw [List.length_append, List.length_cons, List.length_nil]; omega) ((sb.trans s3).setNew np) (by rw [hset_same, List.map_append]; rfl) fun h' z3 z4 z5 s' hp' => ?_
      rw [List.append_assoc] at hp'
      exact q h' z3 z4 z5 s' hp'
    cases b with
    | false =>
      exact fin _ sp2
    | true =>
      refine opIx_tup (h := h) (v := rowV r) (by rw [er]; exact atI_nat (j := 0) rfl) ?_
      refine onJ_tup ?_
      refine newL_in fun p3 np3 => ?_
      have sp3 := sp2.trans ((Sub.refl _).new (o := .lst [lookV l]) np3)
      refine onL_in (sp3 _ _ hp) ?_
      refine onL_in hset_same ?_
      refine ⟨show _ < 1000000 by rw [List.length_map, List.length_cons, List.length_nil]; omega, ?_⟩
      refine newL_in fun p4 np4 => ?_
      have sp4 := sp3.trans ((Sub.refl _).new (o := .lst (done.map lookV ++ [lookV l])) np4)
      refine opIx_list hset_same hat ?_
      refine opIx_tup (h := h) (v := rowV r') (by rw [er']; exact atI_nat (j := 0) rfl) ?_
      refine onJ_tup ?_
      refine ifF (by rw [List.length_map, List.length_map, el, el', ss rfl, ssx rfl]; simp) ?_
      exact fin _ sp4
theorem need_list_ok (hT : VeilLib T) {k n t s : Nat} {b : Bool} {x : List (List Rat)} {ls : List (List (List Rat))} {v : Val} {d : D} {es : List D} {h : Hep} {Q : VQ} {E : XQ} (rd : Rd h d v) (ed : d.items = some es) (et : D.tps es = ls.map tabD) (cx : Ch n t b s x) (hc : ∀ l ∈ ls, Ch n t b s l) (hx : ls.head? = some x) (hl : ls.length ≤ 100) (t0 : 0 < t) (n0 : 0 < n) (hn : n ≤ 300) (ht : t < 1000000)
    (q : ∀ p h', Sub h h' → h' p = some (.lst (ls.map lookV)) → Q (.ref p) h') : Calls T (k + 7) "need_list" [v, .bl b] h Q E := by
  refine Calls_eq [some v, some (.bl b), none, none, none, none] hT.nli rfl rfl ?_
  refine is_list_ok hT.il (k := k + 5) rd ?_
  refine ifF (by rw [items_seq, ed]; rfl) ?_
  refine newL_in fun p np => ?_
  have sp := (Sub.refl h).new (o := .lst []) np
  obtain ⟨vs, i, rds⟩ := rd_its rd ed
  refine src_its2 i sp fun pins hp => ?_
  refine nl_for hT (p := p) (h0 := h) (x := x) (s := s) (n := n) (t := t) hp np cx t0 n0 hn ht ls es vs 0 [] et rds hc hx (by rw [List.length_nil]; omega) sp hset_same fun h' z3 z4 z5 s' hp' => ?_
  exact Dr.here (q p h' s' hp')
end
end KM
/-! KPH: one look of several, told. -/
namespace KM
open PySem PySem.Spec PyProof.Rows L2
/-- chances, and looks for each of them -/
structure Chosen (h : Hep) (v1 v2 : Val) (sh : List Rat) (ls : List (List (List Rat))) (n t : Nat) (same : Bool) (s : Nat) (x : List (List Rat)) : Prop where
  r1 : ∃ d1, Rd h d1 v1 ∧ d1.tp = rowD sh
  r2 : ∃ d2 es, Rd h d2 v2 ∧ d2.items = some es ∧ D.tps es = ls.map tabD
  cs : chanOf sh = some sh
  bs : ∀ y ∈ sh, Bd n y
  len : sh.length = ls.length
  l8 : ls.length ≤ 8
  hc : ∀ l ∈ ls, Ch n t same s l
  hx : ls.head? = some x
  t0 : 0 < t
  n0 : 0 < n
  ht : t ≤ 100
  hn : n ≤ 100
theorem rds_app {h : Hep} : ∀ {ds es : List D} {vs ws : List Val}, Rds h ds vs → Rds h es ws → Rds h (ds ++ es) (vs ++ ws)
  | [], es, vs, ws, r, r' => by rw [show vs = [] from r]; exact r'
  | d :: ds, es, _, ws, ⟨v, r, e, a, b⟩, r' => ⟨v, r ++ ws, by rw [e]; rfl, a, rds_app b r'⟩
section
variable {T : Str → Option Fc}
theorem need_choice_ok (hT : VeilLib T) {k n t s : Nat} {b : Bool} {x : List (List Rat)} {sh : List Rat} {ls : List (List (List Rat))} {v1 v2 : Val} {h : Hep} {Q : VQ} {E : XQ} (a : Chosen h v1 v2 sh ls n t b s x) (q : ∀ p h', Sub h h' → h' p = some (.lst (ls.map lookV)) → Q (.tup [rowV sh, .ref p]) h') : Calls T (k + 8) "need_choice" [v1, v2, .bl b] h Q E := by
  obtain ⟨d1, r1, e1⟩ := a.r1
  obtain ⟨d2, es, r2, ed, et⟩ := a.r2
  have len := a.len
  have l8 := a.l8
  refine Calls_eq [some v1, some v2, some (.bl b), none, none] hT.nch rfl rfl ?_
  have hn := a.hn
  refine chances_gen hT.toChanLib (k := k + 2) (n := n) r1 (by rw [wid_of e1]; have := wid_rowD sh; omega) a.n0 (by omega) (fun xs hx => ?_) ?_
  · rw [row_tp e1] at hx
    cases hx
    refine ⟨a.bs, ?_⟩
    have := Nat.mul_le_mul_left (n + 2) (show sh.length ≤ 8 by omega)
    omega
  rw [chances_tp e1 a.cs]
  refine is_list_ok hT.il (k := k + 6) r2 ?_
  refine ifT (by rw [items_seq, ed]; rfl) ?_
  obtain ⟨vs, i, rds⟩ := rd_its r2 ed
  have lv : vs.length = sh.length := by
    rw [rds.length]
    have := D.len_tps es
    rw [et, List.length_map] at this
    omega
  refine onJ_its i ?_
  refine onJ_tup ?_
  refine ifF (decide_eq_false (by rw [List.length_map, lv]; omega)) ?_
  have cx : Ch n t b s x := a.hc x (List.mem_of_mem_head? (by rw [a.hx]; exact rfl))
  refine need_list_ok hT (k := k) r2 ed et cx a.hc a.hx (by omega) a.t0 a.n0 (by omega) (by have := a.ht; omega) fun p h' s' hp => ?_
  refine onJ_ref hp ?_
  refine onJ_tup ?_
  refine ifF (decide_eq_false (by rw [List.length_map, List.length_map]; omega)) ?_
  exact Dr.here (q p h' s' hp)
/-- one row of the choice told -/
def toldRow (sh : List Rat) (ls : List (List (List Rat))) (i : Nat) : List Rat := ((sh.zip ls).map fun q => (q.2.getD i []).map (q.1 * ·)).flatten
def toldR (sh : List Rat) (ls : List (List (List Rat))) (t : Nat) : List (List Rat) := (List.range t).map (toldRow sh ls)
theorem row_at {l : List (List Rat)} {n t s i : Nat} (tl : Tab n t s l) (hi : i < t) : l[i]? = some (l.getD i []) ∧ l.getD i [] ∈ l := by
  have hi' : i < l.length := by rw [tl.len]; exact hi
  rw [List.getD_eq_getElem?_getD, List.getElem?_eq_getElem hi']
  exact ⟨rfl, List.getElem_mem hi'⟩
theorem to_in (hT : VeilLib T) {k n t s i : Nat} {b : Bool} {v0 v1 v2 : Val} {r : Addr} {hb : Hep} {D0 : KD} {E : XE'} {pins : List (Addr × List Val)} (hpins : ∀ h, Sub hb h → pinOk h pins) (nr : hb r = none) (hi : i < t) (n0 : 0 < n) (hn : n ≤ 100) :
    ∀ (sh : List Rat) (ls : List (List (List Rat))) (row : List Rat) {h : Hep} {z5 z6 z7 : Option Val}, (∀ y ∈ sh, Bd n y) → (∀ l ∈ ls, Ch n t b s l) → row.length + 8 * ls.length ≤ 100 → Sub hb h → h r = some (.lst (row.map fr)) →
    (∀ h' z5 z6 z7, Sub hb h' → h' r = some (.lst ((row ++ toldRow sh ls i).map fr)) → D0.nx [some v0, some v1, some v2, some (.int i), some (.ref r), z5, z6, z7] h') →
    forW (wSs (Calls T (k + 3)) c_to_in) (bindT (.tc (.nm 5) (.tc (.nm 6) .tn))) pins D0 E (zipV (sh.map fr) (ls.map lookV)) [some v0, some v1, some v2, some (.int i), some (.ref r), z5, z6, z7] h
  | [], ls, row, h, z5, z6, z7, bs, hc, hl, sb, hr, q => by
    refine ⟨hpins h sb, ?_⟩
    refine q h z5 z6 z7 sb ?_
    show h r = some (.lst ((row ++ []).map fr))
    rw [List.append_nil]
    exact hr
  | y :: sh, [], row, h, z5, z6, z7, bs, hc, hl, sb, hr, q => by
    refine ⟨hpins h sb, ?_⟩
    refine q h z5 z6 z7 sb ?_
    show h r = some (.lst ((row ++ []).map fr))
    rw [List.append_nil]
    exact hr
  | y :: sh, l :: ls, row, h, z5, z6, z7, bs, hc, hl, sb, hr, q => by
    rw [List.length_cons] at hl
    obtain ⟨⟨s1, tl, s8, _⟩, cl⟩ := hc l List.mem_cons_self
    obtain ⟨ra, rm⟩ := row_at tl hi
    have rl : (l.getD i []).length = s1 := tl.lens _ rm
    refine ⟨hpins h sb, ?_⟩
    refine ⟨onL_in hr trivial, ?_⟩
    refine opIx_tup (h := h) (xs := l.map rowV) (v := rowV (l.getD i [])) (atI_nat (by rw [List.getElem?_map, ra]; rfl)) ?_
    refine src_tupI ?_
    refine ⟨show ((l.getD i []).map fr).length < 1000000 by rw [List.length_map, rl]; omega, ?_⟩
    refine lc_map (pins := []) (g := fun x => fr (y * x)) trivial (fun x hx K kk => ?_) ?_
    · exact times_ok hT.wl.toRedLib hT.wl.ti (k := k) (n := n) n0 (by omega) (bs y List.mem_cons_self) (tl.bd _ rm x hx) kk
    · refine newL_in fun p np => ?_
      have sp := (Sub.refl h).new (o := .lst ((l.getD i []).map fun x => fr (y * x))) np
      refine onL_in (sp _ _ hr) (onL_in hset_same ⟨show _ < 1000000 by rw [List.length_map, List.length_map, rl]; omega, ?_⟩)
      refine to_in hT hpins nr hi n0 hn sh ls (row ++ (l.getD i []).map (y * ·)) (fun z hz => bs z (List.mem_cons_of_mem _ hz)) (fun z hz => hc z (List.mem_cons_of_mem _ hz)) (by rw [List.length_append, List.length_map, rl]; omega) ((sb.trans sp).setNew nr) (by rw [hset_same, List.map_append, List.map_map]; rfl) fun h' z5 z6 z7 s' hr' => ?_
      refine q h' z5 z6 z7 s' ?_
      rw [hr', List.append_assoc]
      rfl
theorem toldRow_len {n t s i : Nat} {b : Bool} (hi : i < t) : ∀ (sh : List Rat) (ls : List (List (List Rat))), (∀ l ∈ ls, Ch n t b s l) → (toldRow sh ls i).length ≤ 8 * ls.length
  | [], ls, _ => by show 0 ≤ _; omega
  | y :: sh, [], _ => by show 0 ≤ _; omega
  | y :: sh, l :: ls, hc => by
    obtain ⟨⟨s1, tl, s8, _⟩, cl⟩ := hc l List.mem_cons_self
    obtain ⟨ra, rm⟩ := row_at tl hi
    have := toldRow_len hi sh ls fun z hz => hc z (List.mem_cons_of_mem _ hz)
    show ((l.getD i []).map (y * ·) ++ toldRow sh ls i).length ≤ _
    rw [List.length_append, List.length_map, tl.lens _ rm, List.length_cons]
    omega
theorem to_out (hT : VeilLib T) {k n t s : Nat} {b : Bool} {sh : List Rat} {ls : List (List (List Rat))} {p pl : Addr} {h0 : Hep} {D0 : KD} {E : XE'} (bs : ∀ y ∈ sh, Bd n y) (hc : ∀ l ∈ ls, Ch n t b s l) (l8 : ls.length ≤ 8) (n0 : 0 < n) (hn : n ≤ 100) (np : h0 p = none) (hpl : h0 pl = some (.lst (ls.map lookV))) :
    ∀ (js : List Nat) (done : List (List Rat)) {h : Hep} {z3 z4 z5 z6 z7 : Option Val}, (∀ j ∈ js, j < t) → done.length + js.length ≤ 1000 → Sub h0 h → h p = some (.lst (done.map rowV)) →
    (∀ h' z3 z4 z5 z6 z7, Sub h0 h' → h' p = some (.lst ((done ++ js.map (toldRow sh ls)).map rowV)) → D0.nx [some (rowV sh), some (.ref pl), some (.ref p), z3, z4, z5, z6, z7] h') →
    forW (wSs (Calls T (k + 3)) c_to_out) (bindT (.nm 3)) [] D0 E (js.map fun j => Val.int (j : Nat)) [some (rowV sh), some (.ref pl), some (.ref p), z3, z4, z5, z6, z7] h
  | [], done, h, z3, z4, z5, z6, z7, hj, hl, sb, hp, q => by
    refine ⟨trivial, ?_⟩
    refine q h z3 z4 z5 z6 z7 sb ?_
    rw [List.map_nil, List.append_nil]
    exact hp
  | j :: js, done, h, z3, z4, z5, z6, z7, hj, hl, sb, hp, q => by
    rw [List.length_cons] at hl
    refine ⟨trivial, ?_⟩
    refine newL_in fun r nr => ?_
    have sp := (Sub.refl h).new (o := .lst []) nr
    refine src_tupI ?_
    have hpl' := sb _ _ hpl
    refine src_refI (sp _ _ hpl') ?_
    refine to_in hT (hb := h) (r := r) (t := t) (pins := [(pl, ls.map lookV)]) (fun h' s' => ⟨s' _ _ hpl', trivial⟩) nr (hj j List.mem_cons_self) n0 hn sh ls [] bs hc (by rw [List.length_nil]; omega) sp hset_same fun h1 z5 z6 z7 s1 hr => ?_
    have hp1 := s1 _ _ hp
    refine ⟨onL_in hp1 trivial, onJ_ref hr (onL_in hp1 ⟨show (done.map rowV).length < 1000000 by rw [List.length_map]; omega, ?_⟩)⟩
    refine to_out hT bs hc l8 n0 hn np hpl js (done ++ [toldRow sh ls j]) (fun z hz => hj z (List.mem_cons_of_mem _ hz)) (by rw [List.length_append, List.length_cons, List.length_nil]; omega) ((sb.trans s1).setNew np) (by rw [hset_same, List.nil_append, List.map_append]; rfl) fun h' z3 z4 z5 z6 z7 s' hp' => ?_
    refine q h' z3 z4 z5 z6 z7 s' ?_
    rw [hp', List.append_assoc]
    rfl
theorem told_of_ok (hT : VeilLib T) {k n t s : Nat} {b : Bool} {x : List (List Rat)} {sh : List Rat} {ls : List (List (List Rat))} {pl : Addr} {h : Hep} {Q : VQ} {E : XQ} (hpl : h pl = some (.lst (ls.map lookV))) (bs : ∀ y ∈ sh, Bd n y) (hc : ∀ l ∈ ls, Ch n t b s l) (hx : ls.head? = some x) (l8 : ls.length ≤ 8) (ht : t ≤ 100) (n0 : 0 < n) (hn : n ≤ 100)
    (q : Q (lookV (toldR sh ls t)) h) : Calls T (k + 4) "told_of" [rowV sh, .ref pl] h Q E := by
  refine Calls_eq [some (rowV sh), some (.ref pl), none, none, none, none, none, none] hT.tof rfl rfl ?_
  have cx : Ch n t b s x := hc x (List.mem_of_mem_head? (by rw [hx]; exact rfl))
  obtain ⟨⟨sx, tx, _, _⟩, _⟩ := cx
  refine newL_in fun p np => ?_
  have sp := (Sub.refl h).new (o := .lst []) np
  refine opIx_list (sp _ _ hpl) (v := lookV x) (atI_nat (j := 0) ?_) ?_
  · rw [List.getElem?_map]
    cases ls with
    | nil => cases hx
    | cons l ls => cases hx; rfl
  refine onJ_tup ?_
  have lx : (x.map rowV).length = t := by rw [List.length_map, tx.len]
  rw [lx]
  refine ⟨⟨by omega, by omega⟩, ?_⟩
  have e1 : rngV 0 ((t : Int)).toNat = (List.range t).map fun j => Val.int (j : Nat) := by
    rw [List.range_eq_range', show ((t : Int)).toNat = t from rfl]
    exact rngV_map t 0
  show forW _ _ _ _ _ (rngV 0 ((t : Int)).toNat) _ _
  rw [e1]
  refine to_out hT (h0 := h) bs hc l8 n0 hn np hpl (List.range t) [] (fun j hj => List.mem_range.mp hj) (by rw [List.length_range, List.length_nil]; omega) sp hset_same fun h' z3 z4 z5 z6 z7 s' hp' => ?_
  refine onJ_ref hp' ?_
  exact ⟨h, s', q⟩
theorem told_choice_ok (hT : VeilLib T) {k n t s : Nat} {x : List (List Rat)} {sh : List Rat} {ls : List (List (List Rat))} {v1 v2 : Val} {h : Hep} {Q : VQ} {E : XQ} (a : Chosen h v1 v2 sh ls n t false s x) (q : ∀ v h', Sub h h' → Rd h' (tabL (toldR sh ls t)) v → Q v h') : Calls T (k + 9) "told_choice" [v1, v2] h Q E := by
  refine Calls_eq [some v1, some v2, none, none] hT.tc rfl rfl ?_
  refine need_choice_ok hT (k := k) a fun p h1 s1 hp => ?_
  refine told_of_ok hT (k := k + 4) hp a.bs a.hc a.hx a.l8 a.ht a.n0 a.hn ?_
  refine told_ok hT.tl (k := k + 7) (by unfold toldR; rw [List.length_map, List.length_range]; have := a.ht; omega) fun v h' s' rd => ?_
  exact Dr.here (q v h' (s1.trans s') rd)
/-! ### hidden -/
def hidRow (sh : List Rat) (ls : List (List (List Rat))) (s i : Nat) : List Rat := (colsR s (ls.map fun l => l.getD i [])).map fun col => dotR sh col
def hidR (sh : List Rat) (ls : List (List (List Rat))) (s t : Nat) : List (List Rat) := (List.range t).map (hidRow sh ls s)
theorem hid_tab {n t s i : Nat} {ls : List (List (List Rat))} (hi : i < t) (hc : ∀ l ∈ ls, Ch n t true s l) : Tab n ls.length s (ls.map fun l => l.getD i []) where
  len := by rw [List.length_map]
  lens := fun r hr => by
    obtain ⟨l, hl, rfl⟩ := List.mem_map.mp hr
    obtain ⟨⟨s1, tl, s8, e⟩, cl⟩ := hc l hl
    rw [tl.lens _ (row_at tl hi).2, e rfl]
  bd := fun r hr => by
    obtain ⟨l, hl, rfl⟩ := List.mem_map.mp hr
    obtain ⟨⟨s1, tl, s8, e⟩, cl⟩ := hc l hl
    exact tl.bd _ (row_at tl hi).2
theorem hi_out (hT : VeilLib T) {k n t s : Nat} {sh : List Rat} {ls : List (List (List Rat))} {v0 v1 : Val} {p pl : Addr} {h0 : Hep} {D0 : KD} {E : XE'} (bs : ∀ y ∈ sh, Bd n y) (hc : ∀ l ∈ ls, Ch n t true s l) (ln : sh.length ≤ 8) (l8 : ls.length ≤ 8) (l0 : 0 < ls.length) (s8 : s ≤ 8) (n0 : 0 < n) (hn : n ≤ 100) (np : h0 p = none) (hpl : h0 pl = some (.lst (ls.map lookV))) :
    ∀ (js : List Nat) (done : List (List Rat)) (vs : List Val) {h : Hep} {z5 z6 z7 z8 z9 z10 : Option Val}, (∀ j ∈ js, j < t) → vs.length + js.length ≤ 1000 → Sub h0 h → h p = some (.lst vs) → Rds h (done.map rowL) vs → (∀ o, Rds (hset h p o) (done.map rowL) vs) →
    (∀ h' vs' z5 z6 z7 z8 z9 z10, Sub h0 h' → h' p = some (.lst vs') → Rds h' ((done ++ js.map (hidRow sh ls s)).map rowL) vs' → D0.nx [some v0, some v1, some (rowV sh), some (.ref pl), some (.ref p), z5, z6, z7, z8, z9, z10] h') →
    forW (wSs (Calls T (k + 5)) c_hi_out) (bindT (.nm 5)) [] D0 E (js.map fun j => Val.int (j : Nat)) [some v0, some v1, some (rowV sh), some (.ref pl), some (.ref p), z5, z6, z7, z8, z9, z10] h
  | [], done, vs, h, z5, z6, z7, z8, z9, z10, hj, hl, sb, hp, rd, _, q => by
    refine ⟨trivial, ?_⟩
    refine q h vs z5 z6 z7 z8 z9 z10 sb hp ?_
    rw [List.map_nil, List.append_nil]
    exact rd
  | j :: js, done, vs, h, z5, z6, z7, z8, z9, z10, hj, hl, sb, hp, rd, rdp, q => by
    rw [List.length_cons] at hl
    have hjt := hj j List.mem_cons_self
    have tb := hid_tab hjt hc
    refine ⟨trivial, ?_⟩
    have hpl' := sb _ _ hpl
    refine src_refI hpl' ?_
    refine ⟨show (ls.map lookV).length < 1000000 by rw [List.length_map]; omega, ?_⟩
    refine lc_map (pins := [(pl, ls.map lookV)]) (g := fun l : List (List Rat) => rowV (l.getD j [])) ⟨hpl', trivial⟩ (fun l hl K kk => ?_) ?_
    · obtain ⟨⟨s1, tl, _, _⟩, cl⟩ := hc l hl
      exact opIx_tup (h := h) (xs := l.map rowV) (v := rowV (l.getD j [])) (atI_nat (by rw [List.getElem?_map, (row_at tl hjt).1]; rfl)) kk
    refine newL_in fun p1 np1 => ?_
    have sp1 := (Sub.refl h).new (o := .lst (ls.map fun l => rowV (l.getD j []))) np1
    refine onJ_ref hset_same ?_
    have e1 : Val.tup (ls.map fun l => rowV (l.getD j [])) = lookV (ls.map fun l => l.getD j []) := by unfold lookV; rw [List.map_map]; rfl
    rw [e1]
    obtain ⟨r, rs, er, el⟩ := lookV_head (h := h) tb l0
    refine columns_ok hT.wl.co (k := k + 4) er tb.lens (by rw [tb.len]; omega) (by omega) ?_
    refine newL_in fun p2 np2 => ?_
    have sp2 := sp1.trans ((Sub.refl _).new (o := .lst ((colsR s (ls.map fun l => l.getD j [])).map rowV)) np2)
    have hp2 := sp2 _ _ hp
    refine ⟨onL_in hp2 trivial, ?_⟩
    refine src_refI hset_same ?_
    refine ⟨show ((colsR s (ls.map fun l => l.getD j [])).map rowV).length < 1000000 by rw [List.length_map, tb.cols.len]; omega, ?_⟩
    refine lc_mapU (pins := [(p2, (colsR s (ls.map fun l => l.getD j [])).map rowV)]) (f := rowV) (g := fun col => fr (dotR sh col)) (fun h' s' => ⟨s' _ _ hset_same, trivial⟩) (fun h' s' col hcol K kk => ?_) (fun h3 s3 => ?_)
    · refine src_tupI ?_
      refine src_tupI ?_
      show Sm (zipV (sh.map fr) (col.map fr)).length ∧ lcW _ _ _ _ _ _ (zipV (sh.map fr) (col.map fr)) [] h'
      rw [zipV_map]
      refine ⟨show (_ : Nat) < 1000000 by rw [List.length_map, List.length_zip]; omega, ?_⟩
      refine lc_map (pins := []) (g := fun p => fr (p.1 * p.2)) trivial (fun q hm K1 kk1 => ?_) ?_
      · have mm := zip_mem hm
        exact times_ok hT.wl.toRedLib hT.wl.ti (k := k + 2) (n := n) n0 (by omega) (bs _ mm.1) (tb.cols.bd col hcol _ mm.2) kk1
      · rw [← zipWith_map]
        refine newL_in fun p3 np3 => ?_
        have l3 : (List.zipWith (· * ·) sh col).length ≤ 8 := by rw [List.length_zipWith]; omega
        refine total_ok hT.wl.toSumLib (k := k + 1) (n := n + n + 1) (.inr ⟨p3, rfl, hset_same⟩) (by omega) (zipWith_bd bs (tb.cols.bd col hcol)) (by have := Nat.mul_le_mul_left (n + n + 1 + 2) l3; omega) (by omega) ?_
        exact kk _ ((Sub.refl h').new np3)
    · refine newL_in fun p4 np4 => ?_
      have sp4 := sp2.trans (s3.trans ((Sub.refl h3).new (o := .lst ((colsR s (ls.map fun l => l.getD j [])).map fun col => fr (dotR sh col))) np4))
      have hp4 := sp4 _ _ hp
      have p4p : p4 ≠ p := fun z => by rw [z] at np4; have := s3 _ _ (sp2 _ _ hp); rw [np4] at this; cases this
      refine onL_in hp4 ⟨show vs.length < 1000000 by omega, ?_⟩
      have rnew : ∀ o, Rd (hset (hset h3 p4 (.lst ((colsR s (ls.map fun l => l.getD j [])).map fun col => fr (dotR sh col)))) p o) (rowL (hidRow sh ls s j)) (.ref p4) := fun o => rowL_in (by
        rw [hset_ne p4p, hset_same]
        unfold hidRow
        rw [List.map_map]
        rfl)
      have rold : ∀ o, Rds (hset (hset h3 p4 (.lst ((colsR s (ls.map fun l => l.getD j [])).map fun col => fr (dotR sh col)))) p o) (done.map rowL) vs := fun o => Rds.sub (sp4.set p o) (rdp o)
      have both : ∀ o, Rds (hset (hset h3 p4 (.lst ((colsR s (ls.map fun l => l.getD j [])).map fun col => fr (dotR sh col)))) p o) ((done ++ [hidRow sh ls s j]).map rowL) (vs ++ [.ref p4]) := fun o => by
        rw [List.map_append]
        exact rds_app (rold o) (Rds.cons (rnew o) rfl)
      refine hi_out hT bs hc ln l8 l0 s8 n0 hn np hpl js (done ++ [hidRow sh ls s j]) (vs ++ [.ref p4]) (fun z hz => hj z (List.mem_cons_of_mem _ hz)) (by rw [List.length_append, List.length_cons, List.length_nil]; omega) ((sb.trans sp4).setNew np) hset_same (both _) (fun o => by rw [hset_hset]; exact both o) fun h' vs' z5 z6 z7 z8 z9 z10 s' hp' rd' => ?_
      refine q h' vs' z5 z6 z7 z8 z9 z10 s' hp' ?_
      rw [List.append_assoc] at rd'
      exact rd'
theorem hidden_ok (hT : VeilLib T) {k n t s : Nat} {x : List (List Rat)} {sh : List Rat} {ls : List (List (List Rat))} {v1 v2 : Val} {h : Hep} {Q : VQ} {E : XQ} (a : Chosen h v1 v2 sh ls n t true s x) (s8 : s ≤ 8) (q : ∀ v h', Sub h h' → Rd h' (tabL (hidR sh ls s t)) v → Q v h') : Calls T (k + 9) "hidden_choice" [v1, v2] h Q E := by
  refine Calls_eq [some v1, some v2, none, none, none, none, none, none, none, none, none] hT.hc rfl rfl ?_
  have cx : Ch n t true s x := a.hc x (List.mem_of_mem_head? (by rw [a.hx]; exact rfl))
  obtain ⟨⟨sx, tx, _, _⟩, _⟩ := cx
  have ht := a.ht
  refine need_choice_ok hT (k := k) a fun p h1 s1 hp => ?_
  refine newL_in fun p1 np1 => ?_
  have sp := (Sub.refl h1).new (o := .lst []) np1
  refine opIx_list (sp _ _ hp) (v := lookV x) (atI_nat (j := 0) ?_) ?_
  · rw [List.getElem?_map]
    have hx := a.hx
    cases ls with
    | nil => cases hx
    | cons l ls => cases hx; rfl
  refine onJ_tup ?_
  have lx : (x.map rowV).length = t := by rw [List.length_map, tx.len]
  rw [lx]
  refine ⟨⟨by omega, by omega⟩, ?_⟩
  have e1 : rngV 0 ((t : Int)).toNat = (List.range t).map fun j => Val.int (j : Nat) := by
    rw [List.range_eq_range', show ((t : Int)).toNat = t from rfl]
    exact rngV_map t 0
  show forW _ _ _ _ _ (rngV 0 ((t : Int)).toNat) _ _
  rw [e1]
  have l0 : 0 < ls.length := by
    have hx := a.hx
    cases ls with
    | nil => cases hx
    | cons l ls => rw [List.length_cons]; omega
  have len := a.len
  have l8 := a.l8
  refine hi_out hT (h0 := h1) a.bs a.hc (by omega) a.l8 l0 s8 a.n0 a.hn np1 hp (List.range t) [] [] (fun j hj => List.mem_range.mp hj) (by rw [List.length_range, List.length_nil]; omega) sp hset_same rfl (fun _ => rfl) fun h' vs' z5 z6 z7 z8 z9 z10 s' hp' rd' => ?_
  exact Dr.here (q _ h' (s1.trans s') ⟨p1, vs', rfl, hp', rd'⟩)
end
end KM
/-! KPM: sums and greatest ones, the mathematics of worths. -/
namespace KM
/-- the sum of the first n -/
def S : Nat → (Nat → Rat) → Rat
  | 0, _ => 0
  | n + 1, f => S n f + f n
theorem S_congr {f g : Nat → Rat} : ∀ {n : Nat}, (∀ i, i < n → f i = g i) → S n f = S n g
  | 0, _ => rfl
  | n + 1, h => by rw [S, S, S_congr fun i hi => h i (by omega), h n (by omega)]
theorem S_add {f g : Nat → Rat} : ∀ {n : Nat}, S n (fun i => f i + g i) = S n f + S n g
  | 0 => by show (0 : Rat) = 0 + 0; rw [Rat.add_zero]
  | n + 1 => by rw [S, S, S, S_add]; grind
theorem S_mul {a : Rat} {f : Nat → Rat} : ∀ {n : Nat}, S n (fun i => a * f i) = a * S n f
  | 0 => by simp [S]
  | n + 1 => by rw [S, S, S_mul]; grind
theorem S_mulr {a : Rat} {f : Nat → Rat} {n : Nat} : S n (fun i => f i * a) = S n f * a := by
  rw [Rat.mul_comm, ← S_mul]
  exact S_congr fun i _ => Rat.mul_comm _ _
theorem S_le {f g : Nat → Rat} : ∀ {n : Nat}, (∀ i, i < n → f i ≤ g i) → S n f ≤ S n g
  | 0, _ => Rat.le_refl
  | n + 1, h => by
    have a := S_le (n := n) fun i hi => h i (by omega)
    have b := h n (by omega)
    rw [S, S]
    grind
theorem S_nn {f : Nat → Rat} : ∀ {n : Nat}, (∀ i, i < n → 0 ≤ f i) → 0 ≤ S n f
  | 0, _ => Rat.le_refl
  | n + 1, h => by
    have a := S_nn (n := n) fun i hi => h i (by omega)
    have b := h n (by omega)
    rw [S]
    grind
theorem S_zero {n : Nat} : S n (fun _ => 0) = 0 := by
  induction n with
  | zero => rfl
  | succ n ih => rw [S, ih, Rat.add_zero]
theorem S_swap {f : Nat → Nat → Rat} {m : Nat} : ∀ {n : Nat}, S n (fun i => S m (fun j => f i j)) = S m (fun j => S n (fun i => f i j))
  | 0 => by simp [S, S_zero]
  | n + 1 => by
    rw [S, S_swap, ← S_add]
    rfl
theorem S_all0 {f : Nat → Rat} : ∀ {n : Nat}, (∀ i, i < n → 0 ≤ f i) → S n f = 0 → ∀ i, i < n → f i = 0
  | n + 1, h, e, i, hi => by
    have a := S_nn (n := n) fun i hi => h i (by omega)
    have b := h n (by omega)
    rw [S] at e
    have c : S n f = 0 := by grind
    rcases Nat.lt_succ_iff_lt_or_eq.mp hi with hi | rfl
    · exact S_all0 (fun i hi => h i (by omega)) c i hi
    · grind
theorem S_split {f : Nat → Rat} {n : Nat} : ∀ {m : Nat}, S (n + m) f = S n f + S m (fun i => f (n + i))
  | 0 => by show S n f = S n f + 0; rw [Rat.add_zero]
  | m + 1 => by
    rw [← Nat.add_assoc, S, S, S_split]
    grind
theorem S_one {f : Nat → Rat} {n i : Nat} (hi : i < n) : S n (fun j => (if j = i then 1 else 0) * f j) = f i := by
  induction n with
  | zero => omega
  | succ n ih =>
    rw [S]
    rcases Nat.lt_succ_iff_lt_or_eq.mp hi with h | rfl
    · rw [ih h, if_neg (by omega)]
      grind
    · have : S i (fun j => (if j = i then 1 else 0) * f j) = 0 := by
        exact (S_congr fun j hj => by rw [if_neg (by omega), Rat.zero_mul]).trans S_zero
      rw [this, if_pos rfl]
      grind
theorem sumR_app : ∀ xs ys : List Rat, sumR (xs ++ ys) = sumR xs + sumR ys
  | [], ys => by show _ = 0 + _; rw [Rat.zero_add]; rfl
  | x :: xs, ys => by
    show x + sumR (xs ++ ys) = x + sumR xs + _
    rw [sumR_app xs ys, Rat.add_assoc]
theorem sumR_range {f : Nat → Rat} : ∀ n : Nat, sumR ((List.range n).map f) = S n f
  | 0 => rfl
  | n + 1 => by
    rw [List.range_succ, List.map_append, sumR_app, sumR_range n]
    show _ + (f n + 0) = _
    rw [Rat.add_zero]
    rfl
theorem list_range {α : Type} (d : α) (xs : List α) : xs = (List.range xs.length).map fun i => xs.getD i d := by
  refine List.ext_getElem (by simp) fun i h1 h2 => ?_
  simp [List.getD_eq_getElem?_getD, h1]
theorem sumR_S {n : Nat} {xs : List Rat} (l : xs.length = n) : sumR xs = S n (fun i => xs.getD i 0) := by
  subst l
  rw [← sumR_range, ← list_range]
theorem zip_getD {xs ys : List Rat} {i : Nat} (h1 : i < xs.length) (h2 : i < ys.length) : (mulR xs ys).getD i 0 = xs.getD i 0 * ys.getD i 0 := by
  unfold mulR
  have h3 : i < (List.zipWith (· * ·) xs ys).length := by rw [List.length_zipWith]; omega
  rw [List.getD_eq_getElem?_getD, List.getD_eq_getElem?_getD, List.getD_eq_getElem?_getD, List.getElem?_eq_getElem h1, List.getElem?_eq_getElem h2, List.getElem?_eq_getElem h3, List.getElem_zipWith]
  rfl
theorem dotR_S {n : Nat} {xs ys : List Rat} (l : xs.length = n) (l2 : ys.length = n) : dotR xs ys = S n (fun i => xs.getD i 0 * ys.getD i 0) := by
  show sumR (mulR xs ys) = _
  rw [sumR_S (n := n) (by unfold mulR; rw [List.length_zipWith]; omega)]
  exact S_congr fun i hi => zip_getD (by omega) (by omega)
/-! ### greatest -/
theorem topR_ge : ∀ (xs : List Rat) (a : Rat), a ≤ topR a xs ∧ ∀ x ∈ xs, x ≤ topR a xs
  | [], a => ⟨Rat.le_refl, fun _ h => by cases h⟩
  | y :: ys, a => by
    show a ≤ topR (if a < y then y else a) ys ∧ _
    have ⟨h1, h2⟩ := topR_ge ys (if a < y then y else a)
    refine ⟨?_, fun x hx => ?_⟩
    · split at h1 <;> grind
    · show x ≤ topR (if a < y then y else a) ys
      rcases List.mem_cons.mp hx with rfl | hx
      · split at h1 <;> grind
      · exact h2 x hx
theorem maxR_ge {xs : List Rat} {x : Rat} (h : x ∈ xs) : x ≤ maxR xs := (topR_ge xs _).2 x h
theorem maxR_mem {xs : List Rat} (h : xs ≠ []) : maxR xs ∈ xs := by
  cases xs with
  | nil => exact (h rfl).elim
  | cons x xs =>
    rcases topR_mem (x :: xs) x with e | e
    · show topR x (x :: xs) ∈ _; rw [e]; exact List.mem_cons_self
    · exact e
/-- what a deed brings by weights -/
def dd (t : Nat) (u : Nat → Rat) (w : List Rat) : Rat := S t (fun i => u i * w.getD i 0)
/-- the greatest that a deed brings -/
def M (wish : List (List Rat)) (t : Nat) (u : Nat → Rat) : Rat := maxR (wish.map (dd t u))
theorem M_ge {wish : List (List Rat)} {t : Nat} {u : Nat → Rat} {w : List Rat} (h : w ∈ wish) : dd t u w ≤ M wish t u := maxR_ge (List.mem_map.mpr ⟨w, h, rfl⟩)
theorem M_at {wish : List (List Rat)} {t : Nat} {u : Nat → Rat} (h : wish ≠ []) : ∃ w ∈ wish, M wish t u = dd t u w := by
  have := maxR_mem (xs := wish.map (dd t u)) (by simpa using h)
  obtain ⟨w, hw, e⟩ := List.mem_map.mp this
  exact ⟨w, hw, e.symm⟩
theorem dd_congr {t : Nat} {u v : Nat → Rat} {w : List Rat} (h : ∀ i, i < t → u i = v i) : dd t u w = dd t v w := S_congr fun i hi => by rw [h i hi]
theorem M_congr {wish : List (List Rat)} {t : Nat} {u v : Nat → Rat} (h : ∀ i, i < t → u i = v i) : M wish t u = M wish t v := by
  unfold M
  congr 1
  exact List.map_congr_left fun w _ => dd_congr h
theorem dd_sum {t m : Nat} {u : Nat → Rat} {a : Nat → Rat} {v : Nat → Nat → Rat} {w : List Rat} (h : ∀ i, i < t → u i = S m (fun j => a j * v j i)) : dd t u w = S m (fun j => a j * dd t (v j) w) := by
  unfold dd
  rw [S_congr (g := fun i => S m (fun j => a j * v j i * w.getD i 0)) fun i hi => by rw [h i hi, S_mulr]]
  rw [S_swap]
  refine S_congr fun j _ => ?_
  rw [← S_mul]
  exact S_congr fun i _ => by grind
theorem M_sub {wish : List (List Rat)} {t m : Nat} {u : Nat → Rat} {a : Nat → Rat} {v : Nat → Nat → Rat} (ne : wish ≠ []) (h : ∀ i, i < t → u i = S m (fun j => a j * v j i)) (a0 : ∀ j, j < m → 0 ≤ a j) : M wish t u ≤ S m (fun j => a j * M wish t (v j)) := by
  obtain ⟨w, hw, e⟩ := M_at (t := t) (u := u) ne
  rw [e, dd_sum h]
  exact S_le fun j hj => Rat.mul_le_mul_of_nonneg_left (M_ge hw) (a0 j hj)
theorem M_scale {wish : List (List Rat)} {t : Nat} {u v : Nat → Rat} {p : Rat} (ne : wish ≠ []) (p0 : 0 ≤ p) (h : ∀ i, i < t → u i = p * v i) : M wish t u = p * M wish t v := by
  have a := M_sub (t := t) (u := u) (m := 1) (a := fun _ => p) (v := fun _ => v) ne (fun i hi => by rw [h i hi]; show _ = 0 + p * v i; rw [Rat.zero_add]) (fun _ _ => p0)
  obtain ⟨w, hw, e⟩ := M_at (t := t) (u := v) ne
  have b : dd t u w = p * dd t v w := by
    unfold dd
    rw [← S_mul]
    exact S_congr fun i hi => by rw [h i hi]; grind
  have c := M_ge (t := t) (u := u) hw
  rw [b, ← e] at c
  simp only [S] at a
  grind
/-! ### worths -/
/-- the worth behind a look, by numbers -/
def W (wish : List (List Rat)) (t s : Nat) (c : Nat → Rat) (L : Nat → Nat → Rat) : Rat := S s (fun j => M wish t (fun i => c i * L i j))
theorem W_congr {wish : List (List Rat)} {t s : Nat} {c c' : Nat → Rat} {L L' : Nat → Nat → Rat} (h : ∀ i, i < t → c i = c' i) (h' : ∀ i j, i < t → j < s → L i j = L' i j) : W wish t s c L = W wish t s c' L' :=
  S_congr fun j hj => M_congr fun i hi => by rw [h i hi, h' i j hi hj]
theorem W_ahead {wish : List (List Rat)} {t s : Nat} {c : Nat → Rat} {L : Nat → Nat → Rat} (ne : wish ≠ []) (hL : ∀ i, i < t → S s (L i) = 1) : M wish t c ≤ W wish t s c L := by
  have := M_sub (wish := wish) (t := t) (m := s) (u := c) (a := fun _ => 1) (v := fun j i => c i * L i j) ne (fun i hi => ?_) (fun _ _ => by decide)
  · refine Rat.le_trans this ?_
    rw [S_mul, Rat.one_mul]
    exact Rat.le_refl
  · rw [S_mul, S_mul, hL i hi, Rat.mul_one, Rat.one_mul]
def dl (i j : Nat) : Rat := if j = i then 1 else 0
theorem W_full {wish : List (List Rat)} {t s : Nat} {c : Nat → Rat} {L : Nat → Nat → Rat} (ne : wish ≠ []) (hL : ∀ i, i < t → S s (L i) = 1) (nn : ∀ i j, i < t → j < s → 0 ≤ L i j) : W wish t s c L ≤ W wish t t c dl := by
  have a : ∀ j, j < s → M wish t (fun i => c i * L i j) ≤ S t (fun k => L k j * M wish t (fun i => c i * dl i k)) := fun j hj =>
    M_sub ne (fun i hi => by
      show c i * L i j = S t fun k => L k j * (c i * dl i k)
      refine ((S_one (f := fun k => L k j * c i) hi).symm.trans ?_ |> (Rat.mul_comm _ _).trans)
      exact S_congr fun k _ => by
        show _ = L k j * (c i * (if k = i then 1 else 0))
        by_cases e : k = i
        · subst e; grind
        · rw [if_neg e]; grind) (fun k hk => nn k j hk hj)
  refine Rat.le_trans (S_le a) ?_
  rw [S_swap]
  unfold W
  refine S_le fun k hk => ?_
  rw [S_mulr, hL k hk, Rat.one_mul]
  exact Rat.le_refl
theorem W_veil {wish : List (List Rat)} {t s m : Nat} {c : Nat → Rat} {L V : Nat → Nat → Rat} (ne : wish ≠ []) (hV : ∀ j, j < s → S m (V j) = 1) (nn : ∀ j k, j < s → k < m → 0 ≤ V j k) : W wish t m c (fun i k => S s (fun j => L i j * V j k)) ≤ W wish t s c L := by
  have a : ∀ k, k < m → M wish t (fun i => c i * S s (fun j => L i j * V j k)) ≤ S s (fun j => V j k * M wish t (fun i => c i * L i j)) := fun k hk =>
    M_sub ne (fun i hi => by rw [← S_mul]; exact S_congr fun j _ => by grind) (fun j hj => nn j k hj hk)
  refine Rat.le_trans (S_le a) ?_
  rw [S_swap]
  unfold W
  refine S_le fun j hj => ?_
  rw [S_mulr, hV j hj, Rat.one_mul]
  exact Rat.le_refl
theorem W_told {wish : List (List Rat)} {t s s' : Nat} {c : Nat → Rat} {L L' K : Nat → Nat → Rat} {p p' : Rat} (ne : wish ≠ []) (p0 : 0 ≤ p) (p1 : 0 ≤ p') (h : ∀ i j, i < t → j < s → K i j = p * L i j) (h' : ∀ i j, i < t → j < s' → K i (s + j) = p' * L' i j) : W wish t (s + s') c K = p * W wish t s c L + p' * W wish t s' c L' := by
  unfold W
  rw [S_split, ← S_mul, ← S_mul]
  congr 1
  · exact S_congr fun j hj => M_scale ne p0 fun i hi => by rw [h i j hi hj]; grind
  · exact S_congr fun j hj => M_scale ne p1 fun i hi => by rw [h' i j hi hj]; grind
theorem M_two {wish : List (List Rat)} {t : Nat} {u v v' : Nat → Rat} {p p' : Rat} (ne : wish ≠ []) (p0 : 0 ≤ p) (p1 : 0 ≤ p') (h : ∀ i, i < t → u i = p * v i + p' * v' i) : M wish t u ≤ p * M wish t v + p' * M wish t v' := by
  have := M_sub (wish := wish) (t := t) (m := 2) (u := u) (a := fun j => if j = 0 then p else p') (v := fun j => if j = 0 then v else v') ne (fun i hi => by rw [h i hi]; show _ = 0 + p * v i + p' * v' i; rw [Rat.zero_add]) (fun j _ => by show 0 ≤ (if j = 0 then p else p'); split <;> assumption)
  have e : S 2 (fun j => (if j = 0 then p else p') * M wish t (if j = 0 then v else v')) = 0 + p * M wish t v + p' * M wish t v' := rfl
  rw [e, Rat.zero_add] at this
  exact this
theorem W_two {wish : List (List Rat)} {t s : Nat} {c c' c2 : Nat → Rat} {L L' L2 : Nat → Nat → Rat} {p p' : Rat} (ne : wish ≠ []) (p0 : 0 ≤ p) (p1 : 0 ≤ p') (h : ∀ i j, i < t → j < s → c2 i * L2 i j = p * (c i * L i j) + p' * (c' i * L' i j)) : W wish t s c2 L2 ≤ p * W wish t s c L + p' * W wish t s c' L' := by
  unfold W
  rw [← S_mul, ← S_mul, ← S_add]
  exact S_le fun j hj => M_two ne p0 p1 fun i hi => h i j hi hj
theorem W_dd {t s : Nat} {c : Nat → Rat} {L : Nat → Nat → Rat} {w : List Rat} (hL : ∀ i, i < t → S s (L i) = 1) : S s (fun j => dd t (fun i => c i * L i j) w) = dd t c w := by
  unfold dd
  rw [S_swap]
  refine S_congr fun i hi => ?_
  rw [S_mulr, S_mul, hL i hi, Rat.mul_one]
/-- a price of nought: one deed is best behind all signs that come -/
theorem W_nought {wish : List (List Rat)} {t s : Nat} {c : Nat → Rat} {L : Nat → Nat → Rat} (ne : wish ≠ []) (hL : ∀ i, i < t → S s (L i) = 1) (nn : ∀ i j, i < t → j < s → 0 ≤ c i * L i j) :
    W wish t s c L - M wish t c = 0 ↔ ∃ w ∈ wish, ∀ j, j < s → S t (fun i => c i * L i j) ≠ 0 → dd t (fun i => c i * L i j) w = M wish t (fun i => c i * L i j) := by
  have up := W_ahead (c := c) ne hL
  constructor
  · intro e
    obtain ⟨w, hw, e1⟩ := M_at (t := t) (u := c) ne
    refine ⟨w, hw, fun j hj _ => ?_⟩
    have z : S s (fun j => M wish t (fun i => c i * L i j) + -1 * dd t (fun i => c i * L i j) w) = 0 := by
      rw [S_add, S_mul, W_dd hL, ← e1]
      unfold W at e
      grind
    have := S_all0 (fun j hj => ?_) z j hj
    · grind
    · have := M_ge (t := t) (u := fun i => c i * L i j) hw
      grind
  · rintro ⟨w, hw, h⟩
    have e : W wish t s c L = dd t c w := by
      rw [← W_dd hL]
      refine S_congr fun j hj => ?_
      by_cases z : S t (fun i => c i * L i j) = 0
      · have all := S_all0 (fun i hi => nn i j hi hj) z
        have e0 : ∀ w, dd t (fun i => c i * L i j) w = 0 := fun w => by
          unfold dd
          exact (S_congr fun i hi => by show c i * L i j * _ = 0; rw [all i hi, Rat.zero_mul]).trans S_zero
        obtain ⟨w', _, e2⟩ := M_at (t := t) (u := fun i => c i * L i j) ne
        rw [e2, e0, e0]
      · exact (h j hj z).symm
    have := M_ge (t := t) (u := c) hw
    grind
end KM
/-! KPN: worths of lists by numbers. -/
namespace KM
def chF (c : List Rat) (i : Nat) : Rat := c.getD i 0
def lkF (rows : List (List Rat)) (i j : Nat) : Rat := (rows.getD i []).getD j 0
theorem getD_map {α : Type} {f : α → Rat} {xs : List α} {i : Nat} {d : α} (hi : i < xs.length) : (xs.map f).getD i 0 = f (xs.getD i d) := by
  rw [List.getD_eq_getElem?_getD, List.getD_eq_getElem?_getD, List.getElem?_map, List.getElem?_eq_getElem hi]
  rfl
theorem getD_mapL {α : Type} {f : α → List Rat} {xs : List α} {i : Nat} {d : α} (hi : i < xs.length) : (xs.map f).getD i [] = f (xs.getD i d) := by
  rw [List.getD_eq_getElem?_getD, List.getD_eq_getElem?_getD, List.getElem?_map, List.getElem?_eq_getElem hi]
  rfl
theorem getD_range {n i : Nat} (hi : i < n) : (List.range n).getD i 0 = i := by
  rw [List.getD_eq_getElem?_getD, List.getElem?_range hi]
  rfl
theorem col_at {rows : List (List Rat)} {i j : Nat} (hi : i < rows.length) : (colR rows j).getD i 0 = lkF rows i j := by
  unfold colR lkF
  rw [getD_map (d := []) hi]
theorem cols_at {rows : List (List Rat)} {s j : Nat} (hj : j < s) : (colsR s rows).getD j [] = colR rows j := by
  unfold colsR
  rw [getD_mapL (d := 0) (by rw [List.length_range]; exact hj), getD_range hj]
theorem mul_at {c : List Rat} {rows : List (List Rat)} {t i j : Nat} (lc : c.length = t) (lr : rows.length = t) (hi : i < t) : (mulR c (colR rows j)).getD i 0 = chF c i * lkF rows i j := by
  rw [zip_getD (by omega) (by unfold colR; rw [List.length_map]; omega), col_at (by omega)]
  rfl
theorem mul_len {c : List Rat} {rows : List (List Rat)} {t j : Nat} (lc : c.length = t) (lr : rows.length = t) : (mulR c (colR rows j)).length = t := by
  unfold mulR colR
  rw [List.length_zipWith, List.length_map]
  omega
theorem deed_M {wish : List (List Rat)} {u : List Rat} {n d t : Nat} (lw : Tab n d t wish) (lu : u.length = t) : maxR (deedR wish u) = M wish t (chF u) := by
  unfold M deedR
  congr 1
  exact List.map_congr_left fun w hw => dotR_S lu (lw.lens w hw)
theorem worth_W {c : List Rat} {wish look : List (List Rat)} {n m d t s : Nat} (lc : c.length = t) (lw : Tab n d t wish) (ll : Tab m t s look) : worthR c wish look s = W wish t s (chF c) (lkF look) := by
  unfold worthR colsR
  rw [List.map_map, sumR_range]
  refine S_congr fun j hj => ?_
  show maxR (deedR wish (mulR c (colR look j))) = _
  rw [deed_M lw (mul_len lc ll.len)]
  exact M_congr fun i hi => mul_at lc ll.len hi
theorem row_sum {rows : List (List Rat)} {t s i : Nat} (ll : Looks rows t s) (hi : i < t) : S s (lkF rows i) = 1 := by
  have tb := ll.tab
  have h := ll.ch _ (row_at tb hi).2
  unfold lkF
  have e : ∀ f : Nat → Rat, (f = fun j => (rows.getD i []).getD j 0) → S s f = 1 := fun f ef => by
    rw [ef, ← sumR_S h.len]
    exact h.one
  exact e _ rfl
theorem row_nn {rows : List (List Rat)} {t s i j : Nat} (ll : Looks rows t s) (hi : i < t) (hj : j < s) : 0 ≤ lkF rows i j := by
  have tb := ll.tab
  have h := ll.ch _ (row_at tb hi).2
  unfold lkF
  have lj : j < (rows.getD i []).length := by rw [h.len]; exact hj
  have e : (rows.getD i []).getD j 0 = (rows.getD i [])[j] := by
    rw [List.getD_eq_getElem?_getD (l := rows.getD i []), List.getElem?_eq_getElem lj]
    rfl
  rw [e]
  exact h.nn _ (List.getElem_mem lj)
theorem chan_nn {c : List Rat} {t i : Nat} (h : Chan c t) (hi : i < t) : 0 ≤ chF c i := by
  have li : i < c.length := by rw [h.len]; exact hi
  have e : chF c i = c[i] := by
    unfold chF
    rw [List.getD_eq_getElem?_getD, List.getElem?_eq_getElem li]
    rfl
  rw [e]
  exact h.nn _ (List.getElem_mem li)
section
variable {c : List Rat} {wish look : List (List Rat)} {d t s : Nat} (hc : Chan c t) (lw : Wishs wish t d) (ll : Looks look t s) (d0 : 0 < d)
include hc lw ll d0
theorem ahead_le : maxR (deedR wish c) ≤ worthR c wish look s := by
  rw [worth_W hc.len lw.tab ll.tab, deed_M lw.tab hc.len]
  exact W_ahead (wish_ne lw.tab d0) fun i hi => row_sum ll hi
theorem full_at {i j : Nat} (hi : i < t) (hj : j < t) : lkF (fullR t) i j = dl i j := by
  unfold lkF fullR
  rw [getD_mapL (d := 0) (by rw [List.length_range]; exact hi), getD_map (d := 0) (by rw [List.length_range]; exact hj), getD_range hi, getD_range hj]
  rfl
theorem le_full : worthR c wish look s ≤ worthR c wish (fullR t) t := by
  rw [worth_W hc.len lw.tab ll.tab, worth_W hc.len lw.tab (full_tab t), W_congr (c' := chF c) (L := lkF (fullR t)) (L' := dl) (fun _ _ => rfl) fun i j hi hj => full_at hc lw ll d0 hi hj]
  exact W_full (wish_ne lw.tab d0) (fun i hi => row_sum ll hi) fun i j hi hj => row_nn ll hi hj
theorem price_iff : worthR c wish look s - maxR (deedR wish c) = 0 ↔ ∃ e, e < d ∧ ∀ j, j < s → sumR (mulR c (colR look j)) ≠ 0 → (deedR wish (mulR c (colR look j))).getD e 0 = maxR (deedR wish (mulR c (colR look j))) := by
  rw [worth_W hc.len lw.tab ll.tab, deed_M lw.tab hc.len, W_nought (wish_ne lw.tab d0) (fun i hi => row_sum ll hi) fun i j hi hj => Rat.mul_nonneg (chan_nn hc hi) (row_nn ll hi hj)]
  have es : ∀ j, sumR (mulR c (colR look j)) = S t (fun i => chF c i * lkF look i j) := fun j => by
    rw [sumR_S (mul_len hc.len ll.len)]
    exact S_congr fun i hi => mul_at hc.len ll.len hi
  have em : ∀ j, maxR (deedR wish (mulR c (colR look j))) = M wish t (fun i => chF c i * lkF look i j) := fun j => by
    rw [deed_M lw.tab (mul_len hc.len ll.len)]
    exact M_congr fun i hi => mul_at hc.len ll.len hi
  have ed : ∀ j w, w ∈ wish → dotR (mulR c (colR look j)) w = dd t (fun i => chF c i * lkF look i j) w := fun j w hw => by
    rw [dotR_S (mul_len hc.len ll.len) (lw.lens w hw)]
    exact S_congr fun i hi => by rw [mul_at hc.len ll.len hi]
  constructor
  · rintro ⟨w, hw, h⟩
    obtain ⟨e, he, ew⟩ := List.getElem_of_mem hw
    refine ⟨e, by rw [← lw.len]; exact he, fun j hj hz => ?_⟩
    rw [em, ← h j hj (by rw [← es]; exact hz), ← ed j w hw]
    unfold deedR
    rw [getD_map (d := []) he, List.getD_eq_getElem?_getD, List.getElem?_eq_getElem he, ← ew]
    rfl
  · rintro ⟨e, he, h⟩
    have he' : e < wish.length := by rw [lw.len]; exact he
    refine ⟨wish[e], List.getElem_mem he', fun j hj hz => ?_⟩
    rw [← em, ← h j hj (by rw [es]; exact hz), ← ed j _ (List.getElem_mem he')]
    unfold deedR
    rw [getD_map (d := []) he', List.getD_eq_getElem?_getD, List.getElem?_eq_getElem he']
    rfl
end
/-! ### looks made of looks -/
theorem veil_tab {n m t s : Nat} {look veil : List (List Rat)} (ll : Tab n t s look) (lv : Tab n s m veil) : Tab (1 + (n + n + 3) * s) t m (veilR look veil m) where
  len := by unfold veilR; rw [List.length_map, ll.len]
  lens := fun r hr => by
    obtain ⟨row, hrow, rfl⟩ := List.mem_map.mp hr
    rw [List.length_map, lv.cols.len]
  bd := fun r hr x hx => by
    obtain ⟨row, hrow, rfl⟩ := List.mem_map.mp hr
    obtain ⟨col, hcol, rfl⟩ := List.mem_map.mp hx
    exact dotR_bd (ll.bd row hrow) (lv.cols.bd col hcol) (by rw [ll.lens row hrow]; exact Nat.le_refl _)
theorem veil_at {n m t s i k : Nat} {look veil : List (List Rat)} (ll : Tab n t s look) (lv : Tab n s m veil) (hi : i < t) (hk : k < m) : lkF (veilR look veil m) i k = S s (fun j => lkF look i j * lkF veil j k) := by
  have hr := row_at ll hi
  show ((veilR look veil m).getD i []).getD k 0 = _
  unfold veilR
  rw [getD_mapL (d := []) (by rw [ll.len]; exact hi), getD_map (d := []) (by rw [lv.cols.len]; exact hk), cols_at hk, dotR_S (ll.lens _ hr.2) (by unfold colR; rw [List.length_map, lv.len])]
  exact S_congr fun j hj => by rw [col_at (by rw [lv.len]; exact hj)]; rfl
theorem veil_chan {m t s : Nat} {look veil : List (List Rat)} (ll : Looks look t s) (lv : Looks veil s m) : ∀ r ∈ veilR look veil m, chanOf r = some r := by
  intro r hr
  have vt := veil_tab ll.tab lv.tab
  obtain ⟨i, hi, e⟩ := List.getElem_of_mem hr
  have hi' : i < t := by rw [← vt.len]; exact hi
  have er : (veilR look veil m).getD i [] = r := by
    rw [List.getD_eq_getElem?_getD, List.getElem?_eq_getElem hi, e]
    rfl
  have hl := vt.lens r hr
  have at' : ∀ k, k < m → r.getD k 0 = S s (fun j => lkF look i j * lkF veil j k) := fun k hk => by
    rw [← veil_at ll.tab lv.tab hi' hk]
    unfold lkF
    rw [er]
  unfold chanOf
  refine if_pos ⟨any_neg fun x hx => ?_, ?_⟩
  · obtain ⟨k, hk, e2⟩ := List.getElem_of_mem hx
    have hk' : k < m := by omega
    have e3 : r.getD k 0 = x := by
      rw [List.getD_eq_getElem?_getD, List.getElem?_eq_getElem hk, e2]
      rfl
    rw [← e3, at' k hk']
    exact S_nn fun j hj => Rat.mul_nonneg (row_nn ll hi' hj) (row_nn lv hj hk')
  · rw [sumR_S hl, S_congr at', S_swap]
    have : S s (fun j => S m (fun k => lkF look i j * lkF veil j k)) = S s (lkF look i) := S_congr fun j hj => by
      rw [S_mul, row_sum lv hj, Rat.mul_one]
    rw [this]
    exact row_sum ll hi'
theorem le_veil {c : List Rat} {wish look veil : List (List Rat)} {d t s m : Nat} (hc : Chan c t) (lw : Wishs wish t d) (ll : Looks look t s) (lv : Looks veil s m) (d0 : 0 < d) : worthR c wish (veilR look veil m) m ≤ worthR c wish look s := by
  rw [worth_W hc.len lw.tab ll.tab, worth_W hc.len lw.tab (veil_tab ll.tab lv.tab), W_congr (c' := chF c) (L' := fun i k => S s (fun j => lkF look i j * lkF veil j k)) (fun _ _ => rfl) fun i k hi hk => veil_at ll.tab lv.tab hi hk]
  exact W_veil (wish_ne lw.tab d0) (fun j hj => row_sum lv hj) fun j k hj hk => row_nn lv hj hk
/-! told, hidden, mixed -/
theorem sum_two {p p' x y : Rat} : dotR [p, p'] [x, y] = p * x + p' * y := by
  show p * x + (p' * y + 0) = _
  rw [Rat.add_zero]
theorem told_row {l o : List (List Rat)} {p p' : Rat} {t s i : Nat} : toldRow [p, p'] [l, o] i = (l.getD i []).map (p * ·) ++ (o.getD i []).map (p' * ·) := by
  show ((l.getD i []).map (p * ·) ++ ((o.getD i []).map (p' * ·) ++ [])) = _
  rw [List.append_nil]
theorem app_l {a b : List Rat} {j : Nat} (h : j < a.length) : (a ++ b).getD j 0 = a.getD j 0 := by
  rw [List.getD_eq_getElem?_getD, List.getD_eq_getElem?_getD, List.getElem?_append_left h]
theorem app_r {a b : List Rat} {j k : Nat} (h : a.length = k) : (a ++ b).getD (k + j) 0 = b.getD j 0 := by
  rw [List.getD_eq_getElem?_getD, List.getD_eq_getElem?_getD, List.getElem?_append_right (by omega)]
  congr 2
  omega
theorem told_at {l o : List (List Rat)} {p p' : Rat} {t s s' i : Nat} {n m : Nat} (ll : Tab n t s l) (lo : Tab m t s' o) (hi : i < t) : (∀ j, j < s → lkF (toldR [p, p'] [l, o] t) i j = p * lkF l i j) ∧ ∀ j, j < s' → lkF (toldR [p, p'] [l, o] t) i (s + j) = p' * lkF o i j := by
  have h1 := ll.lens _ (row_at ll hi).2
  have h2 := lo.lens _ (row_at lo hi).2
  have e : (toldR [p, p'] [l, o] t).getD i [] = (l.getD i []).map (p * ·) ++ (o.getD i []).map (p' * ·) := by
    unfold toldR
    rw [getD_mapL (d := 0) (by rw [List.length_range]; exact hi), getD_range hi, told_row (t := t) (s := s)]
  unfold lkF
  rw [e]
  constructor
  · intro j hj
    rw [app_l (by rw [List.length_map, h1]; exact hj), getD_map (d := 0) (by rw [h1]; exact hj)]
  · intro j hj
    rw [app_r (by rw [List.length_map, h1]), getD_map (d := 0) (by rw [h2]; exact hj)]
theorem told_tab {l o : List (List Rat)} {p p' : Rat} {t s s' n m : Nat} (ll : Tab n t s l) (lo : Tab n t s' o) (hp : Bd m p) (hp' : Bd m p') : Tab (m + n + 1) t (s + s') (toldR [p, p'] [l, o] t) where
  len := by unfold toldR; rw [List.length_map, List.length_range]
  lens := fun r hr => by
    obtain ⟨i, hi, rfl⟩ := List.mem_map.mp hr
    have hi := List.mem_range.mp hi
    rw [told_row (t := t) (s := s), List.length_append, List.length_map, List.length_map, ll.lens _ (row_at ll hi).2, lo.lens _ (row_at lo hi).2]
  bd := fun r hr x hx => by
    obtain ⟨i, hi, rfl⟩ := List.mem_map.mp hr
    have hi := List.mem_range.mp hi
    rw [told_row (t := t) (s := s), List.mem_append] at hx
    rcases hx with hx | hx
    · obtain ⟨y, hy, rfl⟩ := List.mem_map.mp hx
      exact hp.mulM (ll.bd _ (row_at ll hi).2 y hy)
    · obtain ⟨y, hy, rfl⟩ := List.mem_map.mp hx
      exact hp'.mulM (lo.bd _ (row_at lo hi).2 y hy)
/-- a list of fractions none below nought that sum to one -/
theorem chan_by {r : List Rat} {m : Nat} (hl : r.length = m) (nn : ∀ k, k < m → 0 ≤ r.getD k 0) (one : S m (fun k => r.getD k 0) = 1) : chanOf r = some r := by
  unfold chanOf
  refine if_pos ⟨any_neg fun x hx => ?_, by rw [sumR_S hl]; exact one⟩
  obtain ⟨k, hk, e2⟩ := List.getElem_of_mem hx
  have e3 : r.getD k 0 = x := by
    rw [List.getD_eq_getElem?_getD, List.getElem?_eq_getElem hk, e2]
    rfl
  rw [← e3]
  exact nn k (by omega)
theorem tab_row {n t s : Nat} {rows : List (List Rat)} (tb : Tab n t s rows) {P : List Rat → Prop} (h : ∀ i, i < t → P (rows.getD i [])) : ∀ r ∈ rows, P r := by
  intro r hr
  obtain ⟨i, hi, e⟩ := List.getElem_of_mem hr
  have er : rows.getD i [] = r := by
    rw [List.getD_eq_getElem?_getD, List.getElem?_eq_getElem hi, e]
    rfl
  rw [← er]
  exact h i (by rw [← tb.len]; exact hi)
/-- two shares -/
structure Two (p p' : Rat) : Prop where
  p0 : 0 ≤ p
  p1 : 0 ≤ p'
  one : p + p' = 1
  bp : Bd 8 p
  bp' : Bd 8 p'
theorem two_of {sh : List Rat} (h : Chan sh 2) : ∃ p p', sh = [p, p'] ∧ Two p p' := by
  match sh, h with
  | [p, p'], h =>
    refine ⟨p, p', rfl, h.nn p (by simp), h.nn p' (by simp), ?_, h.bd p (by simp), h.bd p' (by simp)⟩
    have := h.one
    rw [show sumR [p, p'] = p + (p' + 0) from rfl, Rat.add_zero] at this
    exact this
  | [], h => exact absurd h.len (by simp)
  | [_], h => exact absurd h.len (by simp)
  | _ :: _ :: _ :: _, h => exact absurd h.len (by simp)
theorem told_chan {l o : List (List Rat)} {p p' : Rat} {t s s' : Nat} (ll : Looks l t s) (lo : Looks o t s') (w : Two p p') : ∀ r ∈ toldR [p, p'] [l, o] t, chanOf r = some r := by
  have tt := told_tab ll.tab lo.tab w.bp w.bp'
  refine tab_row tt fun i hi => ?_
  obtain ⟨a1, a2⟩ := told_at (p := p) (p' := p') ll.tab lo.tab hi
  refine chan_by (tt.lens _ (row_at tt hi).2) (fun k hk => ?_) ?_
  · by_cases h : k < s
    · show 0 ≤ lkF (toldR [p, p'] [l, o] t) i k
      rw [a1 k h]
      exact Rat.mul_nonneg w.p0 (row_nn ll hi h)
    · have := a2 (k - s) (by omega)
      rw [show s + (k - s) = k by omega] at this
      show 0 ≤ lkF (toldR [p, p'] [l, o] t) i k
      rw [this]
      exact Rat.mul_nonneg w.p1 (row_nn lo hi (by omega))
  · show S (s + s') (lkF (toldR [p, p'] [l, o] t) i) = 1
    rw [S_split, S_congr (g := fun j => p * lkF l i j) fun j hj => a1 j hj, S_congr (g := fun j => p' * lkF o i j) fun j hj => a2 j hj, S_mul, S_mul]
    have e1 : S s (fun j => lkF l i j) = 1 := row_sum ll hi
    have e2 : S s' (fun j => lkF o i j) = 1 := row_sum lo hi
    rw [e1, e2, Rat.mul_one, Rat.mul_one, w.one]
theorem told_eq {c : List Rat} {wish l o : List (List Rat)} {p p' : Rat} {d t s s' : Nat} (hc : Chan c t) (lw : Wishs wish t d) (ll : Looks l t s) (lo : Looks o t s') (d0 : 0 < d) (w : Two p p') : worthR c wish (toldR [p, p'] [l, o] t) (s + s') = p * worthR c wish l s + p' * worthR c wish o s' := by
  rw [worth_W hc.len lw.tab ll.tab, worth_W hc.len lw.tab lo.tab, worth_W hc.len lw.tab (told_tab ll.tab lo.tab w.bp w.bp')]
  exact W_told (wish_ne lw.tab d0) w.p0 w.p1 (fun i j hi hj => (told_at ll.tab lo.tab hi).1 j hj) fun i j hi hj => (told_at ll.tab lo.tab hi).2 j hj
theorem hid_at {l o : List (List Rat)} {p p' : Rat} {t s i j n m : Nat} (ll : Tab n t s l) (lo : Tab m t s o) (hi : i < t) (hj : j < s) : lkF (hidR [p, p'] [l, o] s t) i j = p * lkF l i j + p' * lkF o i j := by
  show ((hidR [p, p'] [l, o] s t).getD i []).getD j 0 = _
  unfold hidR
  rw [getD_mapL (d := 0) (by rw [List.length_range]; exact hi), getD_range hi]
  unfold hidRow
  rw [getD_map (d := []) (by unfold colsR; rw [List.length_map, List.length_range]; exact hj), cols_at hj]
  show dotR [p, p'] [(l.getD i []).getD j 0, (o.getD i []).getD j 0] = _
  rw [sum_two]
  rfl
theorem hid_tab2 {l o : List (List Rat)} {p p' : Rat} {t s n m : Nat} (ll : Tab n t s l) (lo : Tab n t s o) (hp : Bd m p) (hp' : Bd m p') : Tab (1 + (m + n + 3) * 2) t s (hidR [p, p'] [l, o] s t) where
  len := by unfold hidR; rw [List.length_map, List.length_range]
  lens := fun r hr => by
    obtain ⟨i, hi, rfl⟩ := List.mem_map.mp hr
    unfold hidRow colsR
    rw [List.length_map, List.length_map, List.length_range]
  bd := fun r hr x hx => by
    obtain ⟨i, hi, rfl⟩ := List.mem_map.mp hr
    have hi := List.mem_range.mp hi
    obtain ⟨col, hcol, rfl⟩ := List.mem_map.mp hx
    obtain ⟨j, hj, rfl⟩ := List.mem_map.mp hcol
    have hj := List.mem_range.mp hj
    refine dotR_bd (n := m) (m := n) (s := 2) (fun y hy => ?_) (fun y hy => ?_) (by simp)
    · simp only [List.mem_cons, List.not_mem_nil, or_false] at hy
      rcases hy with rfl | rfl <;> assumption
    · have hy : y ∈ [(l.getD i []).getD j 0, (o.getD i []).getD j 0] := hy
      simp only [List.mem_cons, List.not_mem_nil, or_false] at hy
      have key : ∀ {q : List (List Rat)}, Tab n t s q → Bd n ((q.getD i []).getD j 0) := fun {q} tq => by
        have lr := tq.lens _ (row_at tq hi).2
        have lj : j < (q.getD i []).length := by omega
        rw [List.getD_eq_getElem?_getD (l := q.getD i []), List.getElem?_eq_getElem lj]
        exact tq.bd _ (row_at tq hi).2 _ (List.getElem_mem lj)
      rcases hy with rfl | rfl
      · exact key ll
      · exact key lo
theorem hid_chan {l o : List (List Rat)} {p p' : Rat} {t s : Nat} (ll : Looks l t s) (lo : Looks o t s) (w : Two p p') : ∀ r ∈ hidR [p, p'] [l, o] s t, chanOf r = some r := by
  have tt := hid_tab2 ll.tab lo.tab w.bp w.bp'
  refine tab_row tt fun i hi => ?_
  refine chan_by (tt.lens _ (row_at tt hi).2) (fun k hk => ?_) ?_
  · have := hid_at (p := p) (p' := p') ll.tab lo.tab hi hk
    show 0 ≤ lkF (hidR [p, p'] [l, o] s t) i k
    rw [this]
    exact Rat.add_nonneg (Rat.mul_nonneg w.p0 (row_nn ll hi hk)) (Rat.mul_nonneg w.p1 (row_nn lo hi hk))
  · show S s (fun j => lkF (hidR [p, p'] [l, o] s t) i j) = 1
    rw [S_congr (g := fun j => p * lkF l i j + p' * lkF o i j) fun j hj => hid_at ll.tab lo.tab hi hj, S_add, S_mul, S_mul]
    have e1 : S s (fun j => lkF l i j) = 1 := row_sum ll hi
    have e2 : S s (fun j => lkF o i j) = 1 := row_sum lo hi
    rw [e1, e2, Rat.mul_one, Rat.mul_one, w.one]
theorem hid_le {c : List Rat} {wish l o : List (List Rat)} {p p' : Rat} {d t s : Nat} (hc : Chan c t) (lw : Wishs wish t d) (ll : Looks l t s) (lo : Looks o t s) (d0 : 0 < d) (w : Two p p') : worthR c wish (hidR [p, p'] [l, o] s t) s ≤ p * worthR c wish l s + p' * worthR c wish o s := by
  rw [worth_W hc.len lw.tab ll.tab, worth_W hc.len lw.tab lo.tab, worth_W hc.len lw.tab (hid_tab2 ll.tab lo.tab w.bp w.bp')]
  exact W_two (wish_ne lw.tab d0) w.p0 w.p1 fun i j hi hj => by rw [hid_at ll.tab lo.tab hi hj]; grind
/-- chances mixed -/
def mixR (p p' : Rat) (c c' : List Rat) : List Rat := (c.zip c').map fun q => p * q.1 + p' * q.2
theorem mix_len {p p' : Rat} {c c' : List Rat} {t : Nat} (h : c.length = t) (h' : c'.length = t) : (mixR p p' c c').length = t := by
  unfold mixR
  rw [List.length_map, List.length_zip]
  omega
theorem mix_at {p p' : Rat} {c c' : List Rat} {t i : Nat} (h : c.length = t) (h' : c'.length = t) (hi : i < t) : chF (mixR p p' c c') i = p * chF c i + p' * chF c' i := by
  unfold chF mixR
  have hz : i < (c.zip c').length := by rw [List.length_zip]; omega
  rw [getD_map (d := (0, 0)) hz]
  have e : (c.zip c').getD i (0, 0) = (c.getD i 0, c'.getD i 0) := by
    rw [List.getD_eq_getElem?_getD, List.getD_eq_getElem?_getD, List.getD_eq_getElem?_getD, List.getElem?_eq_getElem hz, List.getElem?_eq_getElem (by omega), List.getElem?_eq_getElem (by omega), List.getElem_zip]
    rfl
  rw [e]
theorem mix_bd {p p' : Rat} {c c' : List Rat} {t n m : Nat} (hp : Bd m p) (hp' : Bd m p') (h : ∀ x ∈ c, Bd n x) (h' : ∀ x ∈ c', Bd n x) : ∀ x ∈ mixR p p' c c', Bd (1 + (m + n + 3) * 2) x := by
  intro x hx
  obtain ⟨q, hq, rfl⟩ := List.mem_map.mp hx
  have mm := zip_mem hq
  have := (hp.mulM (h _ mm.1)).addM (hp'.mulM (h' _ mm.2))
  exact this.mono (by omega)
theorem mix_chan {p p' : Rat} {c c' : List Rat} {t : Nat} (hc : Chan c t) (hc' : Chan c' t) (w : Two p p') : chanOf (mixR p p' c c') = some (mixR p p' c c') := by
  refine chan_by (mix_len hc.len hc'.len) (fun k hk => ?_) ?_
  · have := mix_at (p := p) (p' := p') hc.len hc'.len hk
    show 0 ≤ chF (mixR p p' c c') k
    rw [this]
    exact Rat.add_nonneg (Rat.mul_nonneg w.p0 (chan_nn hc hk)) (Rat.mul_nonneg w.p1 (chan_nn hc' hk))
  · show S t (fun j => chF (mixR p p' c c') j) = 1
    rw [S_congr (g := fun j => p * chF c j + p' * chF c' j) fun j hj => mix_at hc.len hc'.len hj, S_add, S_mul, S_mul]
    have e1 : S t (fun j => chF c j) = 1 := by rw [← hc.one, sumR_S hc.len]; rfl
    have e2 : S t (fun j => chF c' j) = 1 := by rw [← hc'.one, sumR_S hc'.len]; rfl
    rw [e1, e2, Rat.mul_one, Rat.mul_one, w.one]
theorem mix_le {c c' : List Rat} {wish l : List (List Rat)} {p p' : Rat} {d t s : Nat} (hc : Chan c t) (hc' : Chan c' t) (lw : Wishs wish t d) (ll : Looks l t s) (d0 : 0 < d) (w : Two p p') : worthR (mixR p p' c c') wish l s ≤ p * worthR c wish l s + p' * worthR c' wish l s := by
  rw [worth_W hc.len lw.tab ll.tab, worth_W hc'.len lw.tab ll.tab, worth_W (mix_len hc.len hc'.len) lw.tab ll.tab]
  exact W_two (wish_ne lw.tab d0) w.p0 w.p1 fun i j hi hj => by rw [mix_at hc.len hc'.len hi]; grind
theorem full_chan (t : Nat) : ∀ r ∈ fullR t, chanOf r = some r := by
  intro r hr
  obtain ⟨i, hi, rfl⟩ := List.mem_map.mp hr
  have hi := List.mem_range.mp hi
  have e : ∀ k, k < t → ((List.range t).map fun s => if s = i then (1 : Rat) else 0).getD k 0 = if k = i then 1 else 0 := fun k hk => by
    rw [getD_map (d := 0) (by rw [List.length_range]; exact hk), getD_range hk]
  refine chan_by (m := t) (by rw [List.length_map, List.length_range]) (fun k hk => ?_) ?_
  · rw [e k hk]
    split <;> decide
  · rw [S_congr (g := fun k => (if k = i then 1 else 0) * 1) fun k hk => by rw [e k hk, Rat.mul_one]]
    exact S_one (f := fun _ => 1) hi
end KM
/-! KPI: prices and regrets, as the law asks them. -/
namespace KM
open PySem PySem.Spec PyProof.Rows L2
def c__law_price_right : Sxs := .cons (.asg (.nm 4) (.bi .len (.cons (.var 1) .nil))) (.cons (.par [5, 6, 7] (.cons (.call "_law_worth" (.cons (.var 1) (.cons (.var 2) (.cons (.var 3) .nil)))) (.cons (.call "_law_w_ahead" (.cons (.var 1) (.cons (.var 2) .nil))) (.cons (.call "_law_worth" (.cons (.var 1) (.cons (.var 2) (.cons (.call "_law_w_full" (.cons (.var 4) .nil)) .nil)))) .nil)))) (.cons (.asg (.nm 8) (.lst (.cons (.call "_law_minus" (.cons (.var 5) (.cons (.var 6) .nil))) (.cons (.call "_law_minus" (.cons (.var 7) (.cons (.var 5) .nil))) .nil)))) (.cons (.asg (.nm 9) (.lst (.cons (.call "_law_loose" (.cons (.var 0) (.cons (.var 1) .nil))) (.cons (.call "_law_loose" (.cons (.var 0) (.cons (.var 2) .nil))) (.cons (.call "_law_loose" (.cons (.var 0) (.cons (.var 3) .nil))) .nil))))) (.cons (.asg (.nm 10) (.call "_law_copied" (.cons (.var 9) .nil))) (.cons (.asg (.nm 11) (.lst (.cons (.call "price_of" (.cons (.ix (.var 9) (.int 0)) (.cons (.ix (.var 9) (.int 1)) (.cons (.ix (.var 9) (.int 2)) .nil)))) (.cons (.call "regret" (.cons (.ix (.var 9) (.int 0)) (.cons (.ix (.var 9) (.int 1)) (.cons (.ix (.var 9) (.int 2)) .nil)))) .nil)))) (.cons (.expr (.mth .extend (.var 11) (.cons (.lst (.cons (.kall "price_of" [2, 1, 0] (.cons (.call "_law_copied" (.cons (.var 3) .nil)) (.cons (.call "_law_copied" (.cons (.var 2) .nil)) (.cons (.call "_law_copied" (.cons (.var 1) .nil)) .nil)))) (.cons (.kall "regret" [2, 1, 0] (.cons (.call "_law_copied" (.cons (.var 3) .nil)) (.cons (.call "_law_copied" (.cons (.var 2) .nil)) (.cons (.call "_law_copied" (.cons (.var 1) .nil)) .nil)))) .nil))) .nil))) (.cons (.ife (.or (.not (.call "_law_same" (.cons (.var 11) (.cons (.bin .Add (.var 8) (.var 8)) .nil)))) (.or (.not (.call "_law_same" (.cons (.var 9) (.cons (.var 10) .nil)))) (.or (.cmp .Lt (.ix (.ix (.var 8) (.int 0)) (.int 0)) (.int 0)) (.cmp .Lt (.ix (.ix (.var 8) (.int 1)) (.int 0)) (.int 0))))) (.cons (.ret (.bl false)) .nil) .nil) (.cons (.asg (.nm 12) (.lc (.var 15) (.tc (.nm 14) (.tc (.nm 15) .tn)) (.enum (.call "_law_w_at_signs" (.cons (.var 1) (.cons (.var 2) (.cons (.var 3) .nil))))) (.cons (.cmp .NotEq (.call "_law_total" (.cons (.call "_law_weights" (.cons (.var 1) (.cons (.var 3) (.cons (.var 14) .nil)))) .nil)) (.tup (.cons (.int 0) (.cons (.int 1) .nil)))) .nil) [14, 15])) (.cons (.asg (.nm 13) (.lc (.var 16) (.nm 16) (.rng1 (.bi .len (.cons (.var 2) .nil))) (.cons (.bi .all (.cons (.lc (.cmp .Eq (.ix (.var 15) (.var 16)) (.call "_law_greatest" (.cons (.var 15) .nil))) (.nm 15) (.seq (.var 12)) .nil [15]) .nil)) .nil) [16])) (.cons (.ret (.cmp .Eq (.cmp .Eq (.ix (.var 8) (.int 0)) (.tup (.cons (.int 0) (.cons (.int 1) .nil)))) (.cmp .NotEq (.var 13) (.lst .nil)))) .nil))))))))))
def c__law_less_right : Sxs := .cons (.par [4, 5] (.cons (.bi .len (.cons (.ix (.var 3) (.int 0)) .nil)) (.cons (.bi .len (.cons (.var 3) .nil)) .nil))) (.cons (.asg (.nm 6) (.call "worth_behind" (.cons (.var 1) (.cons (.var 2) (.cons (.var 3) .nil))))) (.cons (.ife (.call "_law_under" (.cons (.var 6) (.cons (.call "worth_behind" (.cons (.var 1) (.cons (.var 2) (.cons (.call "veiled" (.cons (.var 3) (.cons (.call "_law_look" (.cons (.var 0) (.cons (.var 4) (.cons (.bin .Add (.int 1) (.call "_law_draw" (.cons (.var 0) (.cons (.int 4) .nil)))) .nil)))) .nil))) .nil)))) .nil))) (.cons (.ret (.bl false)) .nil) .nil) (.cons (.asg (.tc (.nm 7) (.tc (.nm 8) .tn)) (.tup (.cons (.call "_law_look" (.cons (.var 0) (.cons (.var 5) (.cons (.var 4) .nil)))) (.cons (.call "_law_chances" (.cons (.var 0) (.cons (.int 2) (.cons (.int 0) .nil)))) .nil)))) (.cons (.asg (.nm 9) (.call "_law_dot" (.cons (.var 8) (.cons (.lst (.cons (.var 6) (.cons (.call "worth_behind" (.cons (.var 1) (.cons (.var 2) (.cons (.var 7) .nil)))) .nil))) .nil)))) (.cons (.ife (.not (.call "_law_same" (.cons (.call "worth_behind" (.cons (.var 1) (.cons (.var 2) (.cons (.call "told_choice" (.cons (.var 8) (.cons (.lst (.cons (.var 3) (.cons (.var 7) .nil))) .nil))) .nil)))) (.cons (.var 9) .nil)))) (.cons (.ret (.bl false)) .nil) .nil) (.cons (.ife (.call "_law_under" (.cons (.var 9) (.cons (.call "worth_behind" (.cons (.var 1) (.cons (.var 2) (.cons (.call "hidden_choice" (.cons (.var 8) (.cons (.lst (.cons (.var 3) (.cons (.var 7) .nil))) .nil))) .nil)))) .nil))) (.cons (.ret (.bl false)) .nil) .nil) (.cons (.asg (.nm 10) (.call "_law_chances" (.cons (.var 0) (.cons (.var 5) (.cons (.int 0) .nil))))) (.cons (.asg (.nm 11) (.lc (.call "_law_dot" (.cons (.var 8) (.cons (.lst (.cons (.var 12) (.cons (.var 13) .nil))) .nil))) (.tc (.nm 12) (.tc (.nm 13) .tn)) (.zip (.var 1) (.var 10)) .nil [12, 13])) (.cons (.asg (.nm 9) (.call "_law_dot" (.cons (.var 8) (.cons (.lst (.cons (.var 6) (.cons (.call "worth_behind" (.cons (.var 10) (.cons (.var 2) (.cons (.var 3) .nil)))) .nil))) .nil)))) (.cons (.ret (.and (.not (.call "_law_under" (.cons (.var 9) (.cons (.call "worth_behind" (.cons (.var 11) (.cons (.var 2) (.cons (.var 3) .nil)))) .nil)))) (.not (.call "_law_under" (.cons (.call "worth_behind" (.cons (.var 1) (.cons (.var 2) (.cons (.call "full" (.cons (.var 5) .nil)) .nil)))) (.cons (.var 6) .nil)))))) .nil))))))))))
theorem D.beq_refl (d : D) : D.beq d d = true := D.beq_iff.mpr rfl
theorem D.cnts_rowL : ∀ xs : List Rat, D.cnts (xs.map dr) = xs.length
  | [] => rfl
  | x :: xs => by simp only [List.map_cons, D.cnts, D.cnts_rowL xs, List.length_cons]; show 1 + _ = _; omega
theorem cnt_rowL (xs : List Rat) : (rowL xs).cnt = xs.length + 1 := by unfold rowL; simp only [D.cnt, D.cnts_rowL]
theorem cnt_tabL {n t s : Nat} {rows : List (List Rat)} (l : Tab n t s rows) : (tabL rows).cnt = t * (s + 1) + 1 := by
  have key : ∀ rs : List (List Rat), (∀ r ∈ rs, r.length = s) → D.cnts (rs.map rowL) = rs.length * (s + 1) := by
    intro rs
    induction rs with
    | nil => intro _; simp [D.cnts]
    | cons r rs ih =>
      intro h
      simp only [List.map_cons, D.cnts, cnt_rowL, h r List.mem_cons_self, ih fun z hz => h z (List.mem_cons_of_mem _ hz), List.length_cons]
      rw [Nat.succ_mul]
      omega
  unfold tabL
  simp only [D.cnt, key rows l.lens, l.len]
theorem wid_rowL (xs : List Rat) : (rowL xs).wid ≤ max xs.length 2 := by rw [wid_of (rowL_tp xs)]; exact wid_rowD xs
theorem wid_tabL {rows : List (List Rat)} {n t s : Nat} (l : Tab n t s rows) : (tabL rows).wid ≤ max t (max s 2) := by rw [wid_of (tabL_tp rows)]; exact wid_tabD l
theorem dep_rowL (xs : List Rat) : (rowL xs).dep ≤ 2 := by rw [dep_of (rowL_tp xs)]; exact dep_row xs
theorem dep_tabL (rows : List (List Rat)) : (tabL rows).dep ≤ 3 := by rw [dep_of (tabL_tp rows)]; exact dep_tabD rows
section
variable {T : Str → Option Fc}
theorem same2 (hS : T "_law_same" = some ⟨2, 4, c__law_same⟩) {n : Nat} {d : D} {v w : Val} {h : Hep} {Q : VQ} {E : XQ} (hn : d.dep < n) (hw : d.wid < 1000000) (rd : Rd h d v) (rw' : Rd h d w) (q : Q (.bl true) h) : Calls T n "_law_same" [v, w] h Q E :=
  same_ok hS n d d v w h Q E hn hw rd rw' (by rw [D.beq_refl]; exact q)
/-- a comprehension with a test -/
theorem lc_fil {α : Type} {C : CalT} {cnd : Exs} {elt : WE} {bind : Val → Env → Option Env} {pins : List (Addr × List Val)} {env : Env} {h : Hep} {Q : VQ} {f : α → Val} {p : α → Bool} {g : α → Val} (pn : ∀ h', Sub h h' → pinOk h' pins) :
    ∀ (xs : List α) {acc : List Val} {h' : Hep}, (∀ h', Sub h h' → ∀ x ∈ xs, ∀ (K : VQ) (K' : Hep → Prop), (p x = true → ∀ h2, Sub h' h2 → K (g x) h2) → (p x = false → ∀ h2, Sub h' h2 → K' h2) → onO (bind (f x) env) fun env' => wCs C cnd env' h' (fun b h1 => if b = true then elt env' h1 K (fun _ _ => False) else K' h1) (fun _ _ => False)) →
    Sub h h' → (∀ h2, Sub h h2 → newL h2 (acc ++ (xs.filter p).map g) Q) → lcW (wCs C cnd) elt bind pins env Q (xs.map f) acc h'
  | [], acc, h', st, s, q => by
    have q := q h' s
    rw [List.filter_nil, List.map_nil, List.append_nil] at q
    exact ⟨pn h' s, q⟩
  | x :: xs, acc, h', st, s, q => by
    refine ⟨pn h' s, ?_⟩
    refine st h' s x List.mem_cons_self (fun y h2 => lcW (wCs C cnd) elt bind pins env Q (xs.map f) (acc ++ [y]) h2) (fun h2 => lcW (wCs C cnd) elt bind pins env Q (xs.map f) acc h2) (fun e h2 s2 => ?_) (fun e h2 s2 => ?_)
    · refine lc_fil pn xs (fun h' s' x' hx => st h' s' x' (List.mem_cons_of_mem _ hx)) (s.trans s2) fun h3 s3 => ?_
      have q := q h3 s3
      rw [List.filter_cons_of_pos e, List.map_cons] at q
      rw [List.append_assoc]
      exact q
    · refine lc_fil pn xs (fun h' s' x' hx => st h' s' x' (List.mem_cons_of_mem _ hx)) (s.trans s2) fun h3 s3 => ?_
      have q := q h3 s3
      rw [List.filter_cons_of_neg (by rw [e]; exact Bool.false_ne_true)] at q
      exact q
theorem enumV_zip : ∀ (vs : List Val) (n : Nat), enumV n vs = (vs.zipIdx n).map fun q => .tup [.int (q.2 : Nat), q.1]
  | [], _ => rfl
  | v :: vs, n => by
    rw [List.zipIdx_cons, List.map_cons, ← enumV_zip vs (n + 1)]
    rfl
theorem fil_rds {h : Hep} {F : Nat → D} {P : Nat → Bool} : ∀ (m n : Nat) {vs : List Val}, Rds h ((List.range' n m).map F) vs → Rds h (((List.range' n m).filter P).map F) (((vs.zipIdx n).filter fun q => P q.2).map fun q => q.1)
  | 0, n, vs, rd => by
    have e : vs = [] := rd
    subst e
    exact rfl
  | m + 1, n, vs, rd => by
    rw [List.range'_succ, List.map_cons] at rd
    obtain ⟨v, r, e, a, b⟩ := rd
    subst e
    have ih := fil_rds (P := P) m (n + 1) b
    rw [List.range'_succ, List.zipIdx_cons]
    cases c : P n with
    | true =>
      rw [List.filter_cons_of_pos c, List.filter_cons_of_pos (by exact c), List.map_cons, List.map_cons]
      exact Rds.cons a ih
    | false =>
      rw [List.filter_cons_of_neg (by rw [c]; exact Bool.false_ne_true), List.filter_cons_of_neg (by show ¬ P n = true; rw [c]; exact Bool.false_ne_true)]
      exact ih
theorem all2_idx {h : Hep} {F : Nat → D} {g : Nat → Val} {is : List Nat} {vs : List Val} (rds : Rds h (is.map F) vs) : All2 (fun v y => ∃ i ∈ is, Rd h (F i) v ∧ y = g i) vs (is.map g) := by
  have key : ∀ {rs : List Nat} {vs : List Val}, (∀ r ∈ rs, r ∈ is) → Rds h (rs.map F) vs → All2 (fun v y => ∃ i ∈ is, Rd h (F i) v ∧ y = g i) vs (rs.map g) := by
    intro rs
    induction rs with
    | nil => intro vs _ e; rw [show vs = [] from e]; exact .nil
    | cons r rs ih =>
      intro vs hm ⟨v1, vs1, e, a, b⟩
      subst e
      exact .cons ⟨r, hm r List.mem_cons_self, a, rfl⟩ (ih (fun z hz => hm z (List.mem_cons_of_mem _ hz)) b)
  exact key (fun _ h => h) rds
structure PriceLib (T : Str → Option Fc) : Prop extends CaseLib T where
  lw : LWorthLib T
  cs : T "_law_w_case" = some ⟨4, 6, c__law_w_case⟩
  at' : T "_law_w_at_signs" = some ⟨3, 5, c__law_w_at_signs⟩
  vl : VeilLib T
  sa : T "_law_same" = some ⟨2, 4, c__law_same⟩
  co : T "_law_copied" = some ⟨1, 4, c__law_copied⟩
  lo : T "_law_loose" = some ⟨2, 4, c__law_loose⟩
  mi' : T "_law_minus" = some ⟨2, 2, c__law_minus⟩
  pr : T "_law_price_right" = some ⟨4, 17, c__law_price_right⟩
  lr : T "_law_less_right" = some ⟨4, 14, c__law_less_right⟩
def c_pr_end : Sxs := .cons (.asg (.nm 12) (.lc (.var 15) (.tc (.nm 14) (.tc (.nm 15) .tn)) (.enum (.call "_law_w_at_signs" (.cons (.var 1) (.cons (.var 2) (.cons (.var 3) .nil))))) (.cons (.cmp .NotEq (.call "_law_total" (.cons (.call "_law_weights" (.cons (.var 1) (.cons (.var 3) (.cons (.var 14) .nil)))) .nil)) (.tup (.cons (.int 0) (.cons (.int 1) .nil)))) .nil) [14, 15])) (.cons (.asg (.nm 13) (.lc (.var 16) (.nm 16) (.rng1 (.bi .len (.cons (.var 2) .nil))) (.cons (.bi .all (.cons (.lc (.cmp .Eq (.ix (.var 15) (.var 16)) (.call "_law_greatest" (.cons (.var 15) .nil))) (.nm 15) (.seq (.var 12)) .nil [15]) .nil)) .nil) [16])) (.cons (.ret (.cmp .Eq (.cmp .Eq (.ix (.var 8) (.int 0)) (.tup (.cons (.int 0) (.cons (.int 1) .nil)))) (.cmp .NotEq (.var 13) (.lst .nil)))) .nil))
/-- one deed best behind all signs that come, as the law looks for it -/
theorem pr_end (hT : PriceLib T) {k t s d : Nat} {v0 z4 z5 z6 z7 z9 z10 z11 : Option Val} {c : List Rat} {wish look : List (List Rat)} {pc pw pl pd : Addr} {x : Val} {h g : Hep} {Q : VQ} {E : XE'} (sb : Sub h g) (hd : g pd = some (.lst [fr (worthR c wish look s - maxR (deedR wish c)), x]))
    (rc : Rd g (rowL c) (.ref pc)) (rw' : Rd g (tabL wish) (.ref pw)) (rl : Rd g (tabL look) (.ref pl)) (hc : Chan c t) (lw : Wishs wish t d) (ll : Looks look t s) (t0 : 0 < t) (t1 : t ≤ 8) (s1 : s ≤ 8) (d0 : 0 < d) (d1 : d ≤ 8) (q : Q (.bl true) h) :
    wSs (Calls T (k + 10)) c_pr_end [v0, some (.ref pc), some (.ref pw), some (.ref pl), z4, z5, z6, z7, some (.ref pd), z9, z10, z11, none, none, none, none, none] g { nx := fun _ h1 => Dr h1 (Q .non), rt := fun v h1 => Dr h1 (Q v), bk := fun _ _ => False, ct := fun _ _ => False } E := by
  refine lat_ok hT.lw hT.at' (k := k + 5) (rowL_its rc) rw' rl hc.len hc.bd lw.tab ll.tab t0 t1 s1 d1 fun v g1 s1' rd1 => ?_
  obtain ⟨pa, vs, rfl, hpa, rds⟩ := tabL_out rd1
  have la : vs.length = s := by
    rw [rds.length, List.length_map]
    unfold atR
    rw [List.length_map, ll.tab.cols.len]
  refine src_refI hpa ?_
  show Sm (enumV 0 vs).length ∧ lcW _ _ _ _ _ _ (enumV 0 vs) [] g1
  rw [enumV_zip]
  refine ⟨show (_ : Nat) < 1000000 by rw [List.length_map, List.length_zipIdx]; omega, ?_⟩
  have mb : ∀ i, i < s → ∀ y ∈ mulR c (colR look i), Bd 17 y := fun i hi => mulR_bd hc.bd (ll.tab.cols.bd _ (List.mem_map.mpr ⟨i, List.mem_range.mpr hi, rfl⟩))
  have ml : ∀ i, (mulR c (colR look i)).length ≤ 8 := fun i => by have := mulR_len c (colR look i); have := hc.len; omega
  refine lc_fil (p := fun q => decide (sumR (mulR c (colR look q.2)) ≠ 0)) (g := fun q => q.1) (pins := [(pa, vs)]) (h := g1) (fun h' s' => ⟨s' _ _ hpa, trivial⟩) (vs.zipIdx 0) (fun h' s' q hq K K' kk kk' => ?_) (Sub.refl g1) fun g2 s2 => ?_
  · obtain ⟨v, i⟩ := q
    have hi : i < s := by
      have := List.mem_zipIdx hq
      omega
    have sg := s1'.trans s'
    refine lweights_ok hT.lw (k := k + 7) (n := 8) (m := 8) (c := c) rfl hi (rowL_its (rc.sub sg)) (rl.sub sg) ll.tab hc.bd (by decide) (by decide) (by decide) (by have := hc.len; omega) ?_
    refine newL_in fun p1 np1 => ?_
    have sp := (Sub.refl h').new (o := .lst ((mulR c (colR look i)).map fr)) np1
    refine ltotal_ok hT.lw.toLSumLib (k := k + 7) (n := 17) (xs := mulR c (colR look i)) (.inr ⟨p1, rfl, hset_same⟩) (by decide) (mb i hi) (by have := ml i; omega) (by decide) ?_
    refine on_fr (x := sumR (mulR c (colR look i))) (y := 0) ?_
    by_cases z : sumR (mulR c (colR look i)) = 0
    · refine ifF (by rw [eqv_fr, decide_eq_true z]; rfl) ?_
      exact kk' (by show decide (sumR (mulR c (colR look i)) ≠ 0) = false; rw [z]; rfl) _ sp
    · refine ifT (by rw [eqv_fr, decide_eq_false z]; rfl) ?_
      exact kk (decide_eq_true z) _ sp
  · refine newL_in fun pr npr => ?_
    have s3 : Sub g1 (hset g2 pr (.lst ([] ++ ((vs.zipIdx 0).filter fun q => decide (sumR (mulR c (colR look q.2)) ≠ 0)).map fun q => q.1))) := s2.trans ((Sub.refl g2).new npr)
    have rds3 := fil_rds (F := fun i => rowL (deedR wish (mulR c (colR look i)))) (P := fun i => decide (sumR (mulR c (colR look i)) ≠ 0)) s 0 (vs := vs) (h := g1) (by
      rw [← List.range_eq_range']
      unfold atR colsR at rds
      rw [List.map_map, List.map_map] at rds
      exact rds)
    generalize hvr : (((vs.zipIdx 0).filter fun q => decide (sumR (mulR c (colR look q.2)) ≠ 0)).map fun q => q.1) = vr at *
    generalize hidx : ((List.range' 0 s).filter fun i => decide (sumR (mulR c (colR look i)) ≠ 0)) = idx at *
    generalize hg3 : hset g2 pr (.lst ([] ++ vr)) = g3 at *
    have hpr : g3 pr = some (.lst vr) := by rw [← hg3, hset_same]; rfl
    have midx : ∀ i, i ∈ idx ↔ i < s ∧ sumR (mulR c (colR look i)) ≠ 0 := fun i => by
      rw [← hidx, List.mem_filter, ← List.range_eq_range', List.mem_range, decide_eq_true_iff]
    have li : idx.length ≤ s := by
      rw [← hidx]
      refine Nat.le_trans (List.length_filter_le _ _) ?_
      rw [List.length_range']
      exact Nat.le_refl _
    obtain ⟨pw', ws, ew, hpw, rdw⟩ := tabL_out (rw'.sub (s1'.trans s3))
    cases ew
    have lws : ws.length = d := by rw [rdw.length, List.length_map, lw.tab.len]
    refine onJ_ref hpw ?_
    rw [lws]
    refine rng_lc rfl (by omega) ?_
    refine lc_fil (p := fun e => idx.all fun i => decide ((deedR wish (mulR c (colR look i))).getD e 0 = maxR (deedR wish (mulR c (colR look i))))) (g := fun e : Nat => .int e) (pins := []) (h := g3) (fun _ _ => trivial) (List.range d) (fun h' s' e he K K' kk kk' => ?_) (Sub.refl g3) fun g4 s4 => ?_
    · have he := List.mem_range.mp he
      have hpr' := s' _ _ hpr
      have lvr : vr.length = idx.length := by rw [rds3.length, List.length_map]
      refine src_refI hpr' ?_
      refine ⟨show vr.length < 1000000 by omega, ?_⟩
      refine lc_rel0 (pins := [(pr, vr)]) (P := fun v y => ∃ i ∈ idx, Rd h' (rowL (deedR wish (mulR c (colR look i)))) v ∧ y = .bl (decide ((deedR wish (mulR c (colR look i))).getD e 0 = maxR (deedR wish (mulR c (colR look i)))))) ⟨hpr', trivial⟩ (fun v y ⟨i, hi, r1, e1⟩ K1 kk1 => ?_) (ys := idx.map fun i => .bl (decide ((deedR wish (mulR c (colR look i))).getD e 0 = maxR (deedR wish (mulR c (colR look i)))))) (all2_idx (rds3.sub (s3.trans s'))) ?_
      · subst e1
        have hi' := (midx i).mp hi
        obtain ⟨p1, rfl, hp1⟩ := rowL_out r1
        have ld : (deedR wish (mulR c (colR look i))).length = d := by unfold deedR; rw [List.length_map, lw.tab.len]
        have ge : (deedR wish (mulR c (colR look i)))[e]? = some ((deedR wish (mulR c (colR look i))).getD e 0) := by
          rw [List.getD_eq_getElem?_getD, List.getElem?_eq_getElem (by omega)]
          rfl
        refine opIx_list hp1 (v := fr ((deedR wish (mulR c (colR look i))).getD e 0)) (atI_nat (by rw [List.getElem?_map, ge]; rfl)) ?_
        refine lgreatest_ok hT.lw (k := k + 8) (n := 209) hp1 (fun z => ?_) (by decide) (by decide) (fun x hx => deedR_bd (l := 8) (mb i hi'.1) lw.tab (ml i) x hx) ?_
        · rw [z, List.length_nil] at ld
          omega
        · refine on_fr (x := (deedR wish (mulR c (colR look i))).getD e 0) (y := maxR (deedR wish (mulR c (colR look i)))) ?_
          rw [eqv_fr]
          exact kk1
      · refine newL_in fun p5 np5 => ?_
        have sp5 := (Sub.refl h').new (o := .lst (idx.map fun i => .bl (decide ((deedR wish (mulR c (colR look i))).getD e 0 = maxR (deedR wish (mulR c (colR look i))))))) np5
        refine onB_in (bs := idx.map fun i => decide ((deedR wish (mulR c (colR look i))).getD e 0 = maxR (deedR wish (mulR c (colR look i))))) (by rw [hset_same, List.map_map]; rfl) ?_
        have ea : (idx.map fun i => decide ((deedR wish (mulR c (colR look i))).getD e 0 = maxR (deedR wish (mulR c (colR look i))))).all id = idx.all fun i => decide ((deedR wish (mulR c (colR look i))).getD e 0 = maxR (deedR wish (mulR c (colR look i)))) := by rw [List.all_map]; rfl
        cases cc : idx.all fun i => decide ((deedR wish (mulR c (colR look i))).getD e 0 = maxR (deedR wish (mulR c (colR look i)))) with
        | true =>
          refine ifT (by rw [ea, cc]) ?_
          exact kk cc _ sp5
        | false =>
          refine ifF (by rw [ea, cc]) ?_
          exact kk' cc _ sp5
    · refine newL_in fun p6 np6 => ?_
      have sp6 := s4.trans ((Sub.refl g4).new (o := .lst ([] ++ ((List.range d).filter fun e => idx.all fun i => decide ((deedR wish (mulR c (colR look i))).getD e 0 = maxR (deedR wish (mulR c (colR look i))))).map fun e : Nat => Val.int e)) np6)
      have sAll := s1'.trans (s3.trans sp6)
      refine opIx_list (sAll _ _ hd) (v := fr (worthR c wish look s - maxR (deedR wish c))) (atI_nat (j := 0) rfl) ?_
      refine on_fr (x := worthR c wish look s - maxR (deedR wish c)) (y := 0) ?_
      rw [eqv_fr]
      refine newL_in fun p7 np7 => ?_
      have sp7 := (Sub.refl (hset g4 p6 (.lst ([] ++ ((List.range d).filter fun e => idx.all fun i => decide ((deedR wish (mulR c (colR look i))).getD e 0 = maxR (deedR wish (mulR c (colR look i))))).map fun e : Nat => Val.int e)))).new (o := .lst []) np7
      have em : ([] ++ ((List.range d).filter fun e => idx.all fun i => decide ((deedR wish (mulR c (colR look i))).getD e 0 = maxR (deedR wish (mulR c (colR look i))))).map fun e : Nat => Val.int e) = (((List.range d).filter fun e => idx.all fun i => decide ((deedR wish (mulR c (colR look i))).getD e 0 = maxR (deedR wish (mulR c (colR look i))))).map fun e : Nat => (e : Int)).map Val.int := by rw [List.map_map]; rfl
      refine onD_list (sp7 _ _ hset_same) (by rw [em]; exact datN_ints _ _ _) (shaped_ints _) ?_
      refine onD_list hset_same (datN_ints _ _ []) (shaped_ints []) ?_
      have iff := price_iff hc lw ll d0
      have hfin : decide (decide (worthR c wish look s - maxR (deedR wish c) = 0) = !PyData.eqv (.list ((((List.range d).filter fun e => idx.all fun i => decide ((deedR wish (mulR c (colR look i))).getD e 0 = maxR (deedR wish (mulR c (colR look i))))).map fun e : Nat => (e : Int)).map PyData.int)) (.list (([] : List Int).map PyData.int))) = true := by
        refine decide_eq_true ?_
        generalize hal : ((List.range d).filter fun e => idx.all fun i => decide ((deedR wish (mulR c (colR look i))).getD e 0 = maxR (deedR wish (mulR c (colR look i))))) = al
        have mal : ∀ e, e ∈ al ↔ e < d ∧ ∀ j, j < s → sumR (mulR c (colR look j)) ≠ 0 → (deedR wish (mulR c (colR look j))).getD e 0 = maxR (deedR wish (mulR c (colR look j))) := fun e => by
          rw [← hal, List.mem_filter, List.mem_range, List.all_eq_true]
          constructor
          · rintro ⟨h1, h2⟩
            exact ⟨h1, fun j hj hz => of_decide_eq_true (h2 j ((midx j).mpr ⟨hj, hz⟩))⟩
          · rintro ⟨h1, h2⟩
            exact ⟨h1, fun j hj => decide_eq_true (h2 j ((midx j).mp hj).1 ((midx j).mp hj).2)⟩
        cases al with
        | nil =>
          have no : ¬ (worthR c wish look s - maxR (deedR wish c) = 0) := fun z => by
            obtain ⟨e, h1, h2⟩ := iff.mp z
            have := (mal e).mpr ⟨h1, h2⟩
            cases this
          rw [decide_eq_false no]
          rfl
        | cons e al =>
          have yes : worthR c wish look s - maxR (deedR wish c) = 0 := by
            have := (mal e).mp List.mem_cons_self
            exact iff.mpr ⟨e, this.1, this.2⟩
          rw [decide_eq_true yes]
          rfl
      refine ⟨h, sb.trans (sAll.trans sp7), ?_⟩
      rw [show (Val.bl _ : Val) = .bl true from congrArg Val.bl hfin]
      exact q
end
end KM
/-! KQA: any object as a fraction, as chances, by the law's own look. -/
namespace KM
open PySem PySem.Spec PyProof.Rows L2
def c__law_is_frac : Sxs := .cons (.ife (.or (.not (.bi .isi (.cons (.var 0) (.cons (.tup (.cons (.ty "list") (.cons (.ty "tuple") .nil))) .nil)))) (.cmp .NotEq (.bi .len (.cons (.var 0) .nil)) (.int 2))) (.cons (.ret (.bl false)) .nil) .nil) (.cons (.ife (.or (.not (.bi .all (.cons (.lc (.and (.bi .isi (.cons (.var 3) (.cons (.ty "int") .nil))) (.not (.bi .isi (.cons (.var 3) (.cons (.ty "bool") .nil))))) (.nm 3) (.seq (.var 0)) .nil [3]) .nil))) (.cmp .Lt (.ix (.var 0) (.int 1)) (.int 1))) (.cons (.ret (.bl false)) .nil) .nil) (.cons (.par [1, 2] (.cons (.bi .abs (.cons (.ix (.var 0) (.int 0)) .nil)) (.cons (.ix (.var 0) (.int 1)) .nil))) (.cons (.whil (.cmp .Gt (.var 2) (.int 0)) (.cons (.par [1, 2] (.cons (.var 2) (.cons (.bin .Mod (.bi .int (.cons (.var 1) .nil)) (.var 2)) .nil))) .nil)) (.cons (.ret (.cmp .Eq (.var 1) (.int 1))) .nil))))
def c__law_is_chances : Sxs := .cons (.ife (.or (.not (.bi .isi (.cons (.var 0) (.cons (.tup (.cons (.ty "list") (.cons (.ty "tuple") .nil))) .nil)))) (.not (.bi .all (.cons (.lc (.and (.call "_law_is_frac" (.cons (.var 1) .nil)) (.cmp .GtE (.ix (.var 1) (.int 0)) (.int 0))) (.nm 1) (.seq (.var 0)) .nil [1]) .nil)))) (.cons (.ret (.bl false)) .nil) .nil) (.cons (.ret (.cmp .Eq (.call "_law_total" (.cons (.lc (.bi .tuple (.cons (.var 1) .nil)) (.nm 1) (.seq (.var 0)) .nil [1]) .nil)) (.tup (.cons (.int 1) (.cons (.int 1) .nil))))) .nil)
section
variable {T : Str → Option Fc}
/-- whether this is a whole number, no truth value -/
theorem whole_elt {C : CalT} {e0 e1 e2 : Option Val} {v : Val} {d : D} {h : Hep} {K : VQ} (rd : Rd h d v) (kk : K (.bl d.isI) h) : wE C (.and (.bi .isi (.cons (.var 3) (.cons (.ty "int") .nil))) (.not (.bi .isi (.cons (.var 3) (.cons (.ty "bool") .nil))))) [e0, e1, e2, some v] h K (fun _ _ => False) := by
  cases d
  case bl b =>
    refine isi_T rd rfl rfl ?_
    refine isi_T rd rfl rfl ?_
    exact kk
  case int i =>
    refine isi_T rd rfl rfl ?_
    refine isi_F rd rfl rfl ?_
    exact kk
  all_goals
    refine isi_F rd rfl rfl ?_
    exact kk
theorem lis_frac_gen (hT : T "_law_is_frac" = some ⟨1, 4, c__law_is_frac⟩) {k : Nat} {v : Val} {d : D} {h : Hep} {Q : VQ} {E : XQ} (rd : Rd h d v) (q : Q (.bl d.frac.isSome) h) : Calls T (k + 1) "_law_is_frac" [v] h Q E := by
  refine Calls_eq [some v, none, none, none] hT rfl rfl ?_
  refine isi_tup rd (b := d.isL || d.isT) (by cases d <;> rfl) ?_
  unfold D.frac at q
  cases e : d.items with
  | none =>
    rw [e] at q
    refine ifT (by rw [items_seq, e]; rfl) ?_
    exact Dr.here q
  | some ds =>
    rw [e] at q
    have q : Q (.bl (fracOf ds).isSome) h := q
    refine ifF (by rw [items_seq, e]; rfl) ?_
    obtain ⟨vs, i, r⟩ := rd_its rd e
    refine onJ_its i ?_
    by_cases l2 : (vs.length : Int) = 2
    · refine ifF (by rw [decide_eq_true l2]; rfl) ?_
      refine src_its i fun pins hp => ?_
      refine ⟨show vs.length < 1000000 by omega, ?_⟩
      refine lc_rel0 (P := fun v y => ∃ d ∈ ds, Rd h d v ∧ y = .bl d.isI) (hp h (Sub.refl h)) (fun v y ⟨x, hx, r1, e1⟩ K kk => ?_) (all2_rds (P := fun _ _ _ => True) (f := fun d => .bl d.isI) r) ?_
      · subst e1
        exact whole_elt r1 kk
      · refine newL_in fun p np => ?_
        have sp := (Sub.refl h).new (o := .lst (ds.map fun d => .bl d.isI)) np
        refine onB_in (bs := ds.map D.isI) (by rw [hset_same, List.map_map]; rfl) ?_
        have i2 := i.sub sp
        generalize hset h p (.lst (ds.map fun d => .bl d.isI)) = g0 at *
        match ds, vs, r, l2, q, i2 with
        | [d0, d1], _, ⟨v0, _, e0, r0, v1, _, e1, r1, e2⟩, l2, q, i2 =>
          subst e0 e1
          have e3 : _ = [] := e2
          subst e3
          cases w0 : d0.isI with
          | false =>
            have z : fracOf [d0, d1] = none := by cases d0 <;> first | rfl | cases w0
            rw [z] at q
            refine ifT (by simp [w0]) ?_
            exact ⟨h, sp, q⟩
          | true =>
            cases w1 : d1.isI with
            | false =>
              have z : fracOf [d0, d1] = none := by cases d0 <;> cases d1 <;> first | rfl | cases w1
              rw [z] at q
              refine ifT (by simp [w1]) ?_
              exact ⟨h, sp, q⟩
            | true =>
              obtain ⟨a, rfl⟩ : ∃ a, d0 = .int a := by cases d0 <;> first | exact ⟨_, rfl⟩ | cases w0
              obtain ⟨b, rfl⟩ : ∃ b, d1 = .int b := by cases d1 <;> first | exact ⟨_, rfl⟩ | cases w1
              have e0 : v0 = .int a := r0
              have e1 : v1 = .int b := r1
              subst e0 e1
              have q2 : Q (.bl (if 0 < b ∧ Int.gcd a b = 1 then some (Rat.divInt a b) else none).isSome) h := q
              refine its_ix i2 (x := .int b) rfl ?_
              by_cases b1 : b < 1
              · refine ifT (decide_eq_true b1) ?_
                rw [if_neg (by omega)] at q2
                exact ⟨h, sp, q2⟩
              · refine ifF (decide_eq_false b1) ?_
                refine its_ix i2 (x := .int a) rfl ?_
                refine its_ix i2 (x := .int b) rfl ?_
                show wSs _ (.cons (.whil _ _) _) [some v, some (.int (if a < 0 then -a else a)), some (.int b), none] _ _ _
                rw [abs_nat]
                refine ⟨fun m env g => Sub h g ∧ ∃ x y : Nat, env = [some v, some (.int x), some (.int y), none] ∧ Nat.gcd x y = Int.gcd a b ∧ y = m, ⟨_, sp, a.natAbs, b.natAbs, by rw [Int.natAbs_of_nonneg (show 0 ≤ b by omega)], rfl, rfl⟩, ?_⟩
                rintro m env g ⟨sg, x, y, rfl, hg, rfl⟩
                by_cases hy : y = 0
                · refine ifF (decide_eq_false (by omega)) ?_
                  rw [hy, Nat.gcd_zero_right] at hg
                  have ee : decide ((x : Int) = 1) = (if 0 < b ∧ Int.gcd a b = 1 then some (Rat.divInt a b) else none).isSome := by
                    by_cases g1 : Int.gcd a b = 1
                    · rw [if_pos ⟨by omega, g1⟩]
                      exact decide_eq_true (by omega)
                    · rw [if_neg (fun z => g1 z.2)]
                      exact decide_eq_false (by omega)
                  refine ⟨h, sg, ?_⟩
                  rw [← ee] at q2
                  exact q2
                · refine ifT (decide_eq_true (by omega)) ?_
                  refine ⟨by omega, ?_⟩
                  rw [nat_fmod]
                  refine ⟨_, Nat.mod_lt x (by omega), sg, _, _, rfl, ?_, rfl⟩
                  rw [← hg, Nat.gcd_comm, ← Nat.gcd_rec, Nat.gcd_comm]
        | [], _, r, l2, _, _ => exact absurd l2 (by rw [r.length]; simp)
        | [_], _, r, l2, _, _ => exact absurd l2 (by rw [r.length]; simp)
        | _ :: _ :: _ :: _, _, r, l2, _, _ => exact absurd l2 (by rw [r.length]; simp; omega)
    · refine ifT (by rw [decide_eq_false l2]; rfl) ?_
      have z : fracOf ds = none := by
        rw [r.length] at l2
        match ds, l2 with
        | [], _ => rfl
        | [_], _ => unfold fracOf; split <;> first | rfl | (rename_i h; cases h)
        | [_, _], l2 => exact absurd rfl l2
        | _ :: _ :: _ :: _, _ => unfold fracOf; split <;> first | rfl | (rename_i h; cases h)
      rw [z] at q
      exact Dr.here q
/-- a thing that is a fraction: its numbers -/
theorem frac_its {h : Hep} {d : D} {v : Val} {x : Rat} (rd : Rd h d v) (e : d.frac = some x) : Its h v [.int x.num, .int x.den] := by
  unfold D.frac at e
  cases ei : d.items with
  | none => rw [ei] at e; cases e
  | some ds =>
    rw [ei] at e
    replace e : fracOf ds = some x := e
    obtain ⟨vs, i, r⟩ := rd_its rd ei
    unfold fracOf at e
    split at e
    · rename_i a b
      split at e
      · rename_i hab
        cases e
        obtain ⟨v0, r0, e0, q0, v1, r1, e1, q1, e2⟩ := r
        have z0 : v0 = .int a := q0
        have z1 : v1 = .int b := q1
        have z2 : r1 = [] := e2
        subst e0 e1 z0 z1 z2
        have ef := fr_gcd hab.1 hab.2
        unfold fr at ef
        injection ef with ef
        rw [ef]
        exact i
      · cases e
    · cases e
structure IsChLib (T : Str → Option Fc) : Prop extends LSumLib T where
  isf : T "_law_is_frac" = some ⟨1, 4, c__law_is_frac⟩
def chanOk (d : D) : Bool := match d.frac with
  | some x => decide (0 ≤ x)
  | none => false
theorem chan_elt (hT : IsChLib T) {k : Nat} {e0 : Option Val} {v : Val} {d : D} {h : Hep} {K : VQ} (rd : Rd h d v) (kk : K (.bl (chanOk d)) h) : wE (Calls T (k + 1)) (.and (.call "_law_is_frac" (.cons (.var 1) .nil)) (.cmp .GtE (.ix (.var 1) (.int 0)) (.int 0))) [e0, some v] h K (fun _ _ => False) := by
  refine lis_frac_gen hT.isf (k := k) rd ?_
  unfold chanOk at kk
  cases e : d.frac with
  | none =>
    rw [e] at kk
    exact kk
  | some x =>
    rw [e] at kk
    refine its_ix (frac_its rd e) (x := .int x.num) rfl ?_
    have ee : decide ((0 : Int) ≤ x.num) = decide (0 ≤ x) := by rw [decide_eq_decide]; exact num_nn
    show K (.bl (decide ((0 : Int) ≤ x.num))) h
    rw [ee]
    exact kk
theorem tup_its {h : Hep} {v : Val} {xs : List Val} {Q : Val → Hep → Prop} (i : Its h v xs) (q : Q (.tup xs) h) : opF .tuple [v] h Q := onJ_its i q
theorem chances_rows : ∀ {ds : List D}, ds.all chanOk = true → ∃ xs, ds.mapM D.frac = some xs ∧ (∀ x ∈ xs, 0 ≤ x) ∧ (ds.map fun d => optV fr d.frac) = xs.map fr ∧ xs.length = ds.length
  | [], _ => ⟨[], rfl, fun _ h => (by cases h), rfl, rfl⟩
  | d :: ds, h => by
    rw [List.all_cons, Bool.and_eq_true] at h
    obtain ⟨xs, e1, e2, e3, e4⟩ := chances_rows h.2
    have h1 := h.1
    unfold chanOk at h1
    cases e : d.frac with
    | none => rw [e] at h1; cases h1
    | some x =>
      rw [e] at h1
      refine ⟨x :: xs, by rw [List.mapM_cons, e, e1]; rfl, fun y hy => ?_, by rw [List.map_cons, e, e3]; rfl, by rw [List.length_cons, List.length_cons, e4]⟩
      rcases List.mem_cons.mp hy with rfl | hy
      · exact of_decide_eq_true h1
      · exact e2 y hy
theorem chances_none : ∀ {ds : List D}, ds.all chanOk = false → ∀ xs, ds.mapM D.frac = some xs → (xs.any fun x => decide (x < 0)) = true
  | [], h, _, _ => by cases h
  | d :: ds, h, xs, e => by
    rw [List.mapM_cons] at e
    cases ef : d.frac with
    | none => rw [ef] at e; cases e
    | some x =>
      rw [ef] at e
      cases em : ds.mapM D.frac with
      | none => rw [em] at e; cases e
      | some ys =>
        rw [em] at e
        cases e
        rw [List.any_cons]
        rw [List.all_cons, Bool.and_eq_false_iff] at h
        rcases h with h | h
        · unfold chanOk at h
          rw [ef] at h
          have : ¬ 0 ≤ x := of_decide_eq_false h
          rw [decide_eq_true (Rat.not_le.mp this), Bool.true_or]
        · rw [chances_none h ys em, Bool.or_true]
theorem lis_chances_gen (hT : IsChLib T) (nm : Str) (hC : T nm = some ⟨1, 2, c__law_is_chances⟩) {k n : Nat} {v : Val} {d : D} {h : Hep} {Q : VQ} {E : XQ} (rd : Rd h d v) (hw : d.wid < 1000000) (h0 : 0 < n) (hn : n ≤ 900) (fit : ∀ xs, d.row = some xs → Fit n xs) (q : Q (.bl d.chances.isSome) h) : Calls T (k + 4) nm [v] h Q E := by
  refine Calls_eq [some v, none] hC rfl rfl ?_
  refine isi_tup rd (b := d.isL || d.isT) (by cases d <;> rfl) ?_
  unfold D.chances D.row at q
  cases e : d.items with
  | none =>
    rw [e] at q
    refine ifT (by rw [items_seq, e]; rfl) ?_
    exact Dr.here q
  | some ds =>
    rw [e] at q
    have q : Q (.bl ((ds.mapM D.frac).bind chanOf).isSome) h := q
    refine ifF (by rw [items_seq, e]; rfl) ?_
    obtain ⟨vs, i, r⟩ := rd_its rd e
    obtain ⟨len, wd⟩ := wid_items e hw
    have rl := r.length
    refine src_its i fun pins hp => ?_
    refine ⟨show vs.length < 1000000 by rw [rl]; exact len, ?_⟩
    refine lc_rel0 (P := fun v y => ∃ d ∈ ds, Rd h d v ∧ y = .bl (chanOk d)) (hp h (Sub.refl h)) (fun v y ⟨x, hx, r1, e1⟩ K kk => ?_) (all2_rds (P := fun _ _ _ => True) (f := fun d => .bl (chanOk d)) r) ?_
    · subst e1
      exact chan_elt hT (k := k + 2) r1 kk
    · refine newL_in fun p np => ?_
      have sp := (Sub.refl h).new (o := .lst (ds.map fun d => .bl (chanOk d))) np
      refine onB_in (bs := ds.map chanOk) (by rw [hset_same, List.map_map]; rfl) ?_
      have eall : (ds.map chanOk).all id = ds.all chanOk := by rw [List.all_map]; rfl
      cases ca : ds.all chanOk with
      | false =>
        refine ifT (by rw [eall, ca]; rfl) ?_
        have z : ((ds.mapM D.frac).bind chanOf) = none := by
          cases em : ds.mapM D.frac with
          | none => rfl
          | some xs =>
            show chanOf xs = none
            unfold chanOf
            exact if_neg fun z => by rw [chances_none ca xs em] at z; exact absurd z.1 (by decide)
        rw [z] at q
        exact ⟨h, sp, q⟩
      | true =>
        refine ifF (by rw [eall, ca]; rfl) ?_
        obtain ⟨xs, h1, h2, h3, h4⟩ := chances_rows ca
        rw [h1] at q
        have q : Q (.bl (chanOf xs).isSome) h := q
        obtain ⟨bx, hl⟩ := fit xs (by unfold D.row; rw [e]; exact h1)
        refine src_its (i.sub sp) fun pins2 hp2 => ?_
        refine ⟨show vs.length < 1000000 by rw [rl]; exact len, ?_⟩
        refine lc_rel0 (P := fun v y => ∃ d ∈ ds, Rd h d v ∧ y = optV fr d.frac) (hp2 _ (Sub.refl _)) (fun v y ⟨x, hx, r1, e1⟩ K kk => ?_) (all2_rds (P := fun _ _ _ => True) (f := fun d => optV fr d.frac) r) ?_
        · subst e1
          have cx := List.all_eq_true.mp ca x hx
          unfold chanOk at cx
          cases ef : x.frac with
          | none => rw [ef] at cx; cases cx
          | some y =>
            rw [ef] at kk
            exact tup_its ((frac_its r1 ef).sub sp) kk
        · rw [h3]
          refine newL_in fun p2 np2 => ?_
          have sp2 := sp.trans ((Sub.refl _).new (o := .lst (xs.map fr)) np2)
          refine ltotal_ok hT.toLSumLib (k := k) (n := n) (.inr ⟨p2, rfl, hset_same⟩) h0 bx hl (by omega) ?_
          refine on_fr (x := sumR xs) (y := 1) ?_
          rw [eqv_fr]
          have ee : (chanOf xs).isSome = decide (sumR xs = 1) := by
            unfold chanOf
            by_cases s1 : sumR xs = 1
            · rw [if_pos ⟨any_neg h2, s1⟩, decide_eq_true s1]; rfl
            · rw [if_neg (fun z => s1 z.2), decide_eq_false s1]; rfl
          rw [ee] at q
          exact ⟨h, sp2, q⟩
end
end KM
/-! KQB: lists of fractions, means. -/
namespace KM
open PySem PySem.Spec PyProof.Rows L2
def c_first_wrong : Sxs := .cons (.ife (.not (.call "is_list" (.cons (.var 0) .nil))) (.cons (.ret (.int 0)) .nil) .nil) (.cons (.forr (.tc (.nm 1) (.tc (.nm 2) .tn)) (.enum (.var 0)) (.cons (.ife (.cmp .Is (.call "kept_fraction" (.cons (.var 2) .nil)) .non) (.cons (.ret (.var 1)) .nil) .nil) .nil)) (.cons (.ret .non) .nil))
def c_need_fractions : Sxs := .cons (.asg (.nm 1) (.call "first_wrong" (.cons (.var 0) .nil))) (.cons (.ife (.cmp .IsNot (.var 1) .non) (.cons .bad .nil) .nil) (.cons (.ret (.call "kept_row" (.cons (.var 0) .nil))) .nil))
def c_summed : Sxs := .cons (.ret (.call "total" (.cons (.call "need_fractions" (.cons (.var 0) .nil)) .nil))) .nil
def c_least : Sxs := .cons (.asg (.nm 1) (.ix (.var 0) (.int 0))) (.cons (.forr (.nm 2) (.seq (.var 0)) (.cons (.asg (.nm 1) (.ife (.call "is_under" (.cons (.var 2) (.cons (.var 1) .nil))) (.var 2) (.var 1))) .nil)) (.cons (.ret (.var 1)) .nil))
def c_greatest_of : Sxs := .cons (.asg (.nm 1) (.call "need_fractions" (.cons (.var 0) .nil))) (.cons (.ife (.cmp .Eq (.var 1) (.tup .nil)) (.cons .bad .nil) .nil) (.cons (.ret (.call "greatest" (.cons (.var 1) .nil))) .nil))
def c_least_of : Sxs := .cons (.asg (.nm 1) (.call "need_fractions" (.cons (.var 0) .nil))) (.cons (.ife (.cmp .Eq (.var 1) (.tup .nil)) (.cons .bad .nil) .nil) (.cons (.ret (.call "least" (.cons (.var 1) .nil))) .nil))
def c_check_from_one : Sxs := .cons (.ife (.or (.not (.call "is_whole" (.cons (.var 0) .nil))) (.cmp .Lt (.var 0) (.int 1))) (.cons .bad .nil) .nil) .nil
def c_is_chances : Sxs := .cons (.ret (.cmp .IsNot (.call "kept_chances" (.cons (.var 0) .nil)) .non)) .nil
def c_even : Sxs := .cons (.expr (.call "check_from_one" (.cons (.var 0) .nil))) (.cons (.ret (.bin .Mult (.lst (.cons (.tup (.cons (.int 1) (.cons (.var 0) .nil))) .nil)) (.var 0))) .nil)
def c_mean_of : Sxs := .cons (.asg (.nm 2) (.call "need_chances" (.cons (.var 0) .nil))) (.cons (.asg (.nm 3) (.call "first_wrong" (.cons (.var 1) .nil))) (.cons (.ife (.cmp .IsNot (.var 3) .non) (.cons .bad .nil) .nil) (.cons (.ife (.cmp .NotEq (.bi .len (.cons (.var 1) .nil)) (.bi .len (.cons (.var 2) .nil))) (.cons .bad .nil) .nil) (.cons (.ret (.call "dot" (.cons (.var 2) (.cons (.call "kept_row" (.cons (.var 1) .nil)) .nil)))) .nil))))
def c_put_together : Sxs := .cons (.asg (.nm 2) (.call "need_chances" (.cons (.var 0) .nil))) (.cons (.ife (.not (.call "is_list" (.cons (.var 1) .nil))) (.cons .bad .nil) .nil) (.cons (.asg (.nm 3) (.lst .nil)) (.cons (.forr (.tc (.nm 4) (.tc (.nm 5) .tn)) (.enum (.var 1)) (.cons (.asg (.nm 6) (.ife (.cmp .Lt (.var 4) (.bi .len (.cons (.var 2) .nil))) (.call "kept_row" (.cons (.var 5) .nil)) .non)) (.cons (.ife (.or (.cmp .Is (.var 6) .non) (.and (.cmp .NotEq (.var 3) (.lst .nil)) (.cmp .NotEq (.bi .len (.cons (.var 6) .nil)) (.bi .len (.cons (.ix (.var 3) (.int 0)) .nil))))) (.cons .bad .nil) .nil) (.cons (.expr (.mth .append (.var 3) (.cons (.var 6) .nil))) .nil)))) (.cons (.ife (.cmp .Lt (.bi .len (.cons (.var 3) .nil)) (.bi .len (.cons (.var 2) .nil))) (.cons .bad .nil) .nil) (.cons (.ret (.lc (.call "total" (.cons (.lc (.call "times" (.cons (.var 8) (.cons (.ix (.var 6) (.var 7)) .nil))) (.tc (.nm 8) (.tc (.nm 6) .tn)) (.zip (.var 2) (.var 3)) .nil [8, 6]) .nil)) (.nm 7) (.rng1 (.bi .len (.cons (.ix (.var 3) (.int 0)) .nil))) .nil [7])) .nil)))))
structure ListLib (T : Str → Option Fc) : Prop extends ChanLib T where
  un : T "is_under" = some ⟨2, 2, c_is_under⟩
  gr : T "greatest" = some ⟨1, 3, c_greatest⟩
  ls : T "least" = some ⟨1, 3, c_least⟩
  fw : T "first_wrong" = some ⟨1, 3, c_first_wrong⟩
  nf : T "need_fractions" = some ⟨1, 2, c_need_fractions⟩
  su : T "summed" = some ⟨1, 1, c_summed⟩
  go : T "greatest_of" = some ⟨1, 2, c_greatest_of⟩
  lo' : T "least_of" = some ⟨1, 2, c_least_of⟩
  cf : T "check_from_one" = some ⟨1, 1, c_check_from_one⟩
  nc : ∃ b, T "need_chances" = some ⟨1, 2, c_need_chances b⟩
  ic : T "is_chances" = some ⟨1, 1, c_is_chances⟩
  ev : T "even" = some ⟨1, 1, c_even⟩
  me : T "mean_of" = some ⟨2, 4, c_mean_of⟩
  pt : T "put_together" = some ⟨2, 9, c_put_together⟩
section
variable {T : Str → Option Fc}
theorem mapM_all {β : Type} {f : D → Option β} : ∀ {ds : List D} {xs : List β}, ds.mapM f = some xs → ∀ d ∈ ds, ∃ x, f d = some x
  | d :: ds, xs, e, d', hd => by
    rw [List.mapM_cons] at e
    cases ef : f d with
    | none => rw [ef] at e; cases e
    | some x =>
      rw [ef] at e
      cases em : ds.mapM f with
      | none => rw [em] at e; cases e
      | some ys =>
        rcases List.mem_cons.mp hd with rfl | hd
        · exact ⟨x, ef⟩
        · exact mapM_all em d' hd
theorem row_items {d : D} {xs : List Rat} (e : d.row = some xs) : ∃ ds, d.items = some ds ∧ ds.mapM D.frac = some xs := by
  unfold D.row at e
  cases ei : d.items with
  | none => rw [ei] at e; cases e
  | some ds => rw [ei] at e; exact ⟨ds, rfl, e⟩
theorem mapM_len {β : Type} {f : D → Option β} : ∀ {ds : List D} {xs : List β}, ds.mapM f = some xs → xs.length = ds.length
  | [], xs, e => by cases e; rfl
  | d :: ds, xs, e => by
    rw [List.mapM_cons] at e
    cases ef : f d with
    | none => rw [ef] at e; cases e
    | some x =>
      rw [ef] at e
      cases em : ds.mapM f with
      | none => rw [em] at e; cases e
      | some ys =>
        rw [em] at e
        cases e
        rw [List.length_cons, List.length_cons, mapM_len em]
theorem first_for (hT : KeptLib T) {k : Nat} {v : Val} {h : Hep} {D0 : KD} {E : XE'} {pins : List (Addr × List Val)} (hp : pinOk h pins) : ∀ (ds : List D) (vs : List Val) (i : Nat) {z1 z2 : Option Val}, Rds h ds vs → (∀ d ∈ ds, ∃ x, d.frac = some x) → (∀ z1 z2, D0.nx [some v, z1, z2] h) →
    forW (wSs (Calls T (k + 3)) (.cons (.ife (.cmp .Is (.call "kept_fraction" (.cons (.var 2) .nil)) .non) (.cons (.ret (.var 1)) .nil) .nil) .nil)) (bindT (.tc (.nm 1) (.tc (.nm 2) .tn))) pins D0 E (enumV i vs) [some v, z1, z2] h
  | [], vs, i, z1, z2, rd, _, q => by
    have e : vs = [] := rd
    subst e
    exact ⟨hp, q z1 z2⟩
  | d :: ds, vs, i, z1, z2, ⟨v1, vs1, e, r, rds⟩, ha, q => by
    subst e
    refine ⟨hp, ?_⟩
    obtain ⟨x, ex⟩ := ha d List.mem_cons_self
    refine kept_gen hT (k := k) r ?_
    rw [ex]
    exact first_for hT hp ds vs1 (i + 1) rds (fun d hd => ha d (List.mem_cons_of_mem _ hd)) q
theorem first_ok (hT : ListLib T) {k : Nat} {v : Val} {d : D} {xs : List Rat} {h : Hep} {Q : VQ} {E : XQ} (rd : Rd h d v) (e : d.row = some xs) (q : Q .non h) : Calls T (k + 4) "first_wrong" [v] h Q E := by
  refine Calls_eq [some v, none, none] hT.fw rfl rfl ?_
  obtain ⟨ds, ei, em⟩ := row_items e
  refine is_list_ok hT.il (k := k + 2) rd ?_
  refine ifF (by rw [items_seq, ei]; rfl) ?_
  obtain ⟨vs, i, r⟩ := rd_its rd ei
  refine src_its i fun pins hp => ?_
  refine first_for hT.toKeptLib (hp h (Sub.refl h)) ds vs 0 r (mapM_all em) fun z1 z2 => ?_
  exact Dr.here q
theorem need_fr_ok (hT : ListLib T) {k : Nat} {v : Val} {d : D} {xs : List Rat} {h : Hep} {Q : VQ} {E : XQ} (rd : Rd h d v) (hw : d.wid < 1000000) (e : d.row = some xs) (q : Q (rowV xs) h) : Calls T (k + 5) "need_fractions" [v] h Q E := by
  refine Calls_eq [some v, none] hT.nf rfl rfl ?_
  refine first_ok hT (k := k) rd e ?_
  refine row_gen hT.toRowLib (k := k) rd hw ?_
  rw [e]
  exact Dr.here q
theorem summed_ok (hT : ListLib T) {k n : Nat} {v : Val} {d : D} {xs : List Rat} {h : Hep} {Q : VQ} {E : XQ} (rd : Rd h d v) (hw : d.wid < 1000000) (e : d.row = some xs) (f : Fit n xs) (h0 : 0 < n) (hn : n ≤ 3900) (q : Q (fr (sumR xs)) h) : Calls T (k + 6) "summed" [v] h Q E := by
  refine Calls_eq [some v] hT.su rfl rfl ?_
  refine need_fr_ok hT (k := k) rd hw e ?_
  refine total_ok hT.sl (k := k + 1) (.inl rfl) h0 f.1 f.2 hn ?_
  exact Dr.here q
/-- the least, by the first of equals -/
def lowR : Rat → List Rat → Rat
  | a, [] => a
  | a, x :: xs => lowR (if x < a then x else a) xs
def minR (xs : List Rat) : Rat := lowR (xs.headD 0) xs
theorem low_top : ∀ (xs : List Rat) (a : Rat), topR (-a) (xs.map fun x => -x) = - lowR a xs
  | [], a => rfl
  | x :: xs, a => by
    show topR (if -a < -x then -x else -a) (xs.map fun x => -x) = - lowR (if x < a then x else a) xs
    have e : (if -a < -x then -x else -a) = -(if x < a then x else a) := by
      by_cases c : x < a
      · rw [if_pos c, if_pos (by grind)]
      · rw [if_neg c, if_neg (by grind)]
    rw [e, low_top xs]
theorem min_max {xs : List Rat} (ne : xs ≠ []) : maxR (xs.map fun x => -x) = - minR xs := by
  cases xs with
  | nil => exact (ne rfl).elim
  | cons x xs => exact low_top (x :: xs) x
theorem least_for (hU : T "is_under" = some ⟨2, 2, c_is_under⟩) {k n : Nat} {v : Val} {h : Hep} {D0 : KD} {E : XE'} {pins : List (Addr × List Val)} (hp : pinOk h pins) (h0 : 0 < n) (hn : n ≤ 4000) : ∀ (xs : List Rat) (a : Rat) {z : Option Val}, (∀ x ∈ xs, Bd n x) → Bd n a →
    (∀ z, D0.nx [some v, some (fr (lowR a xs)), z] h) → forW (wSs (Calls T (k + 1)) (.cons (.asg (.nm 1) (.ife (.call "is_under" (.cons (.var 2) (.cons (.var 1) .nil))) (.var 2) (.var 1))) .nil)) (bindT (.nm 2)) pins D0 E (xs.map fr) [some v, some (fr a), z] h
  | [], a, z, hx, ha, q => ⟨hp, q z⟩
  | x :: xs, a, z, hx, ha, q => by
    have bx := hx x List.mem_cons_self
    refine ⟨hp, ?_⟩
    refine under_ok hU h0 hn bx ha ?_
    by_cases c : x < a
    · refine ifT (decide_eq_true c) ?_
      refine least_for hU hp h0 hn xs x (fun y hy => hx y (List.mem_cons_of_mem _ hy)) bx fun z => ?_
      have := q z
      rw [lowR, if_pos c] at this
      exact this
    · refine ifF (decide_eq_false c) ?_
      refine least_for hU hp h0 hn xs a (fun y hy => hx y (List.mem_cons_of_mem _ hy)) ha fun z => ?_
      have := q z
      rw [lowR, if_neg c] at this
      exact this
theorem greatest_of_ok (hT : ListLib T) {k n : Nat} {v : Val} {d : D} {xs : List Rat} {h : Hep} {Q : VQ} {E : XQ} (rd : Rd h d v) (hw : d.wid < 1000000) (e : d.row = some xs) (ne : xs ≠ []) (bx : ∀ x ∈ xs, Bd n x) (h0 : 0 < n) (hn : n ≤ 3900) (q : Q (fr (maxR xs)) h) : Calls T (k + 6) "greatest_of" [v] h Q E := by
  refine Calls_eq [some v, none] hT.go rfl rfl ?_
  refine need_fr_ok hT (k := k) rd hw e ?_
  refine on2 (a := rowD xs) (b := .tup []) (rd_row _ xs) ⟨[], rfl, rfl⟩ (by show D.nbs _ = true; exact nbs_drs xs) rfl (by have := dep_row xs; omega) (by decide) ?_
  refine ifF (by rw [beq_nil, decide_eq_false ne]) ?_
  refine Calls_eq (k := k + 4) [some (rowV xs), none, none] hT.gr rfl rfl ?_
  cases xs with
  | nil => exact (ne rfl).elim
  | cons x xs =>
    refine opIx_tup (h := h) (xs := (x :: xs).map fr) (v := fr x) (atI_nat (j := 0) rfl) ?_
    refine src_tupI ?_
    refine great_for hT.un (pins := []) trivial h0 (by omega) (x :: xs) x bx (bx x List.mem_cons_self) fun z => ?_
    exact Dr.here (Dr.here q)
theorem least_of_ok (hT : ListLib T) {k n : Nat} {v : Val} {d : D} {xs : List Rat} {h : Hep} {Q : VQ} {E : XQ} (rd : Rd h d v) (hw : d.wid < 1000000) (e : d.row = some xs) (ne : xs ≠ []) (bx : ∀ x ∈ xs, Bd n x) (h0 : 0 < n) (hn : n ≤ 3900) (q : Q (fr (minR xs)) h) : Calls T (k + 6) "least_of" [v] h Q E := by
  refine Calls_eq [some v, none] hT.lo' rfl rfl ?_
  refine need_fr_ok hT (k := k) rd hw e ?_
  refine on2 (a := rowD xs) (b := .tup []) (rd_row _ xs) ⟨[], rfl, rfl⟩ (by show D.nbs _ = true; exact nbs_drs xs) rfl (by have := dep_row xs; omega) (by decide) ?_
  refine ifF (by rw [beq_nil, decide_eq_false ne]) ?_
  refine Calls_eq (k := k + 4) [some (rowV xs), none, none] hT.ls rfl rfl ?_
  cases xs with
  | nil => exact (ne rfl).elim
  | cons x xs =>
    refine opIx_tup (h := h) (xs := (x :: xs).map fr) (v := fr x) (atI_nat (j := 0) rfl) ?_
    refine src_tupI ?_
    refine least_for hT.un (pins := []) trivial h0 (by omega) (x :: xs) x bx (bx x List.mem_cons_self) fun z => ?_
    exact Dr.here (Dr.here q)
theorem is_chances_gen (hT : ListLib T) {k n : Nat} {v : Val} {d : D} {h : Hep} {Q : VQ} {E : XQ} (rd : Rd h d v) (hw : d.wid < 1000000) (h0 : 0 < n) (hn : n ≤ 1000) (fit : ∀ xs, d.row = some xs → Fit n xs) (q : Q (.bl d.chances.isSome) h) : Calls T (k + 6) "is_chances" [v] h Q E := by
  refine Calls_eq [some v] hT.ic rfl rfl ?_
  refine chances_gen hT.toChanLib (k := k) rd hw h0 hn fit ?_
  cases e : d.chances with
  | none =>
    rw [e] at q
    exact Dr.here q
  | some xs =>
    rw [e] at q
    exact Dr.here q
theorem fr_unit {m : Nat} (m0 : 0 < m) : fr (Rat.divInt 1 m) = .tup [.int 1, .int m] := fr_gcd (by omega) (by simp [Int.gcd])
theorem flat_one {α : Type} (x : α) : ∀ n : Nat, (List.replicate n [x]).flatten = List.replicate n x
  | 0 => rfl
  | n + 1 => by rw [List.replicate_succ, List.flatten_cons, flat_one x n, List.replicate_succ]; rfl
theorem mul_one_list {h : Hep} {p : Addr} {x : Val} {m : Nat} {Q : VQ} (hp : h p = some (.lst [x])) (hm : m < 1000) (q : newL h (List.replicate m x) Q) : opB .Mult (.ref p) (.int m) h Q := by
  refine onL_in hp ⟨by omega, by omega, ?_, ?_⟩
  · show [x].length * ((m : Int)).toNat < 1000000
    rw [show ((m : Int)).toNat = m from rfl, List.length_cons, List.length_nil]
    omega
  · rw [show ((m : Int)).toNat = m from rfl, flat_one]
    exact q
theorem even_ok (hT : ListLib T) {k m : Nat} {i : Int} {h : Hep} {Q : VQ} {E : XQ} (ei : i = m) (m0 : 0 < m) (m1 : m < 1000) (q : newL h (List.replicate m (fr (Rat.divInt 1 m))) Q) : Calls T (k + 3) "even" [.int i] h Q E := by
  subst ei
  refine Calls_eq [some (.int m)] hT.ev rfl rfl ?_
  refine Calls_eq [some (.int m)] hT.cf rfl rfl ?_
  refine is_whole_ok hT.iw (k := k) (d := .int m) rfl ?_
  refine ifF (decide_eq_false (by omega)) ?_
  refine Dr.here ?_
  refine newL_in fun p np => ?_
  have sp := (Sub.refl h).new (o := .lst [.tup [.int 1, .int m]]) np
  refine mul_one_list hset_same m1 ?_
  rw [← fr_unit m0]
  rw [← fr_unit m0] at sp
  exact newL_dr sp q
theorem mean_ok (hT : ListLib T) {k n m : Nat} {v1 v2 : Val} {d1 d2 : D} {c xs : List Rat} {h : Hep} {Q : VQ} {E : XQ} (r1 : Rd h d1 v1) (r2 : Rd h d2 v2) (w1 : d1.wid < 1000000) (w2 : d2.wid < 1000000) (e1 : d1.row = some c) (e1' : chanOf c = some c) (e2 : d2.row = some xs) (hl : xs.length = c.length) (f : Fit n c) (h0 : 0 < n) (m0 : 0 < m) (hn : n + m ≤ 1000) (bx : ∀ x ∈ xs, Bd m x) (hb : 1 + (n + m + 3) * c.length ≤ 3900)
    (q : Q (fr (dotR c xs)) h) : Calls T (k + 7) "mean_of" [v1, v2] h Q E := by
  refine Calls_eq [some v1, some v2, none, none] hT.me rfl rfl ?_
  have ec : d1.chances = some c := by unfold D.chances; rw [e1]; exact e1'
  obtain ⟨bb, hnc⟩ := hT.nc
  refine Calls_eq [some v1, none] hnc rfl rfl ?_
  refine chances_gen hT.toChanLib (k := k) r1 w1 h0 (by omega) (fun ys hy => by rw [e1] at hy; cases hy; exact f) ?_
  rw [ec]
  refine Dr.here ?_
  refine first_ok hT (k := k + 2) r2 e2 ?_
  obtain ⟨ds, ei, em⟩ := row_items e2
  obtain ⟨vs, i, r⟩ := rd_its r2 ei
  refine onJ_its i ?_
  refine onJ_tup ?_
  have lv : vs.length = c.length := by rw [r.length, ← mapM_len em, hl]
  refine ifF (by rw [lv, List.length_map]; simp) ?_
  refine row_gen hT.toRowLib (k := k + 2) r2 w2 ?_
  rw [e2]
  refine dot_ok hT.sl (k := k + 1) (n := n) (m := m) (xs := c) (ys := xs) (.inl rfl) (.inl rfl) h0 m0 f.1 bx hb hn ?_
  exact Dr.here q
end
end KM
/-! KQC: means of lists, place by place; lists spoilt. -/
namespace KM
open PySem PySem.Spec PyProof.Rows L2
def c__law_spoilt : Sxs := .cons (.ife (.bi .isi (.cons (.var 0) (.cons (.tup (.cons (.ty "list") (.cons (.ty "tuple") .nil))) .nil))) (.cons (.forr (.nm 1) (.seq (.var 0)) (.cons (.expr (.call "_law_spoilt" (.cons (.var 1) .nil))) .nil)) .nil) .nil) (.cons (.ife (.bi .isi (.cons (.var 0) (.cons (.ty "list") .nil))) (.cons (.expr (.mth .append (.var 0) (.cons (.str "late") .nil))) .nil) .nil) .nil)
def c_pt_body : Sxs := .cons (.asg (.nm 6) (.ife (.cmp .Lt (.var 4) (.bi .len (.cons (.var 2) .nil))) (.call "kept_row" (.cons (.var 5) .nil)) .non)) (.cons (.ife (.or (.cmp .Is (.var 6) .non) (.and (.cmp .NotEq (.var 3) (.lst .nil)) (.cmp .NotEq (.bi .len (.cons (.var 6) .nil)) (.bi .len (.cons (.ix (.var 3) (.int 0)) .nil))))) (.cons .bad .nil) .nil) (.cons (.expr (.mth .append (.var 3) (.cons (.var 6) .nil))) .nil))
section
variable {T : Str → Option Fc}
theorem nb_rowDs : ∀ rows : List (List Rat), D.nbs (rows.map rowD) = true
  | [] => rfl
  | r :: rs => by
    simp only [List.map_cons, D.nbs, nb_rowDs rs, Bool.and_true]
    show D.nbs _ = true
    exact nbs_drs r
theorem dep_rowDs : ∀ rows : List (List Rat), D.deps (rows.map rowD) ≤ 2
  | [] => by simp [D.deps]
  | r :: rs => by simp only [List.map_cons, D.deps]; have := dep_rowDs rs; have := dep_row r; omega
theorem rds_rowVs {h : Hep} : ∀ rows : List (List Rat), Rds h (rows.map rowD) (rows.map rowV)
  | [] => rfl
  | r :: rs => Rds.cons (rd_row h r) (rds_rowVs rs)
theorem rows_ne (rows : List (List Rat)) : PyData.eqv (D.lst (rows.map rowD)).dat (D.lst []).dat = rows.isEmpty := by
  rw [D.eqv (by simp only [D.nb]; exact nb_rowDs rows) rfl]
  cases rows <;> rfl
/-- all rows of data that are lists of fractions, as long as one another -/
theorem pt_for (hT : RowLib T) {k s : Nat} {v0 v1 : Val} {c : List Rat} {p : Addr} {h0 : Hep} {D0 : KD} {E : XE'} {pins : List (Addr × List Val)} (hpins : ∀ h, Sub h0 h → pinOk h pins) (np : h0 p = none) :
    ∀ (ds : List D) (rows : List (List Rat)) (vs : List Val) (i : Nat) (done : List (List Rat)) {h : Hep} {z4 z5 z6 : Option Val}, Rds h0 ds vs → ds.mapM D.row = some rows → (∀ d ∈ ds, d.wid < 1000000) → (∀ r ∈ done ++ rows, r.length = s) → done.length = i → i + ds.length ≤ c.length → c.length ≤ 1000 → Sub h0 h → h p = some (.lst (done.map rowV)) →
    (∀ h' z4 z5 z6, Sub h0 h' → h' p = some (.lst ((done ++ rows).map rowV)) → D0.nx [some v0, some v1, some (rowV c), some (.ref p), z4, z5, z6, none, none] h') →
    forW (wSs (Calls T (k + 4)) c_pt_body) (bindT (.tc (.nm 4) (.tc (.nm 5) .tn))) pins D0 E (enumV i vs) [some v0, some v1, some (rowV c), some (.ref p), z4, z5, z6, none, none] h
  | [], rows, vs, i, done, h, z4, z5, z6, rd, em, hw, hs, hd, hl, hc, sb, hp, q => by
    have e : vs = [] := rd
    subst e
    have er : rows = [] := by cases em; rfl
    subst er
    refine ⟨hpins h sb, ?_⟩
    rw [List.append_nil] at q
    exact q h z4 z5 z6 sb hp
  | d :: ds, rows, vs, i, done, h, z4, z5, z6, ⟨v2, vs2, e, r, rds⟩, em, hw, hs, hd, hl, hc, sb, hp, q => by
    subst e
    rw [List.mapM_cons] at em
    rw [List.length_cons] at hl
    cases ef : d.row with
    | none => rw [ef] at em; cases em
    | some x =>
      rw [ef] at em
      cases em2 : ds.mapM D.row with
      | none => rw [em2] at em; cases em
      | some ys =>
        rw [em2] at em
        cases em
        refine ⟨hpins h sb, ?_⟩
        refine onJ_tup ?_
        refine ifT (decide_eq_true (by rw [List.length_map]; omega)) ?_
        refine row_gen hT (k := k) (r.sub sb) (hw d List.mem_cons_self) ?_
        rw [ef]
        have fin : ∀ h3, Sub h h3 → wSs (Calls T (k + 4)) (.cons (.expr (.mth .append (.var 3) (.cons (.var 6) .nil))) .nil) [some v0, some v1, some (rowV c), some (.ref p), some (.int i), some v2, some (rowV x), none, none] h3 { D0 with nx := fun e1 h1 => forW (wSs (Calls T (k + 4)) c_pt_body) (bindT (.tc (.nm 4) (.tc (.nm 5) .tn))) pins D0 E (enumV (i + 1) vs2) e1 h1, ct := fun e1 h1 => forW (wSs (Calls T (k + 4)) c_pt_body) (bindT (.tc (.nm 4) (.tc (.nm 5) .tn))) pins D0 E (enumV (i + 1) vs2) e1 h1, bk := D0.nx } E := by
          intro h3 s3
          have hp3 := s3 _ _ hp
          refine ⟨onL_in hp3 trivial, onL_in hp3 ⟨show (done.map rowV).length < 1000000 by rw [List.length_map]; omega, ?_⟩⟩
          refine pt_for hT hpins np ds ys vs2 (i + 1) (done ++ [x]) rds em2 (fun d hd => hw d (List.mem_cons_of_mem _ hd)) (by rw [List.append_assoc]; exact hs) (by rw [List.length_append, List.length_cons, List.length_nil]; omega) (by omega) hc ((sb.trans s3).setNew np) (by rw [hset_same, List.map_append]; rfl) fun h' z4 z5 z6 s' hp' => ?_
          rw [List.append_assoc] at hp'
          exact q h' z4 z5 z6 s' hp'
        refine newL_in fun p1 np1 => ?_
        have sp1 := (Sub.refl h).new (o := .lst []) np1
        refine on2 (a := D.lst (done.map rowD)) (b := .lst []) ⟨p, _, rfl, sp1 _ _ hp, rds_rowVs done⟩ ⟨p1, [], rfl, hset_same, rfl⟩ (by simp only [D.nb]; exact nb_rowDs done) rfl (by simp only [D.dep]; have := dep_rowDs done; omega) (by decide) ?_
        rw [rows_ne]
        cases done with
        | nil => exact fin _ sp1
        | cons r0 rs =>
          refine onJ_tup ?_
          refine opIx_list (v := rowV r0) (sp1 _ _ hp) (atI_nat (j := 0) rfl) ?_
          refine onJ_tup ?_
          have l1 := hs r0 (by simp)
          have l2 := hs x (by simp)
          refine ifF (by rw [List.length_map, List.length_map, l1, l2]; simp) ?_
          exact fin _ sp1
def putR (c : List Rat) (rows : List (List Rat)) (s : Nat) : List Rat := (List.range s).map fun j => dotR c (colR rows j)
theorem zipRows (c : List Rat) (rows : List (List Rat)) : zipV (c.map fr) (rows.map rowV) = (c.zip rows).map fun q => .tup [fr q.1, rowV q.2] := by
  induction c generalizing rows with
  | nil => simp [zipV]
  | cons x xs ih =>
    cases rows with
    | nil => simp [zipV]
    | cons y ys => simp only [List.map_cons, zipV, List.zip_cons_cons, ih]
theorem mulCol (c : List Rat) (rows : List (List Rat)) (j : Nat) : (mulR c (colR rows j)).map fr = (c.zip rows).map fun q => fr (q.1 * q.2.getD j 0) := by
  unfold mulR colR
  induction c generalizing rows with
  | nil => simp
  | cons x xs ih =>
    cases rows with
    | nil => simp
    | cons y ys => simp only [List.map_cons, List.zipWith_cons_cons, List.zip_cons_cons, ih]
theorem put_ok (hT : ListLib T) {k n m s : Nat} {v1 v2 : Val} {d1 d2 : D} {c : List Rat} {rows : List (List Rat)} {ds : List D} {h : Hep} {Q : VQ} {E : XQ} (r1 : Rd h d1 v1) (r2 : Rd h d2 v2) (w1 : d1.wid < 1000000) (w2 : d2.wid < 1000000) (e1 : d1.row = some c) (e1' : chanOf c = some c) (ei : d2.items = some ds) (em : ds.mapM D.row = some rows)
    (hl : rows.length = c.length) (c0 : 0 < c.length) (f : Fit n c) (h0 : 0 < n) (m0 : 0 < m) (hn : n + m ≤ 1000) (hb : 1 + (n + m + 3) * c.length ≤ 3900) (tb : Tab m c.length s rows) (hs : s < 1000000)
    (q : newL h ((putR c rows s).map fr) Q) : Calls T (k + 7) "put_together" [v1, v2] h Q E := by
  refine Calls_eq [some v1, some v2, none, none, none, none, none, none, none] hT.pt rfl rfl ?_
  have ec : d1.chances = some c := by unfold D.chances; rw [e1]; exact e1'
  obtain ⟨bb, hnc⟩ := hT.nc
  refine Calls_eq [some v1, none] hnc rfl rfl ?_
  refine chances_gen hT.toChanLib (k := k) r1 w1 h0 (by omega) (fun ys hy => by rw [e1] at hy; cases hy; exact f) ?_
  rw [ec]
  refine Dr.here ?_
  refine is_list_ok hT.il (k := k + 5) r2 ?_
  refine ifF (by rw [items_seq, ei]; rfl) ?_
  refine newL_in fun p np => ?_
  have sp := (Sub.refl h).new (o := .lst []) np
  obtain ⟨vs, i, rds⟩ := rd_its r2 ei
  have cl : c.length ≤ 3900 := Nat.le_trans (Nat.le_mul_of_pos_left c.length (show 0 < n + m + 3 by omega)) (by omega)
  have c1000 : c.length ≤ 1000 := by
    have := Nat.mul_le_mul_right c.length (show 4 ≤ n + m + 3 by omega)
    omega
  refine src_its2 i sp fun pins hp => ?_
  refine pt_for hT.toRowLib (k := k + 2) (s := s) hp np ds rows vs 0 [] rds em (wid_items ei w2).2 tb.lens rfl (by rw [← mapM_len em]; omega) c1000 sp hset_same fun h1 z4 z5 z6 s1 hp1 => ?_
  have hp1 : h1 p = some (.lst (rows.map rowV)) := hp1
  refine onJ_ref hp1 ?_
  refine onJ_tup ?_
  refine ifF (decide_eq_false (by rw [List.length_map, List.length_map]; omega)) ?_
  obtain ⟨r, rs, er, el⟩ := lookV_head (h := h) tb c0
  refine opIx_list (v := rowV r) hp1 (by rw [er]; exact atI_nat (j := 0) rfl) ?_
  refine onJ_tup ?_
  refine rng_lc (n := s) (by rw [List.length_map, el]) hs ?_
  refine lc_mapU (pins := []) (h := h1) (g := fun j => fr (dotR c (colR rows j))) (fun _ _ => trivial) (fun h' s' j hj K kk => ?_) (fun h2 s2 => ?_)
  · have hj := List.mem_range.mp hj
    refine src_tupI ?_
    refine src_refI (s' _ _ hp1) ?_
    show Sm (zipV (c.map fr) (rows.map rowV)).length ∧ lcW _ _ _ _ _ _ (zipV (c.map fr) (rows.map rowV)) [] h'
    rw [zipRows]
    refine ⟨show (_ : Nat) < 1000000 by rw [List.length_map, List.length_zip]; omega, ?_⟩
    refine lc_map (pins := [] ++ [(p, rows.map rowV)]) (g := fun q => fr (q.1 * q.2.getD j 0)) ⟨s' _ _ hp1, trivial⟩ (fun q hq K1 kk1 => ?_) ?_
    · have m1 : q.1 ∈ c := (List.of_mem_zip (a := q.1) (b := q.2) hq).1
      have m2 : q.2 ∈ rows := (List.of_mem_zip (a := q.1) (b := q.2) hq).2
      have lj : j < q.2.length := by rw [tb.lens _ m2]; exact hj
      have eg : q.2.getD j 0 = q.2[j] := by rw [List.getD_eq_getElem?_getD, List.getElem?_eq_getElem lj]; rfl
      rw [eg] at kk1
      refine opIx_tup (h := h') (xs := q.2.map fr) (v := fr q.2[j]) (atI_nat (by rw [List.getElem?_map, List.getElem?_eq_getElem lj]; rfl)) ?_
      exact times_ok hT.sl.toRedLib hT.sl.ti (k := k + 3) (n := n + m) (by omega) (by omega) ((f.1 _ m1).mono (by omega)) ((tb.bd _ m2 _ (List.getElem_mem lj)).mono (by omega)) kk1
    · rw [← mulCol]
      refine newL_in fun p3 np3 => ?_
      have l3 : (mulR c (colR rows j)).length ≤ c.length := mulR_len _ _
      have bcol : ∀ y ∈ colR rows j, Bd m y := tb.cols.bd _ (List.mem_map.mpr ⟨j, List.mem_range.mpr hj, rfl⟩)
      refine total_ok hT.sl (k := k + 2) (n := n + m + 1) (.inr ⟨p3, rfl, hset_same⟩) (by omega) (mulR_bd f.1 bcol) ?_ (by omega) ?_
      · have := Nat.mul_le_mul_left (n + m + 1 + 2) l3
        have e : n + m + 1 + 2 = n + m + 3 := by omega
        rw [e] at this ⊢
        omega
      · exact kk _ ((Sub.refl h').new np3)
  · refine newL_dr (s1.trans s2) ?_
    unfold putR at q
    rw [List.map_map] at q
    exact q
/-! ### lists spoilt -/
theorem spoil_int (hT : T "_law_spoilt" = some ⟨1, 2, c__law_spoilt⟩) {k : Nat} {i : Int} {h : Hep} {Q : VQ} {E : XQ} (q : Q .non h) : Calls T (k + 1) "_law_spoilt" [.int i] h Q E := by
  refine Calls_eq [some (.int i), none] hT rfl rfl ?_
  have rd : Rd h (.int i) (.int i) := rfl
  refine isi_tup rd (b := false) rfl ?_
  refine isi_F rd rfl rfl ?_
  exact Dr.here q
theorem spoil_fr (hT : T "_law_spoilt" = some ⟨1, 2, c__law_spoilt⟩) {k : Nat} {x : Rat} {h : Hep} {Q : VQ} {E : XQ} (q : Q .non h) : Calls T (k + 2) "_law_spoilt" [fr x] h Q E := by
  refine Calls_eq [some (fr x), none] hT rfl rfl ?_
  have rd := rd_fr h x
  refine isi_tup rd (b := true) rfl ?_
  refine src_tupI ?_
  refine ⟨trivial, ?_⟩
  refine spoil_int hT (k := k) ?_
  refine ⟨trivial, ?_⟩
  refine spoil_int hT (k := k) ?_
  refine ⟨trivial, ?_⟩
  refine isi_F rd rfl rfl ?_
  exact Dr.here q
theorem spoil_for (hT : T "_law_spoilt" = some ⟨1, 2, c__law_spoilt⟩) {k : Nat} {v : Val} {h : Hep} {D0 : KD} {E : XE'} {pins : List (Addr × List Val)} (hp : pinOk h pins) : ∀ (xs : List Rat) {z : Option Val}, (∀ z, D0.nx [some v, z] h) →
    forW (wSs (Calls T (k + 2)) (.cons (.expr (.call "_law_spoilt" (.cons (.var 1) .nil))) .nil)) (bindT (.nm 1)) pins D0 E (xs.map fr) [some v, z] h
  | [], z, q => ⟨hp, q z⟩
  | x :: xs, z, q => by
    refine ⟨hp, ?_⟩
    refine spoil_fr hT (k := k) ?_
    exact spoil_for hT hp xs q
/-- a list of fractions spoilt -/
theorem spoil_row (hT : T "_law_spoilt" = some ⟨1, 2, c__law_spoilt⟩) {k : Nat} {p : Addr} {xs : List Rat} {h : Hep} {Q : VQ} {E : XQ} (hp : h p = some (.lst (xs.map fr))) (hl : xs.length < 1000000) (q : Q .non (hset h p (.lst (xs.map fr ++ [.str "late"])))) : Calls T (k + 3) "_law_spoilt" [.ref p] h Q E := by
  refine Calls_eq [some (.ref p), none] hT rfl rfl ?_
  have rd : Rd h (rowL xs) (.ref p) := rowL_in hp
  refine isi_tup rd (b := true) rfl ?_
  refine src_refI hp ?_
  refine spoil_for hT (k := k) (pins := [(p, xs.map fr)]) ⟨hp, trivial⟩ xs fun z => ?_
  refine isi_T rd rfl rfl ?_
  refine ⟨onL_in hp trivial, onL_in hp ⟨show (xs.map fr).length < 1000000 by rw [List.length_map]; exact hl, ?_⟩⟩
  exact Dr.here q
end
end KM
/-! KQD: sums and ends of lists are told right. -/
namespace KM
open PySem PySem.Spec PyProof.Rows L2
def c__law_lists_right : Sxs := .cons (.asg (.nm 1) (.lc (.call "_law_drawn" (.cons (.var 0) (.cons (.int 6) .nil))) (.nm 5) (.rng1 (.call "_law_draw" (.cons (.var 0) (.cons (.int 12) .nil)))) .nil [5])) (.cons (.asg (.nm 2) (.call "_law_loose" (.cons (.var 0) (.cons (.var 1) .nil)))) (.cons (.asg (.nm 3) (.call "_law_copied" (.cons (.var 2) .nil))) (.cons (.ife (.not (.call "_law_same" (.cons (.lst (.cons (.call "summed" (.cons (.var 2) .nil)) (.cons (.kall "summed" [0] (.cons (.call "_law_copied" (.cons (.var 1) .nil)) .nil)) (.cons (.var 2) .nil)))) (.cons (.lst (.cons (.call "_law_total" (.cons (.var 1) .nil)) (.cons (.call "_law_total" (.cons (.var 1) .nil)) (.cons (.var 3) .nil)))) .nil)))) (.cons (.ret (.bl false)) .nil) .nil) (.cons (.ife (.cmp .Eq (.var 1) (.lst .nil)) (.cons (.ret (.bl true)) .nil) .nil) (.cons (.asg (.nm 4) (.call "_law_q_neg" (.cons (.call "_law_greatest" (.cons (.lc (.call "_law_q_neg" (.cons (.var 6) .nil)) (.nm 6) (.seq (.var 1)) .nil [6]) .nil)) .nil))) (.cons (.ret (.call "_law_same" (.cons (.lst (.cons (.call "greatest_of" (.cons (.var 2) .nil)) (.cons (.kall "greatest_of" [0] (.cons (.call "_law_copied" (.cons (.var 1) .nil)) .nil)) (.cons (.call "least_of" (.cons (.var 2) .nil)) (.cons (.kall "least_of" [0] (.cons (.call "_law_copied" (.cons (.var 1) .nil)) .nil)) .nil))))) (.cons (.bin .Add (.bin .Mult (.lst (.cons (.call "_law_greatest" (.cons (.var 1) .nil)) .nil)) (.int 2)) (.bin .Mult (.lst (.cons (.var 4) .nil)) (.int 2))) .nil)))) .nil))))))
def c__law_means_right : Sxs := .cons (.asg (.tc (.nm 1) (.tc (.nm 2) .tn)) (.tup (.cons (.bin .Add (.int 1) (.call "_law_draw" (.cons (.var 0) (.cons (.int 6) .nil)))) (.cons (.call "_law_draw" (.cons (.var 0) (.cons (.int 5) .nil))) .nil)))) (.cons (.asg (.tc (.nm 3) (.tc (.nm 4) .tn)) (.tup (.cons (.call "_law_chances" (.cons (.var 0) (.cons (.var 1) (.cons (.int 0) .nil)))) (.cons (.lc (.lc (.call "_law_drawn" (.cons (.var 0) (.cons (.int 4) .nil))) (.nm 14) (.rng1 (.var 2)) .nil [14]) (.nm 13) (.rng1 (.var 1)) .nil [13]) .nil)))) (.cons (.asg (.nm 5) (.call "_law_loose" (.cons (.var 0) (.cons (.lst (.cons (.var 3) (.cons (.var 4) .nil))) .nil)))) (.cons (.par [6, 7] (.cons (.call "_law_copied" (.cons (.var 5) .nil)) (.cons (.lc (.call "_law_dot" (.cons (.var 3) (.cons (.lc (.ix (.var 16) (.var 15)) (.nm 16) (.seq (.var 4)) .nil [16]) .nil))) (.nm 15) (.rng1 (.var 2)) .nil [15]) .nil))) (.cons (.asg (.nm 8) (.call "put_together" (.cons (.ix (.var 5) (.int 0)) (.cons (.ix (.var 5) (.int 1)) .nil)))) (.cons (.ife (.not (.call "_law_same" (.cons (.lst (.cons (.var 8) (.cons (.kall "put_together" [1, 0] (.cons (.call "_law_copied" (.cons (.var 4) .nil)) (.cons (.call "_law_copied" (.cons (.var 3) .nil)) .nil))) (.cons (.var 5) .nil)))) (.cons (.lst (.cons (.var 7) (.cons (.var 7) (.cons (.var 6) .nil)))) .nil)))) (.cons (.ret (.bl false)) .nil) .nil) (.cons (.expr (.call "_law_spoilt" (.cons (.var 8) .nil))) (.cons (.ife (.not (.call "_law_same" (.cons (.call "put_together" (.cons (.call "_law_copied" (.cons (.var 3) .nil)) (.cons (.call "_law_copied" (.cons (.var 4) .nil)) .nil))) (.cons (.var 7) .nil)))) (.cons (.ret (.bl false)) .nil) .nil) (.cons (.asg (.nm 9) (.lc (.call "_law_drawn" (.cons (.var 0) (.cons (.int 4) .nil))) (.nm 14) (.rng1 (.var 1)) .nil [14])) (.cons (.asg (.nm 10) (.call "_law_dot" (.cons (.var 3) (.cons (.var 9) .nil)))) (.cons (.ife (.not (.call "_law_same" (.cons (.lst (.cons (.call "mean_of" (.cons (.ix (.var 5) (.int 0)) (.cons (.call "_law_loose" (.cons (.var 0) (.cons (.var 9) .nil))) .nil))) (.cons (.kall "mean_of" [1, 0] (.cons (.call "_law_copied" (.cons (.var 9) .nil)) (.cons (.call "_law_copied" (.cons (.var 3) .nil)) .nil))) .nil))) (.cons (.lst (.cons (.var 10) (.cons (.var 10) .nil))) .nil)))) (.cons (.ret (.bl false)) .nil) .nil) (.cons (.asg (.nm 11) (.lc (.var 13) (.tc (.nm 13) (.tc (.nm 17) .tn)) (.zip (.var 9) (.var 3)) (.cons (.cmp .Gt (.ix (.var 17) (.int 0)) (.int 0)) .nil) [13, 17])) (.cons (.ife (.or (.call "_law_under" (.cons (.call "_law_greatest" (.cons (.var 11) .nil)) (.cons (.var 10) .nil))) (.call "_law_under" (.cons (.call "_law_greatest" (.cons (.lc (.call "_law_q_neg" (.cons (.var 13) .nil)) (.nm 13) (.seq (.var 11)) .nil [13]) .nil)) (.cons (.call "_law_q_neg" (.cons (.var 10) .nil)) .nil)))) (.cons (.ret (.bl false)) .nil) .nil) (.cons (.asg (.nm 12) (.lc (.call "_law_chances" (.cons (.var 0) (.cons (.int 3) (.cons (.int 0) .nil)))) (.nm 13) (.rng1 (.var 1)) .nil [13])) (.cons (.ret (.and (.call "is_chances" (.cons (.call "put_together" (.cons (.call "_law_copied" (.cons (.var 3) .nil)) (.cons (.call "_law_copied" (.cons (.var 12) .nil)) .nil))) .nil)) (.call "is_chances" (.cons (.call "_law_loose" (.cons (.var 0) (.cons (.var 3) .nil))) .nil)))) .nil))))))))))))))
structure MeanLib (T : Str → Option Fc) : Prop extends DrawLib T where
  dn : T "_law_drawn" = some ⟨2, 3, c__law_drawn⟩
  sa : T "_law_same" = some ⟨2, 4, c__law_same⟩
  co : T "_law_copied" = some ⟨1, 4, c__law_copied⟩
  lo : T "_law_loose" = some ⟨2, 4, c__law_loose⟩
  sp : T "_law_spoilt" = some ⟨1, 2, c__law_spoilt⟩
  li : ListLib T
  is : IsChLib T
  lun : T "_law_under" = some ⟨2, 2, c__law_under⟩
  lgr : T "_law_greatest" = some ⟨1, 3, c__law_greatest⟩
  ldt : T "_law_dot" = some ⟨2, 4, c__law_dot⟩
  lne : T "_law_q_neg" = some ⟨1, 1, c__law_q_neg⟩
  lr : T "_law_lists_right" = some ⟨1, 7, c__law_lists_right⟩
  mr : T "_law_means_right" = some ⟨1, 18, c__law_means_right⟩
section
variable {T : Str → Option Fc}
theorem mdrawn0 (dw : T "_law_draw" = some ⟨2, 5, c__law_draw⟩) (pk : T "_law_pick" = some ⟨2, 2, c__law_pick⟩) (hfr : T "_law_frac" = some ⟨2, 5, c__law_frac⟩) (hN : T "_law_drawn" = some ⟨2, 3, c__law_drawn⟩) {k : Nat} {a : Addr} {most : Int} {h g : Hep} {b : Nat} {Q : VQ} {E : XQ} (p0 : 0 ≤ most) (p1 : most ≤ 9) (st : St a h (b + 2) g)
    (q : ∀ x h' g', Sub h h' → St a h' b g' → Bd 7 x → Q (fr x) g') : Calls T (k + 3) "_law_drawn" [.ref a, .int most] g Q E := by
  refine Calls_eq [some (.ref a), some (.int most), none] hN rfl rfl ?_
  refine St.newL st fun p h1 g1 s1 _ st1 hp np => ?_
  refine pickS dw pk (k := k) (b := b + 1) (xs := ([1, 1, 1, 2, 3, 4, 5, 7] : List Int).map Val.int) st1 hp (by decide) (by decide) fun i x g2 e st2 => ?_
  obtain ⟨w, rfl, hw⟩ := mem_small e
  have w1 : 1 ≤ w ∧ w ≤ 7 := by
    simp only [List.mem_cons, List.not_mem_nil, or_false] at hw
    omega
  have m0 : 0 ≤ most * w := Int.mul_nonneg p0 (by omega)
  have m1 : most * w ≤ 63 := by
    have := Int.mul_le_mul p1 w1.2 (by omega) (by omega)
    omega
  have e2 : 2 * most * w = 2 * (most * w) := Int.mul_assoc _ _ _
  refine ⟨mul_ok (n := 64) (by decide) (by decide) (by decide) (by omega), mul_ok (n := 64) (by decide) (by decide) (by show (2 * most).natAbs < _; omega) (by omega), ?_⟩
  refine drawS dw (k := k + 1) (b := b) st2 (by show 0 < 2 * most * w + 1; omega) (by show 2 * most * w + 1 < _; omega) fun d g3 st3 d0 d1 => ?_
  refine ⟨mul_ok (n := 64) (by decide) (by decide) (by omega) (by omega), ?_⟩
  have d1 : d < 2 * most * w + 1 := d1
  refine lfrac_ok hfr (k := k + 1) (n := 6) (by omega) (by decide) (by decide) (by omega) (by omega) ?_
  exact Dr.here (q _ _ _ s1 st3 (Bd.divInt (n := 6) (by omega) (by omega)))
theorem mdrawn_ok (hD : DrawLib T) (hN : T "_law_drawn" = some ⟨2, 3, c__law_drawn⟩) {k : Nat} {a : Addr} {most : Int} {h g : Hep} {b : Nat} {Q : VQ} {E : XQ} (p0 : 0 ≤ most) (p1 : most ≤ 9) (st : St a h (b + 2) g)
    (q : ∀ x h' g', Sub h h' → St a h' b g' → Bd 7 x → Q (fr x) g') : Calls T (k + 3) "_law_drawn" [.ref a, .int most] g Q E := mdrawn0 hD.dw hD.pk hD.fr hN p0 p1 st q
/-- a list of drawn fractions -/
theorem drawn_lc (hD : DrawLib T) (hN : T "_law_drawn" = some ⟨2, 3, c__law_drawn⟩) {k n : Nat} {elt : WE} {tg : Val → Env → Option Env} {env : Env} {a : Addr} {most : Int} {h g : Hep} {b : Nat} {Q : VQ} (p0 : 0 ≤ most) (p1 : most ≤ 9) (st : St a h (b + 2 * n) g)
    (he : ∀ v : Val, ∃ env', tg v env = some env' ∧ ∀ (h : Hep) (K : VQ) (E : XQ), Calls T (k + 3) "_law_drawn" [.ref a, .int most] h K E → elt env' h K E)
    (q : ∀ (p : Addr) (xs : List Rat) (h' g' : Hep), xs.length = n → (∀ x ∈ xs, Bd 7 x) → Sub h h' → St a h' b g' → h p = none → h' p = some (.lst (xs.map fr)) → Q (.ref p) g') : lcW (wCs (Calls T (k + 3)) .nil) elt tg [] env Q ((List.range n).map fun j => Val.int (j : Nat)) [] g := by
  refine lc_st (pins := []) (h := h) (b := b) (c := 2) (R := fun _ _ y => ∃ w, y = fr w ∧ Bd 7 w) valP_mono (fun _ _ => trivial) (List.range n) [] (fun h1 g1 b1 s1 sg1 x1 hx1 K1 kk1 => ?_) (Sub.refl h) (st.le (by rw [List.length_range]; omega)) rfl (fun ys h3 g3 s3 sg3 al3 => ?_)
  · obtain ⟨env', e1, e2⟩ := he (.int (x1 : Nat))
    rw [e1]
    exact e2 g1 K1 _ (mdrawn_ok hD hN (k := k) p0 p1 sg1 fun w h2 g2 s2 sg2 bw => kk1 _ _ _ s2 sg2 ⟨w, rfl, bw⟩)
  · obtain ⟨ws, rfl, lw, pw⟩ := allH_map al3
    rw [List.nil_append, List.length_range] at lw
    exact St.newL sg3 fun p h4 g4 s4 _ sg4 hp np => q p ws h4 g4 lw pw (s3.trans s4) sg4 (none_of s3 np) hp
theorem lgreat_ok (hU : T "_law_under" = some ⟨2, 2, c__law_under⟩) (hG : T "_law_greatest" = some ⟨1, 3, c__law_greatest⟩) {k n : Nat} {p : Addr} {xs : List Rat} {h : Hep} {Q : VQ} {E : XQ} (hp : h p = some (.lst (xs.map fr))) (ne : xs ≠ []) (h0 : 0 < n) (hn : n ≤ 4000) (hx : ∀ x ∈ xs, Bd n x) (q : Q (fr (maxR xs)) h) : Calls T (k + 2) "_law_greatest" [.ref p] h Q E := by
  refine Calls_eq [some (.ref p), none, none] hG rfl rfl ?_
  cases xs with
  | nil => exact (ne rfl).elim
  | cons x xs =>
    refine opIx_list hp (v := fr x) (atI_nat (j := 0) rfl) ?_
    refine onL_in hp ?_
    rw [List.map_cons, cut_tail]
    refine newL_in fun p1 np => ?_
    have sb := (Sub.refl h).new (o := .lst (xs.map fr)) np
    refine src_refI hset_same ?_
    refine lgreat_for hU (pins := [(p1, xs.map fr)]) ⟨hset_same, trivial⟩ h0 hn xs x (fun y hy => hx y (List.mem_cons_of_mem _ hy)) (hx x List.mem_cons_self) fun z => ?_
    have e : maxR (x :: xs) = topR x xs := by
      show topR x (x :: xs) = _
      rw [topR]
      split <;> rfl
    rw [e] at q
    exact ⟨h, sb, q⟩
/-- negatives of a list, as a list -/
theorem neg_lc (hN : T "_law_q_neg" = some ⟨1, 1, c__law_q_neg⟩) {k : Nat} {elt : WE} {tg : Val → Env → Option Env} {env : Env} {pins : List (Addr × List Val)} {h : Hep} {Q : VQ} {xs : List Rat} (pn : pinOk h pins)
    (he : ∀ v : Val, ∃ env', tg v env = some env' ∧ ∀ (h : Hep) (K : VQ) (E : XQ), Calls T (k + 1) "_law_q_neg" [v] h K E → elt env' h K E) (q : newL h ((xs.map fun x => -x).map fr) Q) : lcW (wCs (Calls T (k + 1)) .nil) elt tg pins env Q (xs.map fr) [] h := by
  refine lc_map (g := fun x => fr (-x)) pn (fun x hx K kk => ?_) (by rw [List.map_map] at q; exact q)
  obtain ⟨env', e1, e2⟩ := he (fr x)
  rw [e1]
  exact e2 h K _ (lneg_ok hN (k := k) kk)
theorem nb_rowL (xs : List Rat) : (rowL xs).nb = true := by unfold rowL; simp only [D.nb]; exact nbs_drs xs
theorem row_ne (xs : List Rat) : PyData.eqv (rowL xs).dat (D.lst []).dat = xs.isEmpty := by
  rw [D.eqv (nb_rowL xs) rfl]
  unfold rowL
  cases xs <;> rfl
theorem maxR_neg {xs : List Rat} (ne : xs ≠ []) : -(maxR (xs.map fun x => -x)) = minR xs := by rw [min_max ne, Rat.neg_neg]
theorem bd_negs {n : Nat} {xs : List Rat} (h : ∀ x ∈ xs, Bd n x) : ∀ x ∈ xs.map (fun x => -x), Bd n x := fun x hx => by
  obtain ⟨y, hy, rfl⟩ := List.mem_map.mp hx
  exact (h y hy).neg
theorem lists_right_ok (hT : MeanLib T) {k : Nat} {a : Addr} {b : Nat} {h g : Hep} {Q : VQ} {E : XQ} (st : St a h (b + 100) g) (q : ∀ h' g', Sub h h' → St a h' b g' → Q (.bl true) g') : Calls T (k + 11) "_law_lists_right" [.ref a] g Q E := by
  refine Calls_eq [some (.ref a), none, none, none, none, none, none] hT.lr rfl rfl ?_
  refine drawS hT.dw (k := k + 9) (b := b + 99) st (by decide) (by decide) fun n g1 st1 n0 n1 => ?_
  refine rng_lc (n := n.toNat) (by omega) (by omega) ?_
  refine drawn_lc hT.toDrawLib hT.dn (k := k + 7) (b := b + 60) (most := 6) (by decide) (by decide) (st1.le (by omega)) (fun v => ⟨_, rfl, fun h K E c => c⟩) fun p xs h2 g2 lx bx s2 st2 np hp => ?_
  have lx11 : xs.length ≤ 11 := by omega
  have rx : Rd h2 (rowL xs) (.ref p) := rowL_in hp
  have cx := cnt_rowL xs
  have dx := dep_rowL xs
  have wx := wid_rowL xs
  refine looseS hT.dw hT.lo (b := b) (st2.le (by omega)) (by omega) (by omega) rx fun v' d' h3 g3 s3 st3 rd et => ?_
  have nd' := nd_of et (nd_rowL xs)
  rw [rowL_tp] at et
  have fin : Q (.bl true) g3 := q h3 g3 (s2.trans s3) st3
  have rx3 := (rx.sub s3).sub st3.sub
  have rd3 := rd.sub st3.sub
  have hp3 := st3.sub _ _ (s3 _ _ hp)
  have dd := dep_of et
  have dr1 := dep_row xs
  have ww := wid_of et
  have wr1 := wid_rowD xs
  refine lcopied_ok hT.co (k + 10) d' v' g3 _ _ (by omega) (by omega) nd' rd3 fun vw g4 s4 rw4 => ?_
  have fx : Fit 7 xs := ⟨bx, by have := Nat.mul_le_mul_left 9 lx11; omega⟩
  refine summed_ok hT.li (k := k + 4) (rd3.sub s4) (by omega) (row_tp et) fx (by decide) (by decide) ?_
  refine lcopied_ok hT.co (k + 10) _ (.ref p) g4 _ _ (by omega) (by omega) (nd_rowL xs) (rx3.sub s4) fun v5 g5 s5 rx5 => ?_
  refine summed_ok hT.li (k := k + 4) rx5 (by omega) (row_tp (rowL_tp xs)) fx (by decide) (by decide) ?_
  refine newL_in fun p6 np6 => ?_
  have s6 := (Sub.refl g5).new (o := .lst [fr (sumR xs), fr (sumR xs), v']) np6
  have hp6 : (hset g5 p6 (.lst [fr (sumR xs), fr (sumR xs), v'])) p6 = some (.lst [fr (sumR xs), fr (sumR xs), v']) := hset_same
  generalize hset g5 p6 (.lst [fr (sumR xs), fr (sumR xs), v']) = g6 at *
  have s36 := s4.trans (s5.trans s6)
  refine ltotal_ok hT.is.toLSumLib (k := k + 7) (rowL_its (rx3.sub s36)) (by decide) fx.1 fx.2 (by decide) ?_
  refine ltotal_ok hT.is.toLSumLib (k := k + 7) (rowL_its (rx3.sub s36)) (by decide) fx.1 fx.2 (by decide) ?_
  refine newL_in fun p7 np7 => ?_
  have s7 := (Sub.refl g6).new (o := .lst [fr (sumR xs), fr (sumR xs), vw]) np7
  have hp7 : (hset g6 p7 (.lst [fr (sumR xs), fr (sumR xs), vw])) p7 = some (.lst [fr (sumR xs), fr (sumR xs), vw]) := hset_same
  generalize hset g6 p7 (.lst [fr (sumR xs), fr (sumR xs), vw]) = g7 at *
  have s37 := s36.trans s7
  refine same2 hT.sa (n := k + 10) (d := .lst [dr (sumR xs), dr (sumR xs), d']) (by simp only [D.dep, D.deps, dep_dr]; omega) (by simp only [D.wid, D.wids, List.length_cons, List.length_nil]; have : (dr (sumR xs)).wid = 2 := rfl; omega) ⟨p6, _, rfl, s7 _ _ hp6, Rds.cons (rd_fr _ _) (Rds.cons (rd_fr _ _) (Rds.cons (rd3.sub s37) rfl))⟩ ⟨p7, _, rfl, hp7, Rds.cons (rd_fr _ _) (Rds.cons (rd_fr _ _) (Rds.cons (rw4.sub (s5.trans (s6.trans s7))) rfl))⟩ ?_
  refine newL_in fun p8 np8 => ?_
  have s8 := s37.trans ((Sub.refl g7).new (o := .lst []) np8)
  refine on2 (a := rowL xs) (b := .lst []) (rx3.sub s8) ⟨p8, [], rfl, hset_same, rfl⟩ (nb_rowL xs) rfl (by omega) (by decide) ?_
  rw [row_ne]
  cases hxs : xs with
  | nil => exact ⟨g3, s8, fin⟩
  | cons x0 xr =>
    rw [← hxs]
    have ne : xs ≠ [] := by rw [hxs]; exact List.cons_ne_nil _ _
    refine ifF (by rw [hxs]; rfl) ?_
    generalize hset g7 p8 (.lst []) = g8 at *
    have hp8 := s8 _ _ hp3
    refine src_refI hp8 ?_
    refine ⟨show (xs.map fr).length < 1000000 by rw [List.length_map]; omega, ?_⟩
    refine neg_lc hT.lne (k := k + 9) ⟨hp8, trivial⟩ (fun v => ⟨_, rfl, fun h K E c => c⟩) ?_
    refine newL_in fun p9 np9 => ?_
    have s9 := s8.trans ((Sub.refl g8).new (o := .lst ((xs.map fun x => -x).map fr)) np9)
    refine lgreat_ok hT.lun hT.lgr (k := k + 8) (n := 7) hset_same (fun z => ne (List.map_eq_nil_iff.mp z)) (by decide) (by decide) (bd_negs fx.1) ?_
    refine lneg_ok hT.lne (k := k + 9) ?_
    rw [maxR_neg ne]
    generalize hset g8 p9 (.lst ((xs.map fun x => -x).map fr)) = g9 at *
    refine greatest_of_ok hT.li (k := k + 4) (n := 7) (rd3.sub s9) (by omega) (row_tp et) ne fx.1 (by decide) (by decide) ?_
    refine lcopied_ok hT.co (k + 10) _ (.ref p) g9 _ _ (by omega) (by omega) (nd_rowL xs) (rx3.sub s9) fun v10 g10 s10 rx10 => ?_
    refine greatest_of_ok hT.li (k := k + 4) (n := 7) rx10 (by omega) (row_tp (rowL_tp xs)) ne fx.1 (by decide) (by decide) ?_
    refine least_of_ok hT.li (k := k + 4) (n := 7) (rd3.sub (s9.trans s10)) (by omega) (row_tp et) ne fx.1 (by decide) (by decide) ?_
    refine lcopied_ok hT.co (k + 10) _ (.ref p) g10 _ _ (by omega) (by omega) (nd_rowL xs) (rx3.sub (s9.trans s10)) fun v11 g11 s11 rx11 => ?_
    refine least_of_ok hT.li (k := k + 4) (n := 7) rx11 (by omega) (row_tp (rowL_tp xs)) ne fx.1 (by decide) (by decide) ?_
    refine newL_in fun p12 np12 => ?_
    have s12 := s9.trans (s10.trans (s11.trans ((Sub.refl g11).new (o := .lst [fr (maxR xs), fr (maxR xs), fr (minR xs), fr (minR xs)]) np12)))
    have hp12 : (hset g11 p12 (.lst [fr (maxR xs), fr (maxR xs), fr (minR xs), fr (minR xs)])) p12 = some (.lst ([maxR xs, maxR xs, minR xs, minR xs].map fr)) := hset_same
    generalize hset g11 p12 (.lst [fr (maxR xs), fr (maxR xs), fr (minR xs), fr (minR xs)]) = g12 at *
    refine lgreat_ok hT.lun hT.lgr (k := k + 8) (n := 7) (s12 _ _ hp3) ne (by decide) (by decide) fx.1 ?_
    refine newL_in fun p13 np13 => ?_
    have s13 := (Sub.refl g12).new (o := .lst [fr (maxR xs)]) np13
    refine mul_one_list (m := 2) hset_same (by decide) ?_
    refine newL_in fun p14 np14 => ?_
    have s14 := s13.trans ((Sub.refl _).new (o := .lst (List.replicate 2 (fr (maxR xs)))) np14)
    have hp14 : (hset (hset g12 p13 (.lst [fr (maxR xs)])) p14 (.lst (List.replicate 2 (fr (maxR xs))))) p14 = some (.lst (List.replicate 2 (fr (maxR xs)))) := hset_same
    generalize hset (hset g12 p13 (.lst [fr (maxR xs)])) p14 (.lst (List.replicate 2 (fr (maxR xs)))) = g14 at *
    refine newL_in fun p15 np15 => ?_
    have s15 := (Sub.refl g14).new (o := .lst [fr (minR xs)]) np15
    refine mul_one_list (m := 2) hset_same (by decide) ?_
    refine newL_in fun p16 np16 => ?_
    have s16 := s15.trans ((Sub.refl _).new (o := .lst (List.replicate 2 (fr (minR xs)))) np16)
    refine onL_in (s16 _ _ hp14) (onL_in hset_same ⟨show 4 < 1000000 by decide, ?_⟩)
    generalize hset (hset g14 p15 (.lst [fr (minR xs)])) p16 (.lst (List.replicate 2 (fr (minR xs)))) = g16 at *
    refine newL_in fun p17 np17 => ?_
    have s17 := s16.trans ((Sub.refl g16).new (o := .lst (List.replicate 2 (fr (maxR xs)) ++ List.replicate 2 (fr (minR xs)))) np17)
    have sAll := s12.trans (s14.trans s17)
    have wl := wid_rowL [maxR xs, maxR xs, minR xs, minR xs]
    have dl := dep_rowL [maxR xs, maxR xs, minR xs, minR xs]
    have ll : [maxR xs, maxR xs, minR xs, minR xs].length = 4 := rfl
    refine same2 hT.sa (n := k + 10) (by omega) (by omega) (rowL_in (xs := [maxR xs, maxR xs, minR xs, minR xs]) ((s14.trans s17) _ _ hp12)) (rowL_in (xs := [maxR xs, maxR xs, minR xs, minR xs]) hset_same) ?_
    exact ⟨g3, sAll, fin⟩
end
end KM
/-! KQE: means are told right. -/
namespace KM
open PySem PySem.Spec PyProof.Rows L2
theorem mean_top {t : Nat} {c y : Nat → Rat} {m : Rat} (nn : ∀ i, i < t → 0 ≤ c i) (one : S t c = 1) (h : ∀ i, i < t → 0 < c i → y i ≤ m) : S t (fun i => c i * y i) ≤ m := by
  have a : S t (fun i => c i * y i) ≤ S t (fun i => c i * m) := S_le fun i hi => by
    have n := nn i hi
    by_cases z : c i = 0
    · rw [z, Rat.zero_mul, Rat.zero_mul]; exact Rat.le_refl
    · have p : 0 < c i := by grind
      exact Rat.mul_le_mul_of_nonneg_left (h i hi p) n
  rw [S_mulr, one, Rat.one_mul] at a
  exact a
theorem chan_sum {c : List Rat} {t : Nat} (h : Chan c t) : S t (chF c) = 1 := by
  rw [← h.one, sumR_S h.len]
  rfl
def metR (xs c : List Rat) : List Rat := ((xs.zip c).filter fun q => decide (0 < q.2)).map fun q => q.1
theorem met_mem {xs c : List Rat} {i : Nat} (h1 : i < xs.length) (h2 : i < c.length) (h : 0 < chF c i) : chF xs i ∈ metR xs c := by
  have e1 : chF xs i = xs[i] := by unfold chF; rw [List.getD_eq_getElem?_getD, List.getElem?_eq_getElem h1]; rfl
  have e2 : chF c i = c[i] := by unfold chF; rw [List.getD_eq_getElem?_getD, List.getElem?_eq_getElem h2]; rfl
  refine List.mem_map.mpr ⟨(xs[i], c[i]), List.mem_filter.mpr ⟨?_, ?_⟩, e1.symm⟩
  · have hz : i < (xs.zip c).length := by rw [List.length_zip]; omega
    have := List.getElem_mem hz
    rw [List.getElem_zip] at this
    exact this
  · rw [e2] at h
    exact decide_eq_true h
theorem met_ne {xs c : List Rat} {t : Nat} (hc : Chan c t) (hx : xs.length = t) : metR xs c ≠ [] := fun e => by
  have z : S t (chF c) = 0 := by
    refine (S_congr fun i hi => ?_).trans S_zero
    have nn := chan_nn hc hi
    by_cases p : 0 < chF c i
    · have := met_mem (xs := xs) (by omega) (by rw [hc.len]; exact hi) p
      rw [e] at this
      cases this
    · grind
  rw [chan_sum hc] at z
  exact absurd z (by decide)
theorem mean_le {xs c : List Rat} {t : Nat} (hc : Chan c t) (hx : xs.length = t) : dotR c xs ≤ maxR (metR xs c) := by
  rw [dotR_S hc.len hx]
  exact mean_top (c := chF c) (y := chF xs) (fun i hi => chan_nn hc hi) (chan_sum hc) fun i hi p => maxR_ge (met_mem (by omega) (by rw [hc.len]; exact hi) p)
theorem mean_ge {xs c : List Rat} {t : Nat} (hc : Chan c t) (hx : xs.length = t) : - dotR c xs ≤ maxR ((metR xs c).map fun x => -x) := by
  rw [dotR_S hc.len hx]
  have := mean_top (c := chF c) (y := fun i => -chF xs i) (m := maxR ((metR xs c).map fun x => -x)) (fun i hi => chan_nn hc hi) (chan_sum hc) fun i hi p => maxR_ge (List.mem_map.mpr ⟨_, met_mem (by omega) (by rw [hc.len]; exact hi) p, rfl⟩)
  have e : S t (fun i => chF c i * -chF xs i) = - S t (fun i => c.getD i 0 * xs.getD i 0) := by
    rw [show - S t (fun i => c.getD i 0 * xs.getD i 0) = -1 * S t (fun i => c.getD i 0 * xs.getD i 0) by grind, ← S_mul]
    exact S_congr fun i hi => by unfold chF; grind
  rw [e] at this
  exact this
theorem met_bd {n : Nat} {xs c : List Rat} (h : ∀ x ∈ xs, Bd n x) : ∀ x ∈ metR xs c, Bd n x := fun x hx => by
  obtain ⟨q, hq, rfl⟩ := List.mem_map.mp hx
  exact h _ (List.of_mem_zip (a := q.1) (b := q.2) (List.mem_filter.mp hq).1).1
/-- what is put together of chances is chances -/
theorem put_len (c : List Rat) (rows : List (List Rat)) (s : Nat) : (putR c rows s).length = s := by unfold putR; rw [List.length_map, List.length_range]
theorem put_at {c : List Rat} {rows : List (List Rat)} {t s j : Nat} (lc : c.length = t) (lr : rows.length = t) (hj : j < s) : (putR c rows s).getD j 0 = S t (fun i => chF c i * lkF rows i j) := by
  unfold putR
  rw [getD_map (d := 0) (by rw [List.length_range]; exact hj), getD_range hj, dotR_S lc (by unfold colR; rw [List.length_map]; exact lr)]
  exact S_congr fun i hi => by rw [col_at (by omega)]; rfl
theorem put_chan {c : List Rat} {rows : List (List Rat)} {t s : Nat} (hc : Chan c t) (ll : Looks rows t s) : chanOf (putR c rows s) = some (putR c rows s) := by
  refine chan_by (put_len c rows s) (fun k hk => ?_) ?_
  · rw [put_at hc.len ll.len hk]
    exact S_nn fun i hi => Rat.mul_nonneg (chan_nn hc hi) (row_nn ll hi hk)
  · rw [S_congr (g := fun k => S t (fun i => chF c i * lkF rows i k)) fun k hk => put_at hc.len ll.len hk, S_swap, ← chan_sum hc]
    refine S_congr fun i hi => ?_
    have : S s (fun j => lkF rows i j) = 1 := row_sum ll hi
    rw [S_mul, this, Rat.mul_one]
theorem put_bd {n m s : Nat} {c : List Rat} {rows : List (List Rat)} {t : Nat} (bc : ∀ x ∈ c, Bd n x) (lc : c.length = t) (tb : Tab m t s rows) : ∀ x ∈ putR c rows s, Bd (1 + (n + m + 3) * t) x := by
  intro x hx
  obtain ⟨j, hj, rfl⟩ := List.mem_map.mp hx
  exact dotR_bd bc (tb.cols.bd _ (List.mem_map.mpr ⟨j, hj, rfl⟩)) (by omega)
section
variable {T : Str → Option Fc}
/-- two things in a thing that is handed -/
theorem two_items {d a b : D} (e : d.tp = .tup [a, b]) : ∃ x y, d.items = some [x, y] ∧ x.tp = a ∧ y.tp = b := by
  obtain ⟨ds, h1, h2⟩ := items_tp e
  match ds, h2 with
  | [x, y], h2 =>
    simp only [D.tps, List.cons.injEq, and_true] at h2
    exact ⟨x, y, h1, h2.1, h2.2⟩
  | [], h2 => cases h2
  | [x], h2 => simp [D.tps] at h2
  | x :: y :: z :: r, h2 => simp [D.tps] at h2
theorem rds_two {h : Hep} {x y : D} {vs : List Val} (r : Rds h [x, y] vs) : ∃ v w, vs = [v, w] ∧ Rd h x v ∧ Rd h y w := by
  obtain ⟨v, r1, e1, a, w, r2, e2, b, e3⟩ := r
  have e3 : r2 = [] := e3
  exact ⟨v, w, by rw [e1, e2, e3], a, b⟩
/-- the column of a table that is drawn -/
theorem col_lc {C : CalT} {elt : WE} {tg : Val → Env → Option Env} {env : Env} {pins : List (Addr × List Val)} {h : Hep} {Q : VQ} {n t s i : Nat} {rows : List (List Rat)} {vs : List Val} (pn : pinOk h pins) (tb : Tab n t s rows) (hi : i < s) (rd : Rds h (rows.map rowL) vs)
    (he : ∀ v : Val, ∃ env', tg v env = some env' ∧ ∀ (h : Hep) (K : VQ) (E : XQ), opIx v (.int i) h (fun y => K y h) → elt env' h K E) (q : newL h ((colR rows i).map fr) Q) : lcW (wCs C .nil) elt tg pins env Q vs [] h := by
  refine lc_rel0 (P := fun v y => ∃ r ∈ rows, Rd h (rowL r) v ∧ y = fr (r.getD i 0)) pn (fun v y ⟨r, hr, r1, e1⟩ K kk => ?_) (ys := rows.map fun r => fr (r.getD i 0)) (all2_rows rd) (by unfold colR at q; rw [List.map_map] at q; exact q)
  subst e1
  obtain ⟨env', e1, e2⟩ := he v
  rw [e1]
  obtain ⟨p, rfl, hp⟩ := rowL_out r1
  have li : i < r.length := by rw [tb.lens r hr]; exact hi
  have eg : r.getD i 0 = r[i] := by rw [List.getD_eq_getElem?_getD, List.getElem?_eq_getElem li]; rfl
  rw [eg] at kk
  exact e2 h K _ (opIx_list hp (v := fr r[i]) (atI_nat (by rw [List.getElem?_map, List.getElem?_eq_getElem li]; rfl)) kk)
end
end KM
/-! KRA: sums of fractions as the program tells them; a lambda asked. -/
namespace KM
open PySem PySem.Spec PyProof.Rows L2
def c_is_fraction : Sxs := .cons (.ret (.cmp .IsNot (.call "kept_fraction" (.cons (.var 0) .nil)) .non)) .nil
def c_lowest : Sxs := .cons (.ife (.not (.call "is_whole" (.cons (.var 0) .nil))) (.cons .bad .nil) .nil) (.cons (.ife (.or (.not (.call "is_whole" (.cons (.var 1) .nil))) (.cmp .Eq (.var 1) (.int 0))) (.cons .bad .nil) .nil) (.cons (.ret (.call "reduced" (.cons (.var 0) (.cons (.var 1) .nil)))) .nil))
def c_added : Sxs := .cons (.asg (.tc (.nm 2) (.tc (.nm 3) .tn)) (.call "need_two" (.cons (.var 0) (.cons (.var 1) .nil)))) (.cons (.ret (.call "plus" (.cons (.var 2) (.cons (.var 3) .nil)))) .nil)
def c_less_by : Sxs := .cons (.asg (.tc (.nm 2) (.tc (.nm 3) .tn)) (.call "need_two" (.cons (.var 0) (.cons (.var 1) .nil)))) (.cons (.ret (.call "minus" (.cons (.var 2) (.cons (.var 3) .nil)))) .nil)
def c_multiplied : Sxs := .cons (.asg (.tc (.nm 2) (.tc (.nm 3) .tn)) (.call "need_two" (.cons (.var 0) (.cons (.var 1) .nil)))) (.cons (.ret (.call "times" (.cons (.var 2) (.cons (.var 3) .nil)))) .nil)
def c_shared : Sxs := .cons (.asg (.tc (.nm 2) (.tc (.nm 3) .tn)) (.call "need_two" (.cons (.var 0) (.cons (.var 1) .nil)))) (.cons (.ife (.cmp .Eq (.var 3) (.con (.tup [.int 0, .int 1]))) (.cons (.rai0 "ByNought") .nil) .nil) (.cons (.ret (.call "over" (.cons (.var 2) (.cons (.var 3) .nil)))) .nil))
def c_is_less : Sxs := .cons (.asg (.tc (.nm 2) (.tc (.nm 3) .tn)) (.call "need_two" (.cons (.var 0) (.cons (.var 1) .nil)))) (.cons (.ret (.call "is_under" (.cons (.var 2) (.cons (.var 3) .nil)))) .nil)
def c__law_over : Sxs := .cons (.ret (.call "_law_frac" (.cons (.bin .Mult (.ix (.var 0) (.int 0)) (.ix (.var 1) (.int 1))) (.cons (.bin .Mult (.ix (.var 0) (.int 1)) (.ix (.var 1) (.int 0))) .nil)))) .nil
structure ExactLib (T : Str → Option Fc) : Prop where
  kl : KeptLib T
  rl : RedLib T
  pl : T "plus" = some ⟨2, 2, c_plus⟩
  mi : T "minus" = some ⟨2, 2, c_minus⟩
  ti : T "times" = some ⟨2, 2, c_times⟩
  ov : T "over" = some ⟨2, 2, c_over⟩
  un : T "is_under" = some ⟨2, 2, c_is_under⟩
  n2 : T "need_two" = some ⟨2, 4, c_need_two⟩
  isf : T "is_fraction" = some ⟨1, 1, c_is_fraction⟩
  lo : T "lowest" = some ⟨2, 2, c_lowest⟩
  ad : T "added" = some ⟨2, 4, c_added⟩
  le : T "less_by" = some ⟨2, 4, c_less_by⟩
  mu : T "multiplied" = some ⟨2, 4, c_multiplied⟩
  sh : T "shared" = some ⟨2, 4, c_shared⟩
  iu : T "is_less" = some ⟨2, 4, c_is_less⟩
/-- a table of code objects at hand: the lambda is asked -/
theorem met_in {T : Str → Option Fc} {k : Nat} {q : Str} {P : Addr} {h : Hep} {W : Hep → Prop} {E : XQ} (hq : T q = some ⟨0, 0, .cons (.ret (.con (.ref P))) .nil⟩) (hP : h P = some (.tab q)) (w : W h) : Calls T (k + 1) q [] h (fun v h0 => onTab h0 v q (W h0)) E :=
  Calls_eq [] hq rfl rfl (Dr.here ⟨hP, w⟩)
theorem fr_zero : fr 0 = .tup [.int 0, .int 1] := rfl
/-- handed pairs, read -/
theorem two_at {h : Hep} {d a b : D} {v : Val} (r : Rd h d v) (e : d.tp = .tup [a, b]) : ∃ (w1 w2 : Val) (d1 d2 : D), Rd h d1 w1 ∧ Rd h d2 w2 ∧ d1.tp = a ∧ d2.tp = b ∧ ∀ (h' : Hep) (P : Val → Prop), Sub h h' → (P w1 → opIx v (.int 0) h' P) ∧ (P w2 → opIx v (.int 1) h' P) := by
  obtain ⟨x, y, h1, h2, h3⟩ := two_items e
  obtain ⟨vs, its, rs⟩ := rd_its r h1
  obtain ⟨w1, w2, rfl, r1, r2⟩ := rds_two rs
  refine ⟨w1, w2, x, y, r1, r2, h2, h3, fun h' P s => ?_⟩
  cases d with
  | lst ds =>
    obtain ⟨p, xs, rfl, hp, rr⟩ := r
    rcases its with z | ⟨p', z, hp'⟩
    · cases z
    · cases z
      have hp2 := s _ _ hp'
      exact ⟨fun q => opIx_list hp2 (atI_nat (j := 0) rfl) q, fun q => opIx_list hp2 (atI_nat (j := 1) rfl) q⟩
  | tup ds =>
    obtain ⟨xs, rfl, rr⟩ := r
    rcases its with z | ⟨p', z, hp'⟩
    · cases z
      exact ⟨fun q => opIx_tup (atI_nat (j := 0) rfl) q, fun q => opIx_tup (atI_nat (j := 1) rfl) q⟩
    · cases z
  | _ => rw [D.tp] at e; cases e
section
variable {T : Str → Option Fc}
theorem need2 (hT : ExactLib T) {k : Nat} {v w : Val} {d e : D} {x y : Rat} {h : Hep} {Q : VQ} {E : XQ} (rd : Rd h d v) (ed : d.tp = dr x) (re : Rd h e w) (ee : e.tp = dr y) (q : Q (.tup [fr x, fr y]) h) : Calls T (k + 4) "need_two" [v, w] h Q E := by
  refine Calls_eq [some v, some w, none, none] hT.n2 rfl rfl ?_
  refine kept_ok hT.kl rd ed ?_
  refine kept_ok hT.kl re ee ?_
  exact Dr.here q
theorem added_ok (hT : ExactLib T) {k n : Nat} {v w : Val} {d e : D} {x y : Rat} {h : Hep} {Q : VQ} {E : XQ} (rd : Rd h d v) (ed : d.tp = dr x) (re : Rd h e w) (ee : e.tp = dr y) (h0 : 0 < n) (h1 : n ≤ 3900) (bx : Bd n x) (bY : Bd n y) (q : Q (fr (x + y)) h) : Calls T (k + 5) "added" [v, w] h Q E := by
  refine Calls_eq [some v, some w, none, none] hT.ad rfl rfl ?_
  refine need2 hT rd ed re ee ?_
  refine plus_ok hT.rl hT.pl (k := k + 1) h0 (by omega) bx bY ?_
  exact Dr.here q
theorem less_by_ok (hT : ExactLib T) {k n : Nat} {v w : Val} {d e : D} {x y : Rat} {h : Hep} {Q : VQ} {E : XQ} (rd : Rd h d v) (ed : d.tp = dr x) (re : Rd h e w) (ee : e.tp = dr y) (h0 : 0 < n) (h1 : n ≤ 3900) (bx : Bd n x) (bY : Bd n y) (q : Q (fr (x - y)) h) : Calls T (k + 5) "less_by" [v, w] h Q E := by
  refine Calls_eq [some v, some w, none, none] hT.le rfl rfl ?_
  refine need2 hT rd ed re ee ?_
  refine minus_ok hT.rl hT.mi (k := k + 1) h0 (by omega) bx bY ?_
  exact Dr.here q
theorem multiplied_ok (hT : ExactLib T) {k n : Nat} {v w : Val} {d e : D} {x y : Rat} {h : Hep} {Q : VQ} {E : XQ} (rd : Rd h d v) (ed : d.tp = dr x) (re : Rd h e w) (ee : e.tp = dr y) (h0 : 0 < n) (h1 : n ≤ 3900) (bx : Bd n x) (bY : Bd n y) (q : Q (fr (x * y)) h) : Calls T (k + 5) "multiplied" [v, w] h Q E := by
  refine Calls_eq [some v, some w, none, none] hT.mu rfl rfl ?_
  refine need2 hT rd ed re ee ?_
  refine times_ok hT.rl hT.ti (k := k + 1) h0 (by omega) bx bY ?_
  exact Dr.here q
theorem is_less_ok (hT : ExactLib T) {k n : Nat} {v w : Val} {d e : D} {x y : Rat} {h : Hep} {Q : VQ} {E : XQ} (rd : Rd h d v) (ed : d.tp = dr x) (re : Rd h e w) (ee : e.tp = dr y) (h0 : 0 < n) (h1 : n ≤ 3900) (bx : Bd n x) (bY : Bd n y) (q : Q (.bl (decide (x < y))) h) : Calls T (k + 5) "is_less" [v, w] h Q E := by
  refine Calls_eq [some v, some w, none, none] hT.iu rfl rfl ?_
  refine need2 hT rd ed re ee ?_
  refine under_ok hT.un (k := k + 3) h0 (by omega) bx bY ?_
  exact Dr.here q
theorem shared_ok (hT : ExactLib T) {k n : Nat} {v w : Val} {d e : D} {x y : Rat} {h : Hep} {Q : VQ} {E : XQ} (rd : Rd h d v) (ed : d.tp = dr x) (re : Rd h e w) (ee : e.tp = dr y) (h0 : 0 < n) (h1 : n ≤ 3900) (bx : Bd n x) (bY : Bd n y) (q : y ≠ 0 → Q (fr (x / y)) h) (qe : y = 0 → E ⟨"ByNought", []⟩ h) : Calls T (k + 5) "shared" [v, w] h Q E := by
  refine Calls_eq [some v, some w, none, none] hT.sh rfl rfl ?_
  refine need2 hT rd ed re ee ?_
  show onD h (fr y) fun m => onD h (fr 0) fun n => _
  refine on_fr ?_
  rw [eqv_fr]
  by_cases z : y = 0
  · refine ifT (decide_eq_true z) ?_
    exact Dr.here (qe z)
  · refine ifF (decide_eq_false z) ?_
    refine over_ok hT.rl hT.ov (k := k + 1) h0 (by omega) bx bY z ?_
    exact Dr.here (q z)
theorem is_fraction_ok (hT : ExactLib T) {k : Nat} {v : Val} {d : D} {h : Hep} {Q : VQ} {E : XQ} (rd : Rd h d v) (q : Q (.bl d.frac.isSome) h) : Calls T (k + 4) "is_fraction" [v] h Q E := by
  refine Calls_eq [some v] hT.isf rfl rfl ?_
  refine kept_gen hT.kl rd ?_
  cases z : d.frac with
  | none =>
    rw [z] at q
    exact Dr.here q
  | some x =>
    rw [z] at q
    exact Dr.here q
theorem lowest_ok (hT : ExactLib T) {k n : Nat} {a b : Int} {h : Hep} {Q : VQ} {E : XQ} (hb : b ≠ 0) (h0 : 0 < n) (h1 : n ≤ 8000) (lb : b.natAbs < 2 ^ n) (q : Q (fr (Rat.divInt a b)) h) : Calls T (k + 3) "lowest" [.int a, .int b] h Q E := by
  refine Calls_eq [some (.int a), some (.int b)] hT.lo rfl rfl ?_
  refine is_whole_ok hT.kl.iw (d := .int a) rfl ?_
  refine is_whole_ok hT.kl.iw (d := .int b) rfl ?_
  refine ifF (decide_eq_false hb) ?_
  refine red_ok hT.rl (k := k) hb h0 h1 lb ?_
  exact Dr.here q
theorem lover_ok (hF : T "_law_frac" = some ⟨2, 5, c__law_frac⟩) (hT : T "_law_over" = some ⟨2, 2, c__law_over⟩) {k n : Nat} {x y : Rat} {h : Hep} {Q : VQ} {E : XQ} (h0 : 0 < n) (h1 : n ≤ 3950) (hx : Bd n x) (hy : Bd n y) (hz : y ≠ 0) (q : Q (fr (x / y)) h) : Calls T (k + 2) "_law_over" [fr x, fr y] h Q E := by
  refine Calls_eq [some (fr x), some (fr y)] hT rfl rfl ?_
  refine ⟨mul_ok h0 (by omega) hx.1 hy.2, mul_ok (a := x.den) h0 (by omega) hx.2 hy.1, ?_⟩
  refine lfrac_ok hF (Int.mul_ne_zero (den_ne x) (fun z => hz (Rat.num_eq_zero.mp z))) (n := n + n) (by omega) (by omega) (mul_bd hx.1 hy.2) (mul_bd (a := x.den) hx.2 hy.1) ?_
  rw [← div_eq_divInt]
  exact Dr.here q
end
end KM
/-! KRB: k01, two fractions reckoned with. -/
namespace KM
open PySem PySem.Spec PyProof.Rows L2
def c__law_any : Sxs := .cons (.ife (.cmp .Gt (.call "_law_draw" (.cons (.var 0) (.cons (.int 3) .nil))) (.int 0)) (.cons (.ret (.call "_law_drawn" (.cons (.var 0) (.cons (.int 5) .nil)))) .nil) .nil) (.cons (.par [1, 2] (.cons (.bin .Add (.int 1) (.call "_law_draw" (.cons (.var 0) (.cons (.bin .Pow (.int 10) (.int 20)) .nil)))) (.cons (.bin .Add (.int 1) (.call "_law_draw" (.cons (.var 0) (.cons (.bin .Pow (.int 10) (.int 20)) .nil)))) .nil))) (.cons (.ret (.call "_law_frac" (.cons (.bin .Mult (.bin .Mult (.call "_law_pick" (.cons (.var 0) (.cons (.lst (.cons (.int 1) (.cons (.neg (.int 1)) .nil))) .nil))) (.var 1)) (.var 1)) (.cons (.bin .Mult (.var 2) (.call "_law_pick" (.cons (.var 0) (.cons (.lst (.cons (.int 1) (.cons (.var 2) .nil))) .nil)))) .nil)))) .nil))
def c_two01 : Sxs := .cons (.asg (.nm 10) (.call "_law_loose" (.cons (.var 0) (.cons (.lst (.cons (.var 1) (.cons (.var 2) .nil))) .nil)))) (.cons (.asg (.nm 3) (.call "_law_copied" (.cons (.var 10) .nil))) (.cons (.asg (.nm 4) (.lst (.cons (.call "_law_plus" (.cons (.var 1) (.cons (.var 2) .nil))) (.cons (.call "_law_minus" (.cons (.var 1) (.cons (.var 2) .nil))) (.cons (.call "_law_times" (.cons (.var 1) (.cons (.var 2) .nil))) (.cons (.call "_law_under" (.cons (.var 1) (.cons (.var 2) .nil))) .nil)))))) (.cons (.asg (.nm 5) (.lst (.cons (.call "added" (.cons (.ix (.var 10) (.int 0)) (.cons (.ix (.var 10) (.int 1)) .nil))) (.cons (.call "less_by" (.cons (.ix (.var 10) (.int 0)) (.cons (.ix (.var 10) (.int 1)) .nil))) (.cons (.call "multiplied" (.cons (.ix (.var 10) (.int 0)) (.cons (.ix (.var 10) (.int 1)) .nil))) (.cons (.call "is_less" (.cons (.ix (.var 10) (.int 0)) (.cons (.ix (.var 10) (.int 1)) .nil))) .nil)))))) (.cons (.asg (.nm 6) (.lst (.cons (.kall "added" [1, 0] (.cons (.var 2) (.cons (.var 1) .nil))) (.cons (.kall "less_by" [1, 0] (.cons (.var 2) (.cons (.var 1) .nil))) (.cons (.kall "multiplied" [1, 0] (.cons (.var 2) (.cons (.var 1) .nil))) (.cons (.kall "is_less" [1, 0] (.cons (.var 2) (.cons (.var 1) .nil))) .nil)))))) (.cons (.ife (.not (.call "_law_same" (.cons (.lst (.cons (.var 5) (.cons (.var 6) (.cons (.var 10) .nil)))) (.cons (.lst (.cons (.var 4) (.cons (.var 4) (.cons (.var 3) .nil)))) .nil)))) (.cons (.ret (.bl false)) .nil) .nil) (.cons (.asg (.nm 7) (.lst (.cons (.met "_law_two_right.<locals>.<lambda>" [("ByNought", "nought", none)] (.call "shared" (.cons (.ix (.var 10) (.int 0)) (.cons (.ix (.var 10) (.int 1)) .nil)))) (.cons (.met "_law_two_right.<locals>.<lambda>" [("ByNought", "nought", none)] (.kall "shared" [1, 0] (.cons (.var 2) (.cons (.var 1) .nil)))) .nil)))) (.cons (.asg (.nm 8) (.ife (.cmp .Eq (.var 2) (.tup (.cons (.int 0) (.cons (.int 1) .nil)))) (.tup (.cons (.str "nought") (.cons .non .nil))) (.tup (.cons (.str "told") (.cons (.call "_law_over" (.cons (.var 1) (.cons (.var 2) .nil))) .nil))))) (.cons (.ife (.not (.call "_law_same" (.cons (.var 7) (.cons (.lst (.cons (.var 8) (.cons (.var 8) .nil))) .nil)))) (.cons (.ret (.bl false)) .nil) .nil) (.cons (.asg (.nm 9) (.lst (.cons (.call "less_by" (.cons (.ix (.var 5) (.int 0)) (.cons (.var 2) .nil))) (.cons (.call "added" (.cons (.ix (.var 5) (.int 1)) (.cons (.var 2) .nil))) .nil)))) (.cons (.ret (.and (.call "_law_same" (.cons (.var 9) (.cons (.lst (.cons (.var 1) (.cons (.var 1) .nil))) .nil))) (.or (.cmp .Eq (.var 2) (.tup (.cons (.int 0) (.cons (.int 1) .nil)))) (.call "_law_same" (.cons (.call "multiplied" (.cons (.ix (.ix (.var 7) (.int 0)) (.int 1)) (.cons (.var 2) .nil))) (.cons (.var 1) .nil)))))) .nil))))))))))
def c_two01_end : Sxs := .cons (.ife (.not (.call "_law_same" (.cons (.var 7) (.cons (.lst (.cons (.var 8) (.cons (.var 8) .nil))) .nil)))) (.cons (.ret (.bl false)) .nil) .nil) (.cons (.asg (.nm 9) (.lst (.cons (.call "less_by" (.cons (.ix (.var 5) (.int 0)) (.cons (.var 2) .nil))) (.cons (.call "added" (.cons (.ix (.var 5) (.int 1)) (.cons (.var 2) .nil))) .nil)))) (.cons (.ret (.and (.call "_law_same" (.cons (.var 9) (.cons (.lst (.cons (.var 1) (.cons (.var 1) .nil))) .nil))) (.or (.cmp .Eq (.var 2) (.tup (.cons (.int 0) (.cons (.int 1) .nil)))) (.call "_law_same" (.cons (.call "multiplied" (.cons (.ix (.ix (.var 7) (.int 0)) (.int 1)) (.cons (.var 2) .nil))) (.cons (.var 1) .nil)))))) .nil))
structure Law01Lib (T : Str → Option Fc) (P : Addr) : Prop where
  ex : ExactLib T
  dw : T "_law_draw" = some ⟨2, 5, c__law_draw⟩
  pk : T "_law_pick" = some ⟨2, 2, c__law_pick⟩
  fr : T "_law_frac" = some ⟨2, 5, c__law_frac⟩
  dn : T "_law_drawn" = some ⟨2, 3, c__law_drawn⟩
  sa : T "_law_same" = some ⟨2, 4, c__law_same⟩
  co : T "_law_copied" = some ⟨1, 4, c__law_copied⟩
  lo : T "_law_loose" = some ⟨2, 4, c__law_loose⟩
  lpl : T "_law_plus" = some ⟨2, 2, c__law_plus⟩
  lmi : T "_law_minus" = some ⟨2, 2, c__law_minus⟩
  lti : T "_law_times" = some ⟨2, 2, c__law_times⟩
  lov : T "_law_over" = some ⟨2, 2, c__law_over⟩
  lun : T "_law_under" = some ⟨2, 2, c__law_under⟩
  isf : T "_law_is_frac" = some ⟨1, 4, c__law_is_frac⟩
  an : T "_law_any" = some ⟨1, 3, c__law_any⟩
  tw : T "_law_two_right" = some ⟨3, 11, c_two01⟩
  tab : T "_law_two_right.<locals>.<lambda>" = some ⟨0, 0, .cons (.ret (.con (.ref P))) .nil⟩
/-- what sharing tells -/
def shV (x y : Rat) : Val := if y = 0 then .tup [.str "nought", .non] else .tup [.str "told", KM.fr (x / y)]
def shD (x y : Rat) : D := if y = 0 then .tup [.str "nought", .non] else .tup [.str "told", dr (x / y)]
theorem rd_sh (h : Hep) (x y : Rat) : Rd h (shD x y) (shV x y) := by
  unfold shD shV
  split
  · exact ⟨_, rfl, Rds.cons (show Rd h (.str "nought") (.str "nought") from rfl) (Rds.cons (show Rd h .non .non from rfl) rfl)⟩
  · exact ⟨_, rfl, Rds.cons (show Rd h (.str "told") (.str "told") from rfl) (Rds.cons (rd_fr h _) rfl)⟩
theorem opIx_sh {x y : Rat} {h : Hep} {P : Val → Prop} (z : y ≠ 0) (p : P (KM.fr (x / y))) : opIx (shV x y) (.int 1) h P := by
  unfold shV
  rw [if_neg z]
  exact opIx_tup (xs := [.str "told", KM.fr (x / y)]) (atI_nat (j := 1) rfl) p
theorem sh_dep (x y : Rat) : (shD x y).dep ≤ 2 := by
  unfold shD
  split
  · exact (by decide : D.dep (.tup [.str "nought", .non]) ≤ 2)
  · show D.dep (.tup [.str "told", .tup [.int _, .int _]]) ≤ 2
    simp [D.dep, D.deps]
theorem sh_wid (x y : Rat) : (shD x y).wid ≤ 2 := by
  unfold shD
  split
  · exact (by decide : D.wid (.tup [.str "nought", .non]) ≤ 2)
  · show D.wid (.tup [.str "told", .tup [.int _, .int _]]) ≤ 2
    simp [D.wid, D.wids]
section
variable {T : Str → Option Fc} {P : Addr}
/-- a lambda that shares -/
theorem met_shared (hT : ExactLib T) {k n : Nat} {v w : Val} {d e : D} {x y : Rat} {h : Hep} {Q R : VQ} (rd : Rd h d v) (ed : d.tp = dr x) (re : Rd h e w) (ee : e.tp = dr y) (h0 : 0 < n) (h1 : n ≤ 3900) (bx : Bd n x) (bY : Bd n y) (q : Q (shV x y) h) (hR : ∀ u h, Q (.tup [.str "told", u]) h → R u h) :
    Calls T (k + 5) "shared" [v, w] h R (fun x h1 => metH [("ByNought", "nought", none)] x Q h1) := by
  refine shared_ok hT rd ed re ee h0 h1 bx bY (fun z => hR _ _ ?_) fun z => ?_
  · unfold shV at q
    rw [if_neg z] at q
    exact q
  · unfold shV at q
    rw [if_pos z] at q
    show metH [("ByNought", "nought", none)] ⟨"ByNought", []⟩ Q h
    unfold metH
    rw [if_pos rfl]
    exact q
theorem two01_end (hT : Law01Lib T P) {k : Nat} {x y : Rat} {z0 z3 z4 z6 z9 z10 : Option Val} {s8 : Val} {p5 p7 : Addr} {g : Hep} {D0 : KD} {E : XE'} (bx : Bd 140 x) (bY : Bd 140 y) (h8 : s8 = shV x y) (hp5 : g p5 = some (.lst [KM.fr (x + y), KM.fr (x - y), KM.fr (x * y), .bl (decide (x < y))])) (hp7 : g p7 = some (.lst [shV x y, shV x y]))
    (q : ∀ g', Sub g g' → D0.rt (.bl true) g') : wSs (Calls T (k + 10)) c_two01_end [z0, some (KM.fr x), some (KM.fr y), z3, z4, some (.ref p5), z6, some (.ref p7), some s8, z9, z10] g D0 E := by
  subst h8
  have dS := sh_dep x y
  have wS := sh_wid x y
  refine newL_in fun p11 np11 => ?_
  have s11 := (Sub.refl g).new (o := .lst [shV x y, shV x y]) np11
  have hp11 : (hset g p11 (.lst [shV x y, shV x y])) p11 = _ := hset_same
  generalize hset g p11 (.lst [shV x y, shV x y]) = g1 at *
  have rS : ∀ {p : Addr} {g : Hep}, g p = some (.lst [shV x y, shV x y]) → Rd g (.lst [shD x y, shD x y]) (.ref p) := fun hp => ⟨_, _, rfl, hp, Rds.cons (rd_sh _ _ _) (Rds.cons (rd_sh _ _ _) rfl)⟩
  refine same2 hT.sa (n := k + 10) (d := .lst [shD x y, shD x y]) (by simp only [D.dep, D.deps]; omega) (by simp only [D.wid, D.wids, List.length_cons, List.length_nil]; omega) (rS (s11 _ _ hp7)) (rS hp11) ?_
  refine opIx_list (s11 _ _ hp5) (v := KM.fr (x + y)) (atI_nat (j := 0) rfl) ?_
  refine less_by_ok hT.ex (k := k + 5) (n := 282) (rd_fr g1 (x + y)) rfl (rd_fr g1 y) rfl (by decide) (by decide) (bx.add bY) (bY.mono (by decide)) ?_
  refine opIx_list (s11 _ _ hp5) (v := KM.fr (x - y)) (atI_nat (j := 1) rfl) ?_
  refine added_ok hT.ex (k := k + 5) (n := 282) (rd_fr g1 (x - y)) rfl (rd_fr g1 y) rfl (by decide) (by decide) (bx.sub bY) (bY.mono (by decide)) ?_
  rw [show x + y - y = x by grind, show x - y + y = x by grind]
  refine newL_in fun p12 np12 => ?_
  have s12 := s11.trans ((Sub.refl g1).new (o := .lst [KM.fr x, KM.fr x]) np12)
  have hp12 : (hset g1 p12 (.lst [KM.fr x, KM.fr x])) p12 = _ := hset_same
  generalize hset g1 p12 (.lst [KM.fr x, KM.fr x]) = g2 at *
  refine newL_in fun p13 np13 => ?_
  have s3 := (Sub.refl g2).new (o := .lst [KM.fr x, KM.fr x]) np13
  have s13 := s12.trans s3
  have hp13 : (hset g2 p13 (.lst [KM.fr x, KM.fr x])) p13 = _ := hset_same
  generalize hset g2 p13 (.lst [KM.fr x, KM.fr x]) = g3 at *
  have r2 : ∀ {p : Addr}, g3 p = some (.lst [KM.fr x, KM.fr x]) → Rd g3 (.lst [dr x, dr x]) (.ref p) := fun hp => ⟨_, _, rfl, hp, Rds.cons (rd_fr _ _) (Rds.cons (rd_fr _ _) rfl)⟩
  refine same2 hT.sa (n := k + 10) (d := .lst [dr x, dr x]) (by show D.dep (.lst [.tup [.int _, .int _], .tup [.int _, .int _]]) < _; simp [D.dep, D.deps]) (by show D.wid (.lst [.tup [.int _, .int _], .tup [.int _, .int _]]) < _; simp [D.wid, D.wids]) (r2 (s3 _ _ hp12)) (r2 hp13) ?_
  show onD g3 (KM.fr y) fun m => onD g3 (KM.fr 0) fun n => _
  refine on_fr ?_
  rw [eqv_fr]
  by_cases z : y = 0
  · refine ifT (decide_eq_true z) ?_
    rw [decide_eq_true z]
    exact q g3 s13
  · refine ifF (decide_eq_false z) ?_
    refine opIx_list (s13 _ _ hp7) (v := shV x y) (atI_nat (j := 0) rfl) ?_
    refine opIx_sh z ?_
    refine multiplied_ok hT.ex (k := k + 5) (n := 281) (rd_fr g3 (x / y)) rfl (rd_fr g3 y) rfl (by decide) (by decide) (bx.div bY) (bY.mono (by decide)) ?_
    rw [show x / y * y = x by rw [Rat.div_def, Rat.mul_assoc, Rat.inv_mul_cancel y z, Rat.mul_one]]
    refine same2 hT.sa (n := k + 10) (d := dr x) (by show 1 < _; omega) (by show D.wid (.tup [.int _, .int _]) < _; simp [D.wid, D.wids]) (rd_fr g3 x) (rd_fr g3 x) ?_
    exact q g3 s13
theorem two01 (hT : Law01Lib T P) {k : Nat} {a : Addr} {b : Nat} {x y : Rat} {h g : Hep} {Q : VQ} {E : XQ} (st : St a h (b + 10) g) (hP : h P = some (.tab "_law_two_right.<locals>.<lambda>")) (bx : Bd 140 x) (bY : Bd 140 y) (q : ∀ h' g', Sub h h' → St a h' b g' → Q (.bl true) g') :
    Calls T (k + 11) "_law_two_right" [.ref a, KM.fr x, KM.fr y] g Q E := by
  refine Calls_eq [some (.ref a), some (KM.fr x), some (KM.fr y), none, none, none, none, none, none, none, none] hT.tw rfl rfl ?_
  refine St.newL st fun p1 h1 g1 s1 sg1 st1 hp1 np1 => ?_
  have rd1 : Rd h1 (.lst [dr x, dr y]) (.ref p1) := ⟨p1, _, rfl, hp1, Rds.cons (rd_fr _ _) (Rds.cons (rd_fr _ _) rfl)⟩
  refine looseS hT.dw hT.lo (b := b) (n := k + 10) (d := .lst [dr x, dr y]) (st1.le (by show b + D.cnt (.lst [.tup [.int _, .int _], .tup [.int _, .int _]]) ≤ _; simp [D.cnt, D.cnts])) (by show D.dep (.lst [.tup [.int _, .int _], .tup [.int _, .int _]]) < _; simp [D.dep, D.deps]) (by show D.wid (.lst [.tup [.int _, .int _], .tup [.int _, .int _]]) < _; simp [D.wid, D.wids]) rd1 fun v' d' h2 g2 s2 st2 rd et => ?_
  have et : d'.tp = .tup [dr x, dr y] := et
  have nd' : d'.nd = true := nd_of (e := .lst [dr x, dr y]) et rfl
  have dd : d'.dep = 2 := by rw [dep_of et]; show D.dep (.tup [.tup [.int _, .int _], .tup [.int _, .int _]]) = 2; simp [D.dep, D.deps]
  have ww : d'.wid = 2 := by rw [wid_of et]; show D.wid (.tup [.tup [.int _, .int _], .tup [.int _, .int _]]) = 2; simp [D.wid, D.wids]
  have fin : Q (.bl true) g2 := q h2 g2 (s1.trans s2) st2
  have rg := rd.sub st2.sub
  have hP2 := st2.sub _ _ (s2 _ _ (s1 _ _ hP))
  refine lcopied_ok hT.co (k + 10) d' v' g2 _ _ (by omega) (by omega) nd' rg fun vw g3 s3 rw3 => ?_
  refine lplus_ok hT.fr hT.lpl (k := k + 8) (n := 140) (by decide) (by decide) bx bY ?_
  refine lminus_ok hT.fr hT.lmi (k := k + 8) (n := 140) (by decide) (by decide) bx bY ?_
  refine ltimes_ok hT.fr hT.lti (k := k + 8) (n := 140) (by decide) (by decide) bx bY ?_
  refine lunder_ok hT.lun (k := k + 9) (n := 140) (by decide) (by decide) bx bY ?_
  refine newL_in fun p5 np5 => ?_
  have s5 := s3.trans ((Sub.refl g3).new (o := .lst [KM.fr (x + y), KM.fr (x - y), KM.fr (x * y), .bl (decide (x < y))]) np5)
  have s35 := (Sub.refl g3).new (o := .lst [KM.fr (x + y), KM.fr (x - y), KM.fr (x * y), .bl (decide (x < y))]) np5
  have hp5 : (hset g3 p5 (.lst [KM.fr (x + y), KM.fr (x - y), KM.fr (x * y), .bl (decide (x < y))])) p5 = _ := hset_same
  generalize hset g3 p5 (.lst [KM.fr (x + y), KM.fr (x - y), KM.fr (x * y), .bl (decide (x < y))]) = g5 at *
  obtain ⟨w1, w2, d1, d2, r1, r2, e1, e2, ix⟩ := two_at rg et
  have a1 := r1.sub s5
  have a2 := r2.sub s5
  have ix5 := fun P => ix g5 P s5
  refine (ix5 _).1 ((ix5 _).2 ?_)
  refine added_ok hT.ex (k := k + 5) (n := 140) a1 e1 a2 e2 (by decide) (by decide) bx bY ?_
  refine (ix5 _).1 ((ix5 _).2 ?_)
  refine less_by_ok hT.ex (k := k + 5) (n := 140) a1 e1 a2 e2 (by decide) (by decide) bx bY ?_
  refine (ix5 _).1 ((ix5 _).2 ?_)
  refine multiplied_ok hT.ex (k := k + 5) (n := 140) a1 e1 a2 e2 (by decide) (by decide) bx bY ?_
  refine (ix5 _).1 ((ix5 _).2 ?_)
  refine is_less_ok hT.ex (k := k + 5) (n := 140) a1 e1 a2 e2 (by decide) (by decide) bx bY ?_
  refine newL_in fun p6 np6 => ?_
  have s6 := (Sub.refl g5).new (o := .lst [KM.fr (x + y), KM.fr (x - y), KM.fr (x * y), .bl (decide (x < y))]) np6
  have hp6 : (hset g5 p6 (.lst [KM.fr (x + y), KM.fr (x - y), KM.fr (x * y), .bl (decide (x < y))])) p6 = _ := hset_same
  generalize hset g5 p6 (.lst [KM.fr (x + y), KM.fr (x - y), KM.fr (x * y), .bl (decide (x < y))]) = g6 at *
  refine added_ok hT.ex (k := k + 5) (n := 140) (rd_fr g6 x) rfl (rd_fr g6 y) rfl (by decide) (by decide) bx bY ?_
  refine less_by_ok hT.ex (k := k + 5) (n := 140) (rd_fr g6 x) rfl (rd_fr g6 y) rfl (by decide) (by decide) bx bY ?_
  refine multiplied_ok hT.ex (k := k + 5) (n := 140) (rd_fr g6 x) rfl (rd_fr g6 y) rfl (by decide) (by decide) bx bY ?_
  refine is_less_ok hT.ex (k := k + 5) (n := 140) (rd_fr g6 x) rfl (rd_fr g6 y) rfl (by decide) (by decide) bx bY ?_
  refine newL_in fun p7 np7 => ?_
  have s7 := (Sub.refl g6).new (o := .lst [KM.fr (x + y), KM.fr (x - y), KM.fr (x * y), .bl (decide (x < y))]) np7
  have hp7 : (hset g6 p7 (.lst [KM.fr (x + y), KM.fr (x - y), KM.fr (x * y), .bl (decide (x < y))])) p7 = _ := hset_same
  generalize hset g6 p7 (.lst [KM.fr (x + y), KM.fr (x - y), KM.fr (x * y), .bl (decide (x < y))]) = g7 at *
  refine newL_in fun p8 np8 => ?_
  have s8 := (Sub.refl g7).new (o := .lst [.ref p6, .ref p7, v']) np8
  have hp8 : (hset g7 p8 (.lst [.ref p6, .ref p7, v'])) p8 = _ := hset_same
  generalize hset g7 p8 (.lst [.ref p6, .ref p7, v']) = g8 at *
  refine newL_in fun p9 np9 => ?_
  have s9 := (Sub.refl g8).new (o := .lst [.ref p5, .ref p5, vw]) np9
  have hp9 : (hset g8 p9 (.lst [.ref p5, .ref p5, vw])) p9 = _ := hset_same
  generalize hset g8 p9 (.lst [.ref p5, .ref p5, vw]) = g9 at *
  have rF : ∀ {p : Addr} {g : Hep}, g p = some (.lst [KM.fr (x + y), KM.fr (x - y), KM.fr (x * y), .bl (decide (x < y))]) → Rd g (.lst [dr (x + y), dr (x - y), dr (x * y), .bl (decide (x < y))]) (.ref p) := fun hp => ⟨_, _, rfl, hp, Rds.cons (rd_fr _ _) (Rds.cons (rd_fr _ _) (Rds.cons (rd_fr _ _) (Rds.cons rfl rfl)))⟩
  have s69 := s7.trans (s8.trans s9)
  have s59 := s6.trans s69
  have dF : D.dep (.lst [dr (x + y), dr (x - y), dr (x * y), .bl (decide (x < y))]) = 2 := by show D.dep (.lst [.tup [.int _, .int _], .tup [.int _, .int _], .tup [.int _, .int _], .bl _]) = 2; simp [D.dep, D.deps]
  have wF : D.wid (.lst [dr (x + y), dr (x - y), dr (x * y), .bl (decide (x < y))]) = 4 := by show D.wid (.lst [.tup [.int _, .int _], .tup [.int _, .int _], .tup [.int _, .int _], .bl _]) = 4; simp [D.wid, D.wids]
  refine same2 hT.sa (n := k + 10) (d := .lst [.lst [dr (x + y), dr (x - y), dr (x * y), .bl (decide (x < y))], .lst [dr (x + y), dr (x - y), dr (x * y), .bl (decide (x < y))], d']) (by rw [D.dep]; simp only [D.deps, dF, dd]; omega) (by rw [D.wid]; simp only [D.wids, wF, ww, List.length_cons, List.length_nil]; omega)
    ⟨p8, _, rfl, s9 _ _ hp8, Rds.cons (rF (s69 _ _ hp6)) (Rds.cons (rF ((s8.trans s9) _ _ hp7)) (Rds.cons (rg.sub (s5.trans s59)) rfl))⟩
    ⟨p9, _, rfl, hp9, Rds.cons (rF (s59 _ _ hp5)) (Rds.cons (rF (s59 _ _ hp5)) (Rds.cons (rw3.sub (s35.trans s59)) rfl))⟩ ?_
  have s29 := s5.trans s59
  have hP9 := s29 _ _ hP2
  have ix9 := fun P => ix g9 P s29
  refine met_in (k := k + 9) hT.tab hP9 ?_
  refine (ix9 _).1 ((ix9 _).2 ?_)
  refine met_shared hT.ex (k := k + 5) (n := 140) (r1.sub s29) e1 (r2.sub s29) e2 (by decide) (by decide) bx bY ?_ ?_
  rotate_left
  · exact fun u h z => z
  refine met_in (k := k + 9) hT.tab hP9 ?_
  refine met_shared hT.ex (k := k + 5) (n := 140) (rd_fr g9 x) rfl (rd_fr g9 y) rfl (by decide) (by decide) bx bY ?_ ?_
  rotate_left
  · exact fun u h z => z
  refine newL_in fun p10 np10 => ?_
  have s10 := (Sub.refl g9).new (o := .lst [shV x y, shV x y]) np10
  have hp10 : (hset g9 p10 (.lst [shV x y, shV x y])) p10 = _ := hset_same
  generalize hset g9 p10 (.lst [shV x y, shV x y]) = g10 at *
  have s210 := s29.trans s10
  have dS := sh_dep x y
  have wS := sh_wid x y
  show onD g10 (KM.fr y) fun m => onD g10 (KM.fr 0) fun n => _
  refine on_fr ?_
  rw [eqv_fr]
  have fin2 : ∀ g', Sub g10 g' → Dr g' (Q (.bl true)) := fun g' s' => ⟨g2, s210.trans s', fin⟩
  by_cases z : y = 0
  · refine ifT (decide_eq_true z) ?_
    exact two01_end hT (k := k) bx bY (by unfold shV; rw [if_pos z]) ((s69.trans s10) _ _ hp6) hp10 fin2
  · refine ifF (decide_eq_false z) ?_
    refine lover_ok hT.fr hT.lov (k := k + 8) (n := 140) (by decide) (by decide) bx bY z ?_
    exact two01_end hT (k := k) bx bY (by unfold shV; rw [if_neg z]) ((s69.trans s10) _ _ hp6) hp10 fin2
end
end KM
/-! KRC: k01, the law. -/
namespace KM
open PySem PySem.Spec PyProof.Rows L2
def c_law01 : Sxs := .cons (.asg (.nm 1) (.call "_law_stream" (.cons (.var 0) .nil))) (.cons (.forr (.nm 2) (.rng1 (.int 14)) (.cons (.par [3, 4] (.cons (.call "_law_any" (.cons (.var 1) .nil)) (.cons (.call "_law_any" (.cons (.var 1) .nil)) .nil))) (.cons (.ife (.or (.not (.call "_law_two_right" (.cons (.var 1) (.cons (.var 3) (.cons (.var 4) .nil))))) (.or (.not (.call "_law_two_right" (.cons (.var 1) (.cons (.var 3) (.cons (.var 3) .nil))))) (.not (.call "_law_two_right" (.cons (.var 1) (.cons (.var 4) (.cons (.tup (.cons (.int 0) (.cons (.int 1) .nil))) .nil))))))) (.cons (.ret (.bl false)) .nil) .nil) (.cons (.par [5, 6] (.cons (.bin .Sub (.call "_law_draw" (.cons (.var 1) (.cons (.int 4000) .nil))) (.int 2000)) (.cons (.bin .Mult (.call "_law_pick" (.cons (.var 1) (.cons (.lst (.cons (.neg (.int 1)) (.cons (.int 1) .nil))) .nil))) (.bin .Add (.int 1) (.call "_law_draw" (.cons (.var 1) (.cons (.int 60) .nil))))) .nil))) (.cons (.ife (.not (.call "_law_same" (.cons (.lst (.cons (.call "lowest" (.cons (.var 5) (.cons (.var 6) .nil))) (.cons (.kall "lowest" [1, 0] (.cons (.var 6) (.cons (.var 5) .nil))) .nil))) (.cons (.bin .Mult (.lst (.cons (.call "_law_frac" (.cons (.var 5) (.cons (.var 6) .nil))) .nil)) (.int 2)) .nil)))) (.cons (.ret (.bl false)) .nil) .nil) (.cons (.forr (.nm 7) (.seq (.tup (.cons (.var 3) (.cons (.bi .list (.cons (.var 4) .nil)) (.cons (.tup (.cons (.var 5) (.cons (.var 6) .nil))) (.cons (.lst (.cons (.var 5) (.cons (.var 6) .nil))) (.cons (.tup (.cons (.var 5) (.cons (.int 1) .nil))) (.cons (.tup (.cons (.bl true) (.cons (.int 1) .nil))) (.cons (.tup (.cons (.int 1) (.cons (.bl true) .nil))) (.cons (.tup (.cons (.int 2) (.cons (.int 4) .nil))) (.cons (.tup (.cons (.int 0) (.cons (.int 2) .nil))) (.cons .non (.cons (.int 5) (.cons (.str "1/2") (.cons (.tup (.cons (.int 1) .nil)) (.cons (.tup (.cons (.int 1) (.cons (.int 2) (.cons (.int 3) .nil)))) (.cons .dct (.cons (.tup (.cons (.str "1") (.cons (.int 2) .nil))) (.cons (.tup (.cons (.tup (.cons (.int 1) (.cons (.int 2) .nil))) (.cons (.int 3) .nil))) .nil))))))))))))))))))) (.cons (.ife (.not (.call "_law_same" (.cons (.lst (.cons (.call "is_fraction" (.cons (.var 7) .nil)) (.cons (.kall "is_fraction" [0] (.cons (.var 7) .nil)) .nil))) (.cons (.bin .Mult (.lst (.cons (.call "_law_is_frac" (.cons (.var 7) .nil)) .nil)) (.int 2)) .nil)))) (.cons (.ret (.bl false)) .nil) .nil) .nil)) .nil)))))) (.cons (.ret (.call "_law_same" (.cons (.lst (.cons (.call "lowest" (.cons (.int 6) (.cons (.neg (.int 4)) .nil))) (.cons (.call "lowest" (.cons (.int 0) (.cons (.neg (.int 7)) .nil))) .nil))) (.cons (.lst (.cons (.tup (.cons (.neg (.int 3)) (.cons (.int 2) .nil))) (.cons (.tup (.cons (.int 0) (.cons (.int 1) .nil))) .nil))) .nil)))) .nil))
def c_turn01 : Sxs := .cons (.par [3, 4] (.cons (.call "_law_any" (.cons (.var 1) .nil)) (.cons (.call "_law_any" (.cons (.var 1) .nil)) .nil))) (.cons (.ife (.or (.not (.call "_law_two_right" (.cons (.var 1) (.cons (.var 3) (.cons (.var 4) .nil))))) (.or (.not (.call "_law_two_right" (.cons (.var 1) (.cons (.var 3) (.cons (.var 3) .nil))))) (.not (.call "_law_two_right" (.cons (.var 1) (.cons (.var 4) (.cons (.tup (.cons (.int 0) (.cons (.int 1) .nil))) .nil))))))) (.cons (.ret (.bl false)) .nil) .nil) (.cons (.par [5, 6] (.cons (.bin .Sub (.call "_law_draw" (.cons (.var 1) (.cons (.int 4000) .nil))) (.int 2000)) (.cons (.bin .Mult (.call "_law_pick" (.cons (.var 1) (.cons (.lst (.cons (.neg (.int 1)) (.cons (.int 1) .nil))) .nil))) (.bin .Add (.int 1) (.call "_law_draw" (.cons (.var 1) (.cons (.int 60) .nil))))) .nil))) (.cons (.ife (.not (.call "_law_same" (.cons (.lst (.cons (.call "lowest" (.cons (.var 5) (.cons (.var 6) .nil))) (.cons (.kall "lowest" [1, 0] (.cons (.var 6) (.cons (.var 5) .nil))) .nil))) (.cons (.bin .Mult (.lst (.cons (.call "_law_frac" (.cons (.var 5) (.cons (.var 6) .nil))) .nil)) (.int 2)) .nil)))) (.cons (.ret (.bl false)) .nil) .nil) (.cons (.forr (.nm 7) (.seq (.tup (.cons (.var 3) (.cons (.bi .list (.cons (.var 4) .nil)) (.cons (.tup (.cons (.var 5) (.cons (.var 6) .nil))) (.cons (.lst (.cons (.var 5) (.cons (.var 6) .nil))) (.cons (.tup (.cons (.var 5) (.cons (.int 1) .nil))) (.cons (.tup (.cons (.bl true) (.cons (.int 1) .nil))) (.cons (.tup (.cons (.int 1) (.cons (.bl true) .nil))) (.cons (.tup (.cons (.int 2) (.cons (.int 4) .nil))) (.cons (.tup (.cons (.int 0) (.cons (.int 2) .nil))) (.cons .non (.cons (.int 5) (.cons (.str "1/2") (.cons (.tup (.cons (.int 1) .nil)) (.cons (.tup (.cons (.int 1) (.cons (.int 2) (.cons (.int 3) .nil)))) (.cons .dct (.cons (.tup (.cons (.str "1") (.cons (.int 2) .nil))) (.cons (.tup (.cons (.tup (.cons (.int 1) (.cons (.int 2) .nil))) (.cons (.int 3) .nil))) .nil))))))))))))))))))) (.cons (.ife (.not (.call "_law_same" (.cons (.lst (.cons (.call "is_fraction" (.cons (.var 7) .nil)) (.cons (.kall "is_fraction" [0] (.cons (.var 7) .nil)) .nil))) (.cons (.bin .Mult (.lst (.cons (.call "_law_is_frac" (.cons (.var 7) .nil)) .nil)) (.int 2)) .nil)))) (.cons (.ret (.bl false)) .nil) .nil) .nil)) .nil))))
def c_any01 : Sxs := .cons (.ife (.not (.call "_law_same" (.cons (.lst (.cons (.call "is_fraction" (.cons (.var 7) .nil)) (.cons (.kall "is_fraction" [0] (.cons (.var 7) .nil)) .nil))) (.cons (.bin .Mult (.lst (.cons (.call "_law_is_frac" (.cons (.var 7) .nil)) .nil)) (.int 2)) .nil)))) (.cons (.ret (.bl false)) .nil) .nil) .nil
def c_last01 : Sxs := .cons (.ret (.call "_law_same" (.cons (.lst (.cons (.call "lowest" (.cons (.int 6) (.cons (.neg (.int 4)) .nil))) (.cons (.call "lowest" (.cons (.int 0) (.cons (.neg (.int 7)) .nil))) .nil))) (.cons (.lst (.cons (.tup (.cons (.neg (.int 3)) (.cons (.int 2) .nil))) (.cons (.tup (.cons (.int 0) (.cons (.int 1) .nil))) .nil))) .nil)))) .nil
theorem ten20 : (10 : Int) ^ (20 : Int).toNat = 100000000000000000000 := by decide
section
variable {T : Str → Option Fc} {P : Addr}
/-- the stream, of the script as it is handed to the law -/
theorem stream_okV (hT : T "_law_stream" = some ⟨1, 1, c__law_stream⟩) {k : Nat} {ns : List Int} {h0 : Hep} {v : Val} {Q : VQ} {E : XQ} (hv : v = .rom (ns.map Val.int) ∨ ∃ a, v = .ref a ∧ h0 a = some (.lst (ns.map Val.int))) (hl : ns.length ≤ 63) (q : ∀ a g, St a h0 999999999 g → Q (.ref a) g) : Calls T (k + 1) "_law_stream" [v] h0 Q E := by
  have key : ∀ p, h0 p = none → newL (hset h0 p (.lst (ns.map Val.int))) [.ref p, .int 0, .int 0, .int 17] (fun v h1 => Dr h1 (Q v)) := fun p np => by
    refine newL_in fun a na => ?_
    have ab : a ≠ p := fun e => by subst e; rw [hset_same] at na; cases na
    have na' : h0 a = none := by rw [hset_ne ab] at na; exact na
    exact Dr.here (q a _ ⟨⟨a, p, ns, 0, 0, 17⟩, rfl, ⟨ab, na', np, Int.le_refl 0, Int.le_refl 0, by show (0 : Int) + ((999999999 : Nat) : Int) ≤ 1000000000; decide, by show (0 : Int) ≤ 17; decide, by show (17 : Int) < 2147483647; decide, hl⟩, rfl⟩)
  refine Calls_eq [some v] hT rfl rfl ?_
  rcases hv with rfl | ⟨b, rfl, hb⟩
  · refine onJ_rom ?_
    refine newL_in fun p np => ?_
    exact key p np
  · refine onJ_ref hb ?_
    refine newL_in fun p np => ?_
    exact key p np
theorem drawB (hD : T "_law_draw" = some ⟨2, 5, c__law_draw⟩) {k n : Nat} {a : Addr} {many : Int} {h g : Hep} {b : Nat} {Q : VQ} {E : XQ} (st : St a h (b + 1) g) (m0 : 0 < many) (hn : 0 < n) (h1 : n ≤ 9000) (m1 : many.natAbs < 2 ^ n)
    (q : ∀ (d : Int) (g' : Hep), St a h b g' → 0 ≤ d → d < many → Q (.int d) g') : Calls T (k + 1) "_law_draw" [.ref a, .int many] g Q E := by
  obtain ⟨S, rfl, ok, rfl⟩ := st
  exact draw_ok hD ok m0 (Nat.lt_of_lt_of_le (PySem.Flt.log2_lt_of hn m1) h1) fun d S' sm ok' d0 d1 => q d _ ⟨S', sm.1, ok', rfl⟩ d0 d1
theorem any01 (hT : Law01Lib T P) {k : Nat} {a : Addr} {h g : Hep} {b : Nat} {Q : VQ} {E : XQ} (st : St a h (b + 5) g) (q : ∀ x h' g', Sub h h' → St a h' b g' → Bd 140 x → Q (KM.fr x) g') : Calls T (k + 4) "_law_any" [.ref a] g Q E := by
  refine Calls_eq [some (.ref a), none, none] hT.an rfl rfl ?_
  refine drawS hT.dw (k := k + 2) (b := b + 4) st (by decide) (by decide) fun d g1 st1 d0 d1 => ?_
  by_cases z : 0 < d
  · refine ifT (decide_eq_true z) ?_
    refine mdrawn0 hT.dw hT.pk hT.fr hT.dn (k := k) (b := b) (most := 5) (by decide) (by decide) (st1.le (by omega)) fun x h2 g2 s2 st2 bx => ?_
    exact Dr.here (q x h2 g2 s2 st2 (bx.mono (by decide)))
  · refine ifF (decide_eq_false z) ?_
    refine ⟨cp_small (by decide) (by decide) (by decide) (by decide), ?_⟩
    rw [ten20]
    refine drawB hT.dw (k := k + 2) (b := b + 3) (n := 67) st1 (by decide) (by decide) (by decide) (by decide) fun u g2 st2 u0 u1 => ?_
    refine ⟨cp_small (by decide) (by decide) (by decide) (by decide), ?_⟩
    rw [ten20]
    refine drawB hT.dw (k := k + 2) (b := b + 2) (n := 67) st2 (by decide) (by decide) (by decide) (by decide) fun w g3 st3 w0 w1 => ?_
    refine St.newL st3 fun p h4 g4 s4 sg4 st4 hp4 np4 => ?_
    refine pickS hT.dw hT.pk (k := k + 1) (b := b + 1) (xs := ([1, -1] : List Int).map Val.int) st4 hp4 (by decide) (by decide) fun i y g5 e5 st5 => ?_
    obtain ⟨s, rfl, hs⟩ := mem_small e5
    have hs1 : s = 1 ∨ s = -1 := by simpa using hs
    have b1 : (s * (1 + u)).natAbs < 2 ^ 67 := by
      rcases hs1 with rfl | rfl <;> omega
    have b2 : (s * (1 + u) * (1 + u)).natAbs < 2 ^ (67 + 67) := mul_bd b1 (by omega)
    refine ⟨mul_ok (n := 67) (by decide) (by decide) (by rcases hs1 with rfl | rfl <;> decide) (by omega), mul_ok (n := 67) (by decide) (by decide) b1 (by omega), ?_⟩
    refine St.newL st5 fun p6 h6 g6 s6 sg6 st6 hp6 np6 => ?_
    refine pickS hT.dw hT.pk (k := k + 1) (b := b) (xs := ([1, 1 + w] : List Int).map Val.int) st6 hp6 (by simp) (by simp) fun i y g7 e7 st7 => ?_
    obtain ⟨r, rfl, hr⟩ := mem_small e7
    have hr1 : r = 1 ∨ r = 1 + w := by simpa using hr
    have r0 : 0 < r := by rcases hr1 with rfl | rfl <;> omega
    have r1 : r.natAbs < 2 ^ 67 := by rcases hr1 with rfl | rfl <;> omega
    refine ⟨mul_ok (n := 67) (by decide) (by decide) (by omega) r1, ?_⟩
    have b3 : ((1 + w) * r).natAbs < 2 ^ (67 + 67) := mul_bd (by omega) r1
    have nz : (1 + w) * r ≠ 0 := Int.mul_ne_zero (by omega) (by omega)
    refine lfrac_ok hT.fr (k := k + 2) (n := 134) nz (by decide) (by decide) b2 b3 ?_
    exact Dr.here (q _ h6 g7 (s4.trans s6) st7 ((Bd.divInt b2 b3).mono (by decide)))
/-- any object -/
theorem body01 (hT : Law01Lib T P) {k : Nat} {v : Val} {d : D} {z0 z1 z2 z3 z4 z5 z6 : Option Val} {g : Hep} {D0 : KD} {E : XE'} (rd : Rd g d v) (q : ∀ g', Sub g g' → D0.nx [z0, z1, z2, z3, z4, z5, z6, some v] g') :
    wSs (Calls T (k + 5)) c_any01 [z0, z1, z2, z3, z4, z5, z6, some v] g D0 E := by
  refine is_fraction_ok hT.ex (k := k + 1) rd ?_
  refine is_fraction_ok hT.ex (k := k + 1) rd ?_
  refine newL_in fun p1 np1 => ?_
  have s1 := (Sub.refl g).new (o := .lst [.bl d.frac.isSome, .bl d.frac.isSome]) np1
  have hp1 : (hset g p1 (.lst [.bl d.frac.isSome, .bl d.frac.isSome])) p1 = _ := hset_same
  generalize hset g p1 (.lst [.bl d.frac.isSome, .bl d.frac.isSome]) = g1 at *
  refine lis_frac_gen hT.isf (k := k + 4) (rd.sub s1) ?_
  refine newL_in fun p2 np2 => ?_
  have s2 := s1.trans ((Sub.refl g1).new (o := .lst [.bl d.frac.isSome]) np2)
  have s12 := (Sub.refl g1).new (o := .lst [.bl d.frac.isSome]) np2
  have hp2 : (hset g1 p2 (.lst [.bl d.frac.isSome])) p2 = _ := hset_same
  generalize hset g1 p2 (.lst [.bl d.frac.isSome]) = g2 at *
  refine onL_in hp2 ⟨by decide, by decide, by show (1 * 2 : Nat) < 1000000; decide, ?_⟩
  refine newL_in fun p3 np3 => ?_
  have s23 := (Sub.refl g2).new (o := .lst [.bl d.frac.isSome, .bl d.frac.isSome]) np3
  have hp3 : (hset g2 p3 (.lst [.bl d.frac.isSome, .bl d.frac.isSome])) p3 = some (.lst [.bl d.frac.isSome, .bl d.frac.isSome]) := hset_same
  have el : (List.replicate (2 : Int).toNat [Val.bl d.frac.isSome]).flatten = [.bl d.frac.isSome, .bl d.frac.isSome] := rfl
  rw [el]
  generalize hset g2 p3 (.lst [.bl d.frac.isSome, .bl d.frac.isSome]) = g3 at *
  refine same2 hT.sa (n := k + 5) (d := .lst [.bl d.frac.isSome, .bl d.frac.isSome]) (by simp [D.dep, D.deps]) (by simp [D.wid, D.wids]) ⟨p1, _, rfl, (s12.trans s23) _ _ hp1, Rds.cons rfl (Rds.cons rfl rfl)⟩ ⟨p3, _, rfl, hp3, Rds.cons rfl (Rds.cons rfl rfl)⟩ ?_
  exact q g3 (s2.trans s23)
theorem loopA01 (hT : Law01Lib T P) {k : Nat} {z0 z1 z2 z3 z4 z5 z6 : Option Val} {D0 : KD} {E : XE'} : ∀ (ds : List D) {vs : List Val} {g : Hep} {z7 : Option Val}, Rds g ds vs → (∀ g' z7, Sub g g' → D0.nx [z0, z1, z2, z3, z4, z5, z6, z7] g') →
    forW (wSs (Calls T (k + 5)) c_any01) (bindT (.nm 7)) [] D0 E vs [z0, z1, z2, z3, z4, z5, z6, z7] g
  | [], vs, g, z7, rs, q => by
    have e : vs = [] := rs
    rw [e]
    exact ⟨trivial, q g z7 (Sub.refl g)⟩
  | d :: ds, vs, g, z7, ⟨v, r, e, r1, r2⟩, q => by
    rw [e]
    refine ⟨trivial, ?_⟩
    refine body01 hT (k := k) r1 fun g1 s1 => ?_
    exact loopA01 hT ds (r2.sub s1) fun g' z7 s' => q g' z7 (s1.trans s')
theorem turn01 (hT : Law01Lib T P) {k : Nat} {a : Addr} {h g : Hep} {b : Nat} {z0 z2 z3 z4 z5 z6 z7 : Option Val} {D0 : KD} {E : XE'} (st : St a h (b + 60) g) (hP : h P = some (.tab "_law_two_right.<locals>.<lambda>"))
    (q : ∀ h' g' z3 z4 z5 z6 z7, Sub h h' → St a h' b g' → D0.nx [z0, some (.ref a), z2, z3, z4, z5, z6, z7] g') : wSs (Calls T (k + 11)) c_turn01 [z0, some (.ref a), z2, z3, z4, z5, z6, z7] g D0 E := by
  refine any01 hT (k := k + 7) (b := b + 55) st fun x h1 g1 s1 st1 bx => ?_
  refine any01 hT (k := k + 7) (b := b + 50) st1 fun y h2 g2 s2 st2 bY => ?_
  have hP2 := s2 _ _ (s1 _ _ hP)
  refine two01 hT (k := k) (b := b + 40) st2 hP2 bx bY fun h3 g3 s3 st3 => ?_
  have hP3 := s3 _ _ (s2 _ _ (s1 _ _ hP))
  refine two01 hT (k := k) (b := b + 30) st3 hP3 bx bx fun h4 g4 s4 st4 => ?_
  have hP4 := s4 _ _ (s3 _ _ (s2 _ _ (s1 _ _ hP)))
  refine two01 hT (k := k) (y := 0) (b := b + 20) st4 hP4 bY ⟨by decide, by decide⟩ fun h5 g5 s5 st5 => ?_
  refine drawS hT.dw (k := k + 10) (b := b + 19) st5 (by decide) (by decide) fun d g6 st6 d0 d1 => ?_
  refine St.newL st6 fun p7 h7 g7 s7 sg7 st7 hp7 np7 => ?_
  refine pickS hT.dw hT.pk (k := k + 9) (b := b + 18) (xs := ([-1, 1] : List Int).map Val.int) st7 hp7 (by decide) (by decide) fun i u g8 e8 st8 => ?_
  obtain ⟨s, rfl, hs⟩ := mem_small e8
  have hs1 : s = -1 ∨ s = 1 := by simpa using hs
  refine drawS hT.dw (k := k + 10) (b := b + 17) st8 (by decide) (by decide) fun e g9 st9 e0 e1 => ?_
  refine ⟨mul_ok (n := 64) (by decide) (by decide) (by rcases hs1 with rfl | rfl <;> decide) (by omega), ?_⟩
  have nz : s * (1 + e) ≠ 0 := Int.mul_ne_zero (by rcases hs1 with rfl | rfl <;> decide) (by omega)
  have bz : (s * (1 + e)).natAbs < 2 ^ 8 := by rcases hs1 with rfl | rfl <;> omega
  have ba : (d - 2000).natAbs < 2 ^ 12 := by omega
  generalize s * (1 + e) = m at *
  generalize d - 2000 = l at *
  refine lowest_ok hT.ex (k := k + 8) (n := 8) nz (by decide) (by decide) bz ?_
  refine lowest_ok hT.ex (k := k + 8) (n := 8) nz (by decide) (by decide) bz ?_
  refine newL_in fun p1 np1 => ?_
  have q1 := (Sub.refl g9).new (o := .lst [KM.fr (Rat.divInt l m), KM.fr (Rat.divInt l m)]) np1
  have hp1 : (hset g9 p1 (.lst [KM.fr (Rat.divInt l m), KM.fr (Rat.divInt l m)])) p1 = _ := hset_same
  generalize hset g9 p1 (.lst [KM.fr (Rat.divInt l m), KM.fr (Rat.divInt l m)]) = f1 at *
  refine lfrac_ok hT.fr (k := k + 10) (n := 12) nz (by decide) (by decide) ba (Nat.lt_of_lt_of_le bz (by decide)) ?_
  refine newL_in fun p2 np2 => ?_
  have q2 := (Sub.refl f1).new (o := .lst [KM.fr (Rat.divInt l m)]) np2
  have hp2 : (hset f1 p2 (.lst [KM.fr (Rat.divInt l m)])) p2 = _ := hset_same
  generalize hset f1 p2 (.lst [KM.fr (Rat.divInt l m)]) = f2 at *
  refine onL_in hp2 ⟨by decide, by decide, by show (1 * 2 : Nat) < 1000000; decide, ?_⟩
  refine newL_in fun p3 np3 => ?_
  have q3 := (Sub.refl f2).new (o := .lst [KM.fr (Rat.divInt l m), KM.fr (Rat.divInt l m)]) np3
  have hp3 : (hset f2 p3 (.lst [KM.fr (Rat.divInt l m), KM.fr (Rat.divInt l m)])) p3 = some (.lst [KM.fr (Rat.divInt l m), KM.fr (Rat.divInt l m)]) := hset_same
  have el : (List.replicate (2 : Int).toNat [KM.fr (Rat.divInt l m)]).flatten = [KM.fr (Rat.divInt l m), KM.fr (Rat.divInt l m)] := rfl
  rw [el]
  generalize hset f2 p3 (.lst [KM.fr (Rat.divInt l m), KM.fr (Rat.divInt l m)]) = f3 at *
  have q13 := q1.trans (q2.trans q3)
  refine same2 hT.sa (n := k + 11) (d := .lst [dr (Rat.divInt l m), dr (Rat.divInt l m)]) (by show D.dep (.lst [.tup [.int _, .int _], .tup [.int _, .int _]]) < _; simp [D.dep, D.deps]) (by show D.wid (.lst [.tup [.int _, .int _], .tup [.int _, .int _]]) < _; simp [D.wid, D.wids])
    ⟨p1, _, rfl, (q2.trans q3) _ _ hp1, Rds.cons (rd_fr _ _) (Rds.cons (rd_fr _ _) rfl)⟩ ⟨p3, _, rfl, hp3, Rds.cons (rd_fr _ _) (Rds.cons (rd_fr _ _) rfl)⟩ ?_
  obtain ⟨h10, st10, s10⟩ := st9.more q13
  have s510 := s5.trans (s7.trans s10)
  refine onJ_tup ?_
  refine St.newL st10 fun p4 h11 g11 s11 sg11 st11 hp4 np4 => ?_
  refine St.newL st11 fun p5 h12 g12 s12 sg12 st12 hp5 np5 => ?_
  refine src_tupI ?_
  have i1 : ∀ {h : Hep} (a b : Int), Rd h (.tup [.int a, .int b]) (.tup [.int a, .int b]) := fun a b => ⟨_, rfl, Rds.cons rfl (Rds.cons rfl rfl)⟩
  refine loopA01 hT (k := k + 6) [dr x, .lst [.int y.num, .int y.den], .tup [.int l, .int m], .lst [.int l, .int m], .tup [.int l, .int 1], .tup [.bl true, .int 1], .tup [.int 1, .bl true], .tup [.int 2, .int 4], .tup [.int 0, .int 2], .non, .int 5, .str "1/2", .tup [.int 1], .tup [.int 1, .int 2, .int 3], .dct, .tup [.str "1", .int 2], .tup [.tup [.int 1, .int 2], .int 3]] ?_ fun g13 z7 s13 => ?_
  · refine Rds.cons (rd_fr _ _) (Rds.cons ⟨p4, _, rfl, sg12 _ _ (st11.sub _ _ hp4), Rds.cons rfl (Rds.cons rfl rfl)⟩ (Rds.cons (i1 _ _) (Rds.cons ⟨p5, _, rfl, st12.sub _ _ hp5, Rds.cons rfl (Rds.cons rfl rfl)⟩ (Rds.cons (i1 _ _) (Rds.cons ⟨_, rfl, Rds.cons rfl (Rds.cons rfl rfl)⟩ (Rds.cons ⟨_, rfl, Rds.cons rfl (Rds.cons rfl rfl)⟩ (Rds.cons (i1 _ _) (Rds.cons (i1 _ _) (Rds.cons rfl (Rds.cons rfl (Rds.cons rfl (Rds.cons ⟨_, rfl, Rds.cons rfl rfl⟩ (Rds.cons ⟨_, rfl, Rds.cons rfl (Rds.cons rfl (Rds.cons rfl rfl))⟩ (Rds.cons rfl (Rds.cons ⟨_, rfl, Rds.cons rfl (Rds.cons rfl rfl)⟩ (Rds.cons ⟨_, rfl, Rds.cons (i1 _ _) (Rds.cons rfl rfl)⟩ rfl))))))))))))))))
  · obtain ⟨h14, st14, s14⟩ := st12.more s13
    exact q h14 g13 _ _ _ _ _ (s1.trans (s2.trans (s3.trans (s4.trans (s510.trans (s11.trans (s12.trans s14))))))) (st14.le (by omega))
theorem loop01 (hT : Law01Lib T P) {k : Nat} {a : Addr} {b : Nat} {z0 : Option Val} {D0 : KD} {E : XE'} : ∀ (ws : List Val) {h g : Hep} {z2 z3 z4 z5 z6 z7 : Option Val}, St a h (b + 60 * ws.length) g → h P = some (.tab "_law_two_right.<locals>.<lambda>") →
    (∀ g' z2 z3 z4 z5 z6 z7, D0.nx [z0, some (.ref a), z2, z3, z4, z5, z6, z7] g') →
    forW (wSs (Calls T (k + 11)) c_turn01) (bindT (.nm 2)) [] D0 E ws [z0, some (.ref a), z2, z3, z4, z5, z6, z7] g
  | [], h, g, z2, z3, z4, z5, z6, z7, st, hP, q => ⟨trivial, q g z2 z3 z4 z5 z6 z7⟩
  | x :: ws, h, g, z2, z3, z4, z5, z6, z7, st, hP, q => by
    refine ⟨trivial, ?_⟩
    refine turn01 hT (b := b + 60 * ws.length) (st.le (by rw [List.length_cons]; omega)) hP fun h1 g1 z3 z4 z5 z6 z7 s1 st1 => ?_
    exact loop01 hT ws st1 (s1 _ _ hP) q
theorem last01 (hT : Law01Lib T P) {k : Nat} {z0 z1 z2 z3 z4 z5 z6 z7 : Option Val} {g : Hep} {D0 : KD} {E : XE'} (q : ∀ g', Sub g g' → D0.rt (.bl true) g') : wSs (Calls T (k + 11)) c_last01 [z0, z1, z2, z3, z4, z5, z6, z7] g D0 E := by
  have e1 : KM.fr (Rat.divInt 6 (-4)) = .tup [.int (-3), .int 2] := by
    unfold KM.fr
    rw [show (Rat.divInt 6 (-4)).num = -3 by decide +kernel, show (Rat.divInt 6 (-4)).den = 2 by decide +kernel]
    rfl
  have e2 : KM.fr (Rat.divInt 0 (-7)) = .tup [.int 0, .int 1] := by
    unfold KM.fr
    rw [show (Rat.divInt 0 (-7)).num = 0 by decide +kernel, show (Rat.divInt 0 (-7)).den = 1 by decide +kernel]
    rfl
  refine lowest_ok hT.ex (k := k + 8) (a := 6) (b := -4) (n := 8) (by decide) (by decide) (by decide) (by decide) ?_
  refine lowest_ok hT.ex (k := k + 8) (a := 0) (b := -7) (n := 8) (by decide) (by decide) (by decide) (by decide) ?_
  rw [e1, e2]
  refine newL_in fun p1 np1 => ?_
  have s1 := (Sub.refl g).new (o := .lst [.tup [.int (-3), .int 2], .tup [.int 0, .int 1]]) np1
  have hp1 : (hset g p1 (.lst [.tup [.int (-3), .int 2], .tup [.int 0, .int 1]])) p1 = _ := hset_same
  generalize hset g p1 (.lst [.tup [.int (-3), .int 2], .tup [.int 0, .int 1]]) = g1 at *
  refine newL_in fun p2 np2 => ?_
  have s2 := (Sub.refl g1).new (o := .lst [.tup [.int (-3), .int 2], .tup [.int 0, .int 1]]) np2
  have hp2 : (hset g1 p2 (.lst [.tup [.int (-3), .int 2], .tup [.int 0, .int 1]])) p2 = _ := hset_same
  have i1 : ∀ {h : Hep} (a b : Int), Rd h (.tup [.int a, .int b]) (.tup [.int a, .int b]) := fun a b => ⟨_, rfl, Rds.cons rfl (Rds.cons rfl rfl)⟩
  refine same2 hT.sa (n := k + 11) (d := .lst [.tup [.int (-3), .int 2], .tup [.int 0, .int 1]]) (by simp [D.dep, D.deps]) (by simp [D.wid, D.wids]) ⟨p1, _, rfl, s2 _ _ hp1, Rds.cons (i1 _ _) (Rds.cons (i1 _ _) rfl)⟩ ⟨p2, _, rfl, hp2, Rds.cons (i1 _ _) (Rds.cons (i1 _ _) rfl)⟩ ?_
  exact q _ (s1.trans s2)
theorem law01_ok (hT : Law01Lib T P) (hS : T "_law_stream" = some ⟨1, 1, c__law_stream⟩) (hL : T "law" = some ⟨1, 8, c_law01⟩) {h0 : Hep} {v : Val} (ns : List Int) (hP : h0 P = some (.tab "_law_two_right.<locals>.<lambda>")) (hv : v = .rom (ns.map Val.int) ∨ ∃ a, v = .ref a ∧ h0 a = some (.lst (ns.map Val.int))) (h : ns.length ≤ 63) :
    Calls T 200 "law" [v] h0 (fun v _ => v = .bl true) (fun _ _ => False) := by
  refine Calls_eq (k := 199) [some v, none, none, none, none, none, none, none] hL rfl rfl ?_
  refine stream_okV hS (k := 198) hv h fun a g st => ?_
  refine ⟨⟨by decide, by decide⟩, ?_⟩
  refine loop01 hT (k := 188) (b := 0) (rngV 0 14) (st.le (by decide)) hP fun g1 z2 z3 z4 z5 z6 z7 => ?_
  have z := last01 hT (k := 188) (D0 := { nx := fun _ h1 => Dr h1 fun _ => False, rt := fun v h1 => Dr h1 fun _ => v = .bl true, bk := fun _ _ => False, ct := fun _ _ => False }) (E := fun x _ h1 => Dr h1 fun _ => False) (z0 := some v) (z1 := some (.ref a)) (z2 := z2) (z3 := z3) (z4 := z4) (z5 := z5) (z6 := z6) (z7 := z7) (g := g1) fun g' _ => Dr.here rfl
  exact z
end
end KM
/-! KSA: the greatest leak of a look, by numbers. -/
namespace KM
open PySem PySem.Spec PyProof.Rows L2
def glR (look : List (List Rat)) (s : Nat) : Rat := sumR ((colsR s look).map maxR)
theorem gl_S (look : List (List Rat)) (s : Nat) : glR look s = S s (fun j => maxR (colR look j)) := by
  unfold glR colsR
  rw [List.map_map]
  exact sumR_range s
theorem S_sub {f g : Nat → Rat} {n : Nat} : S n (fun i => f i - g i) = S n f - S n g := by
  have e : S n f = S n (fun i => g i + (f i - g i)) := S_congr fun i _ => by grind
  rw [S_add] at e
  grind
theorem S_ones : ∀ n : Nat, S n (fun _ => 1) = (n : Rat)
  | 0 => rfl
  | n + 1 => by
    rw [S, S_ones n]
    simp
theorem S_two {f : Nat → Rat} {t a b : Nat} (nn : ∀ i, i < t → 0 ≤ f i) (ha : a < t) (hb : b < t) (ne : a ≠ b) : f a + f b ≤ S t f := by
  have e : S t (fun i => (if i = a then 1 else 0) * f i + (if i = b then 1 else 0) * f i) = f a + f b := by rw [S_add, S_one ha, S_one hb]
  rw [← e]
  refine S_le fun i hi => ?_
  have := nn i hi
  by_cases h1 : i = a
  · rw [if_pos h1, if_neg (by omega)]
    grind
  · rw [if_neg h1]
    by_cases h2 : i = b
    · rw [if_pos h2]; grind
    · rw [if_neg h2]; grind
theorem S_single {f : Nat → Rat} {t a : Nat} (ha : a < t) (h : ∀ i, i < t → i ≠ a → f i = 0) : S t f = f a := by
  rw [← S_one (f := f) ha]
  refine S_congr fun i hi => ?_
  by_cases e : i = a
  · rw [if_pos e, Rat.one_mul]
  · rw [if_neg e, Rat.zero_mul, h i hi e]
section
variable {look : List (List Rat)} {n t s : Nat}
theorem lk_mem (tb : Tab n t s look) {i : Nat} (hi : i < t) (j : Nat) : lkF look i j ∈ colR look j := by
  have li : i < look.length := by rw [tb.len]; exact hi
  unfold lkF colR
  rw [List.getD_eq_getElem?_getD (l := look), List.getElem?_eq_getElem li]
  exact List.mem_map.mpr ⟨_, List.getElem_mem li, rfl⟩
theorem g_ge (tb : Tab n t s look) {i : Nat} (hi : i < t) (j : Nat) : lkF look i j ≤ maxR (colR look j) := maxR_ge (lk_mem tb hi j)
theorem col_ne (tb : Tab n t s look) (t0 : 0 < t) (j : Nat) : colR look j ≠ [] := fun e => by
  have := congrArg List.length e
  unfold colR at this
  rw [List.length_map, tb.len, List.length_nil] at this
  omega
theorem g_at (tb : Tab n t s look) (t0 : 0 < t) (j : Nat) : ∃ i, i < t ∧ maxR (colR look j) = lkF look i j := by
  have m := maxR_mem (col_ne tb t0 j)
  unfold colR at m
  obtain ⟨r, hr, e⟩ := List.mem_map.mp m
  obtain ⟨i, hi, ei⟩ := List.getElem_of_mem hr
  refine ⟨i, by rw [← tb.len]; exact hi, ?_⟩
  unfold lkF colR
  rw [List.getD_eq_getElem?_getD (l := look), List.getElem?_eq_getElem hi, ← e]
  show r.getD j 0 = look[i].getD j 0
  rw [ei]
/-- the worth is no greater than the greatest leak allows -/
theorem worth_gl {c : List Rat} {wish : List (List Rat)} {m d : Nat} (hc : Chan c t) (lw : Tab m d t wish) (ll : Looks look t s) (d0 : 0 < d) (t0 : 0 < t) (nn : ∀ r ∈ wish, ∀ x ∈ r, 0 ≤ x) : worthR c wish look s ≤ glR look s * maxR (deedR wish c) := by
  rw [worth_W hc.len lw ll.tab, deed_M lw hc.len, gl_S, ← S_mulr]
  refine S_le fun j hj => ?_
  obtain ⟨w, hw, e⟩ := M_at (t := t) (u := fun i => chF c i * lkF look i j) (wish_ne lw d0)
  have w0 : ∀ i, i < t → 0 ≤ w.getD i 0 := fun i hi => by
    have li : i < w.length := by rw [lw.lens w hw]; exact hi
    rw [List.getD_eq_getElem?_getD, List.getElem?_eq_getElem li]
    exact nn w hw _ (List.getElem_mem li)
  obtain ⟨i0, h0, e0⟩ := g_at ll.tab t0 j
  have g0 : 0 ≤ maxR (colR look j) := by rw [e0]; exact row_nn ll h0 hj
  have a : dd t (fun i => chF c i * lkF look i j) w ≤ maxR (colR look j) * dd t (chF c) w := by
    unfold dd
    rw [← S_mul]
    refine S_le fun i hi => ?_
    have h1 : 0 ≤ chF c i * w.getD i 0 := Rat.mul_nonneg (chan_nn hc hi) (w0 i hi)
    have h2 := Rat.mul_le_mul_of_nonneg_left (g_ge ll.tab hi j) h1
    have e1 : chF c i * lkF look i j * w.getD i 0 = chF c i * w.getD i 0 * lkF look i j := by grind
    have e2 : maxR (colR look j) * (chF c i * w.getD i 0) = chF c i * w.getD i 0 * maxR (colR look j) := by grind
    rw [e1, e2]
    exact h2
  rw [e]
  exact Rat.le_trans a (Rat.mul_le_mul_of_nonneg_left (M_ge hw) g0)
/-! ### even chances, the wish that is them -/
theorem M_full (u : Nat → Rat) : M (fullR t) t u = maxR ((List.range t).map u) := by
  unfold M fullR
  rw [List.map_map]
  congr 1
  refine List.map_congr_left fun a ha => ?_
  have ha := List.mem_range.mp ha
  show dd t u _ = u a
  unfold dd
  rw [← S_one (f := u) ha]
  refine S_congr fun i hi => ?_
  have e : ((List.range t).map fun s => if s = a then (1 : Rat) else 0).getD i 0 = if i = a then 1 else 0 := by
    rw [List.getD_eq_getElem?_getD, List.getElem?_map, List.getElem?_range hi]
    rfl
  rw [e, Rat.mul_comm]
theorem max_const {a : Rat} {n : Nat} (h : 0 < n) : maxR ((List.range n).map fun _ => a) = a := by
  have m := maxR_mem (xs := (List.range n).map fun _ => a) (fun e => by
    have := congrArg List.length e
    rw [List.length_map, List.length_range, List.length_nil] at this
    omega)
  obtain ⟨_, _, e⟩ := List.mem_map.mp m
  exact e.symm
theorem full_ne (t0 : 0 < t) : fullR t ≠ [] := fun e => by
  have := congrArg List.length e
  unfold fullR at this
  rw [List.length_map, List.length_range, List.length_nil] at this
  omega
theorem even_ahead {a : Rat} {c : List Rat} (lc : c.length = t) (t0 : 0 < t) (h : ∀ i, i < t → chF c i = a) : maxR (deedR (fullR t) c) = a := by
  rw [deed_M (full_tab t) lc, M_full]
  rw [List.map_congr_left (g := fun _ => a) fun i hi => h i (List.mem_range.mp hi)]
  exact max_const t0
theorem even_worth {a : Rat} {c : List Rat} (lc : c.length = t) (a0 : 0 ≤ a) (ll : Tab n t s look) (t0 : 0 < t) (h : ∀ i, i < t → chF c i = a) : worthR c (fullR t) look s = a * glR look s := by
  rw [worth_W lc (full_tab t) ll, gl_S, ← S_mul]
  unfold W
  refine S_congr fun j hj => ?_
  rw [M_scale (full_ne t0) a0 (v := fun i => lkF look i j) fun i hi => by rw [h i hi], M_full]
  congr 2
  unfold colR
  conv => rhs; rw [list_range ([] : List Rat) look, List.map_map, ll.len]
  rfl
/-! ### one, just if all rows are alike -/
theorem gl_one (ll : Looks look t s) (t0 : 0 < t) : glR look s = 1 ↔ ∀ r ∈ look, r = look.getD 0 [] := by
  have hrow : ∀ i, i < t → ∀ (hi : i < look.length), ∀ j, lkF look i j = (look[i]).getD j 0 := fun i _ hi j => by
    unfold lkF
    rw [List.getD_eq_getElem?_getD (l := look), List.getElem?_eq_getElem hi]
    rfl
  constructor
  · intro e
    rw [gl_S] at e
    have key : ∀ i, i < t → ∀ j, j < s → maxR (colR look j) = lkF look i j := fun i hi => by
      have z : S s (fun j => maxR (colR look j) - lkF look i j) = 0 := by rw [S_sub, e, row_sum ll hi]; grind
      intro j hj
      have := S_all0 (fun j hj => by have := g_ge ll.tab hi j; grind) z j hj
      grind
    intro r hr
    obtain ⟨i, hi, ei⟩ := List.getElem_of_mem hr
    have hi' : i < t := by rw [← ll.len]; exact hi
    have h0 : 0 < look.length := by rw [ll.len]; exact t0
    have e0 : look.getD 0 [] = look[0] := by rw [List.getD_eq_getElem?_getD, List.getElem?_eq_getElem h0]; rfl
    rw [e0, ← ei]
    have l1 := (ll.ch _ (List.getElem_mem hi)).len
    have l2 := (ll.ch _ (List.getElem_mem h0)).len
    refine List.ext_getElem (by rw [l1, l2]) fun j a b => ?_
    have hj : j < s := by rw [← l1]; exact a
    have x := (key i hi' j hj).symm.trans (key 0 t0 j hj)
    rw [hrow i hi' hi, hrow 0 t0 h0, List.getD_eq_getElem?_getD, List.getD_eq_getElem?_getD, List.getElem?_eq_getElem a, List.getElem?_eq_getElem b] at x
    exact x
  · intro h
    rw [gl_S, ← row_sum ll t0]
    refine S_congr fun j hj => ?_
    obtain ⟨i, hi, e⟩ := g_at ll.tab t0 j
    rw [e]
    have hi' : i < look.length := by rw [ll.len]; exact hi
    unfold lkF
    rw [List.getD_eq_getElem?_getD (l := look) (i := i), List.getElem?_eq_getElem hi']
    show (look[i]).getD j 0 = _
    rw [h _ (List.getElem_mem hi')]
/-! ### as many as things, just if no sign is shown by two -/
def shows (look : List (List Rat)) (t j : Nat) : List Nat := (List.range t).filter fun i => decide (lkF look i j ≠ 0)
theorem gl_all (ll : Looks look t s) (t0 : 0 < t) : glR look s = (t : Rat) ↔ ∀ j, j < s → (shows look t j).length < 2 := by
  have tot : S s (fun j => S t (fun i => lkF look i j)) = (t : Rat) := by
    rw [S_swap, ← S_ones t]
    exact S_congr fun i hi => row_sum ll hi
  have nn : ∀ j, j < s → ∀ i, i < t → 0 ≤ lkF look i j := fun j hj i hi => row_nn ll hi hj
  have le : ∀ j, j < s → maxR (colR look j) ≤ S t (fun i => lkF look i j) := fun j hj => by
    obtain ⟨i, hi, e⟩ := g_at ll.tab t0 j
    rw [e, ← S_one (f := fun i => lkF look i j) hi]
    refine S_le fun k hk => ?_
    have := nn j hj k hk
    by_cases z : k = i
    · rw [if_pos z]; grind
    · rw [if_neg z]; grind
  have col : ∀ j, j < s → (maxR (colR look j) = S t (fun i => lkF look i j) ↔ (shows look t j).length < 2) := fun j hj => by
    obtain ⟨m, hm, em⟩ := g_at ll.tab t0 j
    have mem : ∀ i, i ∈ shows look t j ↔ i < t ∧ lkF look i j ≠ 0 := fun i => by
      unfold shows
      rw [List.mem_filter, List.mem_range, decide_eq_true_iff]
    have nd : (shows look t j).Nodup := List.Pairwise.filter _ List.nodup_range
    constructor
    · intro e
      match hs : shows look t j, nd with
      | [], _ => simp
      | [a], _ => simp
      | a :: b :: r, nd =>
        exfalso
        have ha := (mem a).mp (by rw [hs]; exact List.mem_cons_self)
        have hb := (mem b).mp (by rw [hs]; exact List.mem_cons_of_mem _ List.mem_cons_self)
        have ab : a ≠ b := fun z => by
          rw [List.nodup_cons] at nd
          exact nd.1 (by rw [z]; exact List.mem_cons_self)
        have pa := nn j hj a ha.1
        have pb := nn j hj b hb.1
        by_cases z : m = a
        · have := S_two (f := fun i => lkF look i j) (nn j hj) hm hb.1 (by rw [z]; exact ab)
          have n2 := hb.2
          grind
        · have := S_two (f := fun i => lkF look i j) (nn j hj) hm ha.1 z
          have n2 := ha.2
          grind
    · intro l
      match hs : shows look t j, l with
      | [], _ =>
        have z : ∀ i, i < t → lkF look i j = 0 := fun i hi => by
          by_cases e : lkF look i j = 0
          · exact e
          · have := (mem i).mpr ⟨hi, e⟩
            rw [hs] at this
            cases this
        rw [em, z m hm, S_congr z, S_zero]
      | [a], _ =>
        have ha := (mem a).mp (by rw [hs]; exact List.mem_cons_self)
        have z : ∀ i, i < t → i ≠ a → lkF look i j = 0 := fun i hi ne => by
          by_cases e : lkF look i j = 0
          · exact e
          · have := (mem i).mpr ⟨hi, e⟩
            rw [hs] at this
            exact absurd (List.mem_singleton.mp this) ne
        rw [S_single (f := fun i => lkF look i j) ha.1 z]
        have g1 := g_ge ll.tab ha.1 j
        by_cases y : m = a
        · rw [em, y]
        · have := z m hm y
          have := nn j hj a ha.1
          grind
  rw [gl_S]
  constructor
  · intro e j hj
    refine (col j hj).mp ?_
    have z : S s (fun j => S t (fun i => lkF look i j) - maxR (colR look j)) = 0 := by rw [S_sub, tot, e]; grind
    have := S_all0 (fun j hj => by have := le j hj; grind) z j hj
    grind
  · intro h
    rw [← tot]
    exact S_congr fun j hj => (col j hj).mpr (h j hj)
end
end KM
/-! KSB: leaks, as the program tells them and as the law reckons. -/
namespace KM
open PySem PySem.Spec PyProof.Rows L2
def c_leak : Sxs := .cons (.asg (.nm 3) (.call "need_chances" (.cons (.var 0) .nil))) (.cons (.asg (.nm 4) (.call "need_wishes" (.cons (.bi .len (.cons (.var 3) .nil)) (.cons (.var 1) .nil)))) (.cons (.ife (.bi .any (.cons (.lc (.bi .any (.cons (.lc (.call "is_under" (.cons (.var 8) (.cons (.con (.tup [.int 0, .int 1])) .nil))) (.nm 8) (.seq (.var 7)) .nil [8]) .nil)) (.nm 7) (.seq (.var 4)) .nil [7]) .nil)) (.cons .bad .nil) .nil) (.cons (.asg (.nm 5) (.call "need_look_for" (.cons (.bi .len (.cons (.var 3) .nil)) (.cons (.var 2) .nil)))) (.cons (.asg (.nm 6) (.call "greatest" (.cons (.call "deeds_at" (.cons (.var 3) (.cons (.var 4) .nil))) .nil))) (.cons (.ife (.cmp .Eq (.var 6) (.con (.tup [.int 0, .int 1]))) (.cons (.rai0 "NoWorth") .nil) .nil) (.cons (.ret (.call "over" (.cons (.call "worth_of" (.cons (.var 3) (.cons (.var 4) (.cons (.var 5) .nil)))) (.cons (.var 6) .nil)))) .nil))))))
def c_greatest_leak : Sxs := .cons (.ret (.call "total" (.cons (.lc (.call "greatest" (.cons (.var 1) .nil)) (.nm 1) (.seq (.call "columns_of" (.cons (.call "need_look" (.cons (.var 0) .nil)) .nil))) .nil [1]) .nil))) .nil
def c__law_most : Sxs := .cons (.ret (.call "_law_total" (.cons (.lc (.call "_law_greatest" (.cons (.var 1) .nil)) (.nm 1) (.seq (.call "_law_w_columns" (.cons (.var 0) .nil))) .nil [1]) .nil))) .nil
def c__law_w_columns : Sxs := .cons (.ret (.lc (.lc (.ix (.var 2) (.var 1)) (.nm 2) (.seq (.var 0)) .nil [2]) (.nm 1) (.rng1 (.bi .len (.cons (.ix (.var 0) (.int 0)) .nil))) .nil [1])) .nil
def c__law_w_good_wishes : Sxs := .cons (.ret (.lc (.lc (.ife (.cmp .GtE (.ix (.var 4) (.int 0)) (.int 0)) (.var 4) (.tup (.cons (.neg (.ix (.var 4) (.int 0))) (.cons (.ix (.var 4) (.int 1)) .nil)))) (.nm 4) (.seq (.var 3)) .nil [4]) (.nm 3) (.seq (.call "_law_wishes" (.cons (.var 0) (.cons (.var 1) (.cons (.var 2) .nil))))) .nil [3])) .nil
structure LeakLib (T : Str → Option Fc) : Prop extends NeedsLib T where
  wl : WorthLib T
  ov : T "over" = some ⟨2, 2, c_over⟩
  nlo : ∃ b, T "need_look" = some ⟨1, 2, c_need_look b⟩
  lk : T "leak" = some ⟨3, 9, c_leak⟩
  gl : T "greatest_leak" = some ⟨1, 2, c_greatest_leak⟩
/-- a comprehension over a list that is read, part by part, over the stream -/
theorem lc_rowsS {α : Type} {C : CalT} {elt : WE} {bind : Val → Env → Option Env} {pins : List (Addr × List Val)} {env : Env} {h : Hep} {Q : VQ} {F G : α → D} {a : Addr} {b : Nat} (pn : ∀ h', Sub h h' → pinOk h' pins) :
    ∀ (rs : List α) {vs : List Val} (done : List α) {acc : List Val} {h' g' : Hep}, Rds h (rs.map F) vs → (∀ h' g', Sub h h' → St a h' b g' → ∀ r ∈ rs, ∀ v, Rd h (F r) v → ∀ K : VQ, (∀ y h2 g2, Sub h' h2 → St a h2 b g2 → Rd h2 (G r) y → K y g2) → onO (bind v env) fun env' => elt env' g' K (fun _ _ => False)) →
    Sub h h' → St a h' b g' → Rds h' (done.map G) acc → (∀ ys h2 g2, Sub h h2 → St a h2 b g2 → Rds h2 ((done ++ rs).map G) ys → newL g2 ys Q) → lcW (wCs C .nil) elt bind pins env Q vs acc g'
  | [], vs, done, acc, h', g', e, st, s, sg, al, q => by
    have e : vs = [] := e
    subst e
    exact ⟨pinOk_sub sg.sub (pn h' s), q acc h' g' s sg (by rw [List.append_nil]; exact al)⟩
  | r :: rs, vs, done, acc, h', g', ⟨v, vs', e, rv, rvs⟩, st, s, sg, al, q => by
    subst e
    refine ⟨pinOk_sub sg.sub (pn h' s), ?_⟩
    refine st h' g' s sg r List.mem_cons_self v rv (fun y' h2 => lcW (wCs C .nil) elt bind pins env Q vs' (acc ++ [y']) h2) fun y h2 g2 s2 sg2 ry => ?_
    refine lc_rowsS pn rs (done ++ [r]) rvs (fun h' g' s' t' x' hx => st h' g' s' t' x' (List.mem_cons_of_mem _ hx)) (s.trans s2) sg2 ?_ (fun ys h3 g3 s3 t3 al => q ys h3 g3 s3 t3 (by rw [List.append_assoc] at al; exact al))
    rw [List.map_append]
    exact Rds.app (al.sub s2) (Rds.cons ry rfl)
def absR (x : Rat) : Rat := if 0 ≤ x.num then x else -x
theorem absR_nn (x : Rat) : 0 ≤ absR x := by
  unfold absR
  split
  · rename_i h; exact num_nn.mp h
  · rename_i h
    have : ¬ 0 ≤ x := fun z => h (num_nn.mpr z)
    grind
theorem absR_bd {n : Nat} {x : Rat} (h : Bd n x) : Bd n (absR x) := by
  unfold absR
  split
  · exact h
  · exact h.neg
section
variable {T : Str → Option Fc}
theorem lgood_ok (hT : CaseLib T) (hg : T "_law_w_good_wishes" = some ⟨3, 5, c__law_w_good_wishes⟩) {k : Nat} {a : Addr} {h g : Hep} {b : Nat} {things deeds : Nat} {n m : Int} {Q : VQ} {E : XQ} (en : n = things) (em : m = deeds) (t1 : things ≤ 8) (s1 : deeds ≤ 8) (st : St a h (b + 128) g)
    (q : ∀ rows v h' g', Sub h h' → St a h' b g' → Wishs rows things deeds → (∀ r ∈ rows, ∀ x ∈ r, 0 ≤ x) → Rd h' (tabL rows) v → Q v g') : Calls T (k + 5) "_law_w_good_wishes" [.ref a, .int n, .int m] g Q E := by
  refine Calls_eq [some (.ref a), some (.int n), some (.int m), none, none] hg rfl rfl ?_
  refine lwishes_ok hT (k := k) (b := b) en em t1 s1 st fun rows v h1 g1 s1' st1 lw rd => ?_
  obtain ⟨p, vs, rfl, hp, rds⟩ := tabL_out rd
  have lv : vs.length = deeds := by have := rds.length; rw [List.length_map] at this; have := lw.len; omega
  refine src_refI (st1.sub _ _ hp) ?_
  refine ⟨show vs.length < 1000000 by omega, ?_⟩
  refine lc_rowsS (pins := [(p, vs)]) (h := h1) (b := b) (a := a) (F := rowL) (G := fun r => rowL (r.map absR)) (fun h' s => ⟨s _ _ hp, trivial⟩) rows [] rds (fun h' g' s sg r hr v rv K kk => ?_) (Sub.refl h1) st1 rfl (fun ys h2 g2 s2 sg2 rd2 => ?_)
  · obtain ⟨pr, rfl, hpr⟩ := rowL_out rv
    have hg' := sg.sub _ _ (s _ _ hpr)
    refine src_refI hg' ?_
    refine ⟨show (r.map fr).length < 1000000 by rw [List.length_map, lw.lens r hr]; omega, ?_⟩
    refine lc_map (g := fun x => fr (absR x)) ⟨hg', trivial⟩ (fun x hx K kk => ?_) ?_
    · by_cases z : 0 ≤ x.num
      · refine ifT (decide_eq_true z) ?_
        have e : absR x = x := by unfold absR; rw [if_pos z]
        rw [e] at kk
        exact kk
      · refine ifF (decide_eq_false z) ?_
        have e : absR x = -x := by unfold absR; rw [if_neg z]
        rw [e, fr_neg] at kk
        exact kk
    · refine St.newL sg fun p2 h3 g3 s3 sg3 st3 hp2 np2 => ?_
      refine kk _ h3 g3 s3 st3 (rowL_in ?_)
      rw [hp2, List.map_map]
      rfl
  · refine St.newL sg2 fun p3 h3 g3 s3 sg3 st3 hp3 np3 => ?_
    refine Dr.here (q (rows.map (·.map absR)) _ h3 g3 (s1'.trans (s2.trans s3)) st3 ⟨by rw [List.length_map]; exact lw.len, fun r hr => ?_, fun r hr x hx => ?_⟩ (fun r hr x hx => ?_) ⟨p3, ys, rfl, hp3, ?_⟩)
    · obtain ⟨r0, h0, rfl⟩ := List.mem_map.mp hr
      rw [List.length_map]
      exact lw.lens r0 h0
    · obtain ⟨r0, h0, rfl⟩ := List.mem_map.mp hr
      obtain ⟨x0, hx0, rfl⟩ := List.mem_map.mp hx
      exact absR_bd (lw.bd r0 h0 x0 hx0)
    · obtain ⟨r0, h0, rfl⟩ := List.mem_map.mp hr
      obtain ⟨x0, hx0, rfl⟩ := List.mem_map.mp hx
      exact absR_nn x0
    · rw [List.map_map]
      exact rd2.sub s3
/-- the law's sum of the columns' greatest -/
theorem lmost_ok (hT : LSumLib T) (hu : T "_law_under" = some ⟨2, 2, c__law_under⟩) (hgr : T "_law_greatest" = some ⟨1, 3, c__law_greatest⟩) (hc : T "_law_w_columns" = some ⟨1, 3, c__law_w_columns⟩) (hm : T "_law_most" = some ⟨1, 2, c__law_most⟩) {k n t s : Nat} {v : Val} {look : List (List Rat)} {h : Hep} {Q : VQ} {E : XQ}
    (rd : Rd h (tabL look) v) (tb : Tab n t s look) (t0 : 0 < t) (ht : t < 1000000) (n0 : 0 < n) (hn : n ≤ 1000) (hs : 1 + (n + 2) * s ≤ 3900) (q : ∀ h', Sub h h' → Q (fr (glR look s)) h') : Calls T (k + 4) "_law_most" [v] h Q E := by
  have sl : s ≤ 3900 := Nat.le_trans (Nat.le_mul_of_pos_left s (show 0 < n + 2 by omega)) (by omega)
  refine Calls_eq [some v, none] hm rfl rfl ?_
  refine Calls_eq [some v, none, none] hc rfl rfl ?_
  obtain ⟨p, vs, p0, xs, rfl, hp, hat, hp0, lx, rds⟩ := tab_head tb t0 rd
  have lvs : vs.length = t := by have := rds.length; rw [List.length_map] at this; have := tb.len; omega
  refine opIx_list hp hat ?_
  refine onJ_ref hp0 ?_
  refine rng_lc (by rw [lx]) (by omega) ?_
  refine lc_gr (pins := []) (h := h) (R := fun j h y => Rd h (rowL (colR look j)) y) (fun _ _ _ _ s r => r.sub s) (fun _ _ => trivial) (List.range s) [] (fun h' s' j hj K kk => ?_) (Sub.refl h) rfl (fun ys h2 s2 al => ?_)
  · have hj := List.mem_range.mp hj
    have hp' := s' _ _ hp
    refine src_refI hp' ?_
    refine ⟨show vs.length < 1000000 by omega, ?_⟩
    refine col_lc (i := j) ⟨hp', trivial⟩ tb hj (rds.sub s') (fun v => ⟨_, rfl, fun h K E c => c⟩) ?_
    refine newL_in fun p2 np2 => ?_
    exact kk _ _ ((Sub.refl h').new np2) (rowL_in hset_same)
  · have rdc : Rds h2 ((colsR s look).map rowL) ys := by
      have key : ∀ {js : List Nat} {ys : List Val}, AllH (fun j h y => Rd h (rowL (colR look j)) y) h2 js ys → Rds h2 ((js.map (colR look)).map rowL) ys := by
        intro js
        induction js with
        | nil => intro ys e; exact e
        | cons j js ih =>
          intro ys ⟨y, r, e, a, b⟩
          exact ⟨y, r, e, a, ih b⟩
      exact key al
    refine newL_in fun pc npc => ?_
    have sc := (Sub.refl h2).new (o := .lst ys) npc
    refine Dr.here ?_
    refine src_refI hset_same ?_
    have ly : ys.length = s := by rw [rdc.length, List.length_map]; exact tb.cols.len
    refine ⟨show ys.length < 1000000 by omega, ?_⟩
    refine lc_rel0 (pins := [(pc, ys)]) (P := fun v y => ∃ r ∈ colsR s look, Rd (hset h2 pc (.lst ys)) (rowL r) v ∧ y = fr (maxR r)) ⟨hset_same, trivial⟩ (fun v y ⟨r, hr, r1, e1⟩ K kk => ?_) (all2_rows (rdc.sub sc)) ?_
    · subst e1
      obtain ⟨pr, rfl, hpr⟩ := rowL_out r1
      have lr := tb.cols.lens r hr
      refine lgreat_ok hu hgr (k := k + 1) (n := n) hpr (fun z => ?_) n0 (by omega) (tb.cols.bd r hr) kk
      rw [z, List.length_nil] at lr
      omega
    · refine newL_in fun pm npm => ?_
      have sm := sc.trans ((Sub.refl (hset h2 pc (.lst ys))).new (o := .lst ((colsR s look).map fun r => fr (maxR r))) npm)
      refine ltotal_ok hT (k := k) (n := n) (xs := (colsR s look).map maxR) (.inr ⟨pm, rfl, by rw [hset_same, List.map_map]; rfl⟩) n0 (fun x hx => ?_) (by rw [List.length_map, tb.cols.len]; exact hs) hn ?_
      · obtain ⟨r, hr, rfl⟩ := List.mem_map.mp hx
        exact maxR_bd n0 (tb.cols.bd r hr)
      · exact ⟨_, Sub.refl _, q _ (s2.trans sm)⟩
theorem nlook1_ok (hT : LeakLib T) {k n t s : Nat} {v : Val} {d : D} {rows : List (List Rat)} {h : Hep} {Q : VQ} {E : XQ} (rd : Rd h d v) (e : d.tp = tabD rows) (l : Tab n t s rows) (c : ∀ r ∈ rows, chanOf r = some r) (t0 : 0 < t) (n0 : 0 < n) (hn : n ≤ 1000) (hf : 1 + (n + 2) * s ≤ 3900) (ht : t < 1000000)
    (q : Q (lookV rows) h) : Calls T (k + 7) "need_look" [v] h Q E := by
  obtain ⟨b, hb⟩ := hT.nlo
  have sl : s ≤ 3900 := Nat.le_trans (Nat.le_mul_of_pos_left s (show 0 < n + 2 by omega)) (by omega)
  refine Calls_eq [some v, none] hb rfl rfl ?_
  refine look_gen hT.toLookLib (k := k) rd (by rw [wid_of e]; have := wid_tabD l; omega) n0 hn (fit_tp e l hf) ?_
  rw [look_tp e c l t0]
  exact Dr.here q
theorem gleak_ok (hT : LeakLib T) {k n t s : Nat} {v : Val} {d : D} {rows : List (List Rat)} {h : Hep} {Q : VQ} {E : XQ} (rd : Rd h d v) (e : d.tp = tabD rows) (l : Tab n t s rows) (c : ∀ r ∈ rows, chanOf r = some r) (t0 : 0 < t) (n0 : 0 < n) (hn : n ≤ 1000) (hf : 1 + (n + 2) * s ≤ 3900) (ht : t < 1000000)
    (q : Q (fr (glR rows s)) h) : Calls T (k + 8) "greatest_leak" [v] h Q E := by
  have sl : s ≤ 3900 := Nat.le_trans (Nat.le_mul_of_pos_left s (show 0 < n + 2 by omega)) (by omega)
  refine Calls_eq [some v, none] hT.gl rfl rfl ?_
  refine nlook1_ok hT (k := k) rd e l c t0 n0 hn hf ht ?_
  obtain ⟨r, rs, er, el⟩ := lookV_head (h := h) l t0
  refine columns_ok hT.wl.co (k := k + 6) er l.lens (by rw [l.len]; exact ht) (by omega) ?_
  refine newL_in fun pc npc => ?_
  have sc := (Sub.refl h).new (o := .lst ((colsR s rows).map rowV)) npc
  refine src_refI hset_same ?_
  refine ⟨show ((colsR s rows).map rowV).length < 1000000 by rw [List.length_map, l.cols.len]; omega, ?_⟩
  refine lc_map (g := fun r => fr (maxR r)) ⟨hset_same, trivial⟩ (fun r hr K kk => ?_) ?_
  · have lr := l.cols.lens r hr
    refine greatest_ok hT.wl (k := k + 5) (n := n) (xs := r) (.inl rfl) (fun z => ?_) n0 (by omega) (l.cols.bd r hr) kk
    rw [z, List.length_nil] at lr
    omega
  · refine newL_in fun pm npm => ?_
    have sm := sc.trans ((Sub.refl (hset h pc (.lst ((colsR s rows).map rowV)))).new (o := .lst ((colsR s rows).map fun r => fr (maxR r))) npm)
    refine total_ok hT.wl.toSumLib (k := k + 3) (n := n) (xs := (colsR s rows).map maxR) (.inr ⟨pm, rfl, by rw [hset_same, List.map_map]; rfl⟩) n0 (fun x hx => ?_) (by rw [List.length_map, l.cols.len]; exact hf) (by omega) ?_
    · obtain ⟨r, hr, rfl⟩ := List.mem_map.mp hx
      exact maxR_bd n0 (l.cols.bd r hr)
    · exact ⟨h, sm, q⟩
theorem leak_ok (hT : LeakLib T) {k n m l t s d : Nat} {v1 v2 v3 : Val} {c : List Rat} {wish look : List (List Rat)} {h : Hep} {Q : VQ} {E : XQ} (a : Asked h v1 v2 v3 c wish look n m l t s d) (nn : ∀ r ∈ wish, ∀ x ∈ r, 0 ≤ x) (hn : n + l + 1 + m ≤ 900) (hd : d < 1000000)
    (h2 : 1 + (1 + (n + l + 1 + m + 3) * t + 2) * s ≤ 3900) (h1 : 1 + (n + l + 1 + m + 3) * t ≤ 3900) (q : maxR (deedR wish c) ≠ 0 → Q (fr (worthR c wish look s / maxR (deedR wish c))) h) (qe : maxR (deedR wish c) = 0 → E ⟨"NoWorth", []⟩ h) : Calls T (k + 10) "leak" [v1, v2, v3] h Q E := by
  refine Calls_eq [some v1, some v2, some v3, none, none, none, none, none, none] hT.lk rfl rfl ?_
  have b1 : 1 + (n + l + 2) * t ≤ 3900 := by have := Nat.mul_le_mul_right t (show n + l + 2 ≤ n + l + 1 + m + 3 by omega); omega
  have b0 : n + l + 2 ≤ 1 + (n + l + 1 + m + 3) * t + 2 := by have := Nat.le_mul_of_pos_right (n + l + 1 + m + 3) a.t0; omega
  have b2 : 1 + (n + l + 2) * s ≤ 3900 := by have := Nat.mul_le_mul_right s b0; omega
  have b3 : 1 + (n + m + 3) * t ≤ 3900 := by have := Nat.mul_le_mul_right t (show n + m + 3 ≤ n + l + 1 + m + 3 by omega); omega
  obtain ⟨d1, r1, e1⟩ := a.r1
  obtain ⟨d2, r2, e2⟩ := a.r2
  obtain ⟨d3, r3, e3⟩ := a.r3
  have lc := a.lc
  have t0 := a.t0
  obtain ⟨wr, ws, ew, ewl⟩ := lookV_head (h := h) a.lw a.d0
  have tl : t ≤ 3900 := Nat.le_trans (Nat.le_mul_of_pos_left t (show 0 < n + l + 2 by omega)) (by omega)
  have sl : s ≤ 3900 := Nat.le_trans (Nat.le_mul_of_pos_left s (show 0 < n + l + 2 by omega)) (by omega)
  have w1 : d1.wid < 1000000 := by rw [wid_of e1]; have := wid_rowD c; omega
  have w2 : d2.wid < 1000000 := by rw [wid_of e2]; have := wid_tabD a.lw; omega
  have w3 : d3.wid < 1000000 := by rw [wid_of e3]; have := wid_tabD a.ll; omega
  have lcf : (c.map fr).length = c.length := List.length_map ..
  refine nchances_ok hT.toNeedsLib (k := k + 3) (n := n + l) r1 w1 (by have := a.n0; omega) (by omega) (fun xs hx => ?_) (chances_tp e1 a.cc) ?_
  · rw [row_tp e1] at hx
    cases hx
    exact ⟨fun x hx => (a.bc x hx).mono (by omega), by rw [lc]; exact b1⟩
  refine onJ_tup ?_
  rw [lcf]
  refine nwishes_ok hT.toNeedsLib (k := k + 1) r2 w2 (wishes_tp e2 a.lw a.d0 a.t0) ew (by rw [ewl, lc]) ?_
  refine src_tupI ?_
  refine ⟨show (wish.map rowV).length < 1000000 by rw [List.length_map, a.lw.len]; exact hd, ?_⟩
  refine lc_mapU (pins := []) (g := fun _ => .bl false) (fun _ _ => trivial) (fun h' s' r hr K kk => ?_) (fun hh s2 => ?_)
  · refine src_tupI ?_
    refine ⟨show (r.map fr).length < 1000000 by rw [List.length_map, a.lw.lens r hr]; omega, ?_⟩
    refine lc_map (pins := []) (g := fun _ => .bl false) trivial (fun x hx K kk => ?_) ?_
    · have x0 := nn r hr x hx
      show Calls T _ "is_under" [fr x, fr 0] _ _ _
      refine under_ok hT.wl.un (k := k + 8) (n := m) a.m0 (by omega) (a.lw.bd r hr x hx) ⟨Nat.two_pow_pos m, Nat.one_lt_two_pow (by have := a.m0; omega)⟩ ?_
      rw [decide_eq_false (by grind)]
      exact kk
    · refine newL_in fun p np => ?_
      refine onB_in (bs := r.map fun _ => false) (by rw [hset_same, List.map_map]; rfl) ?_
      rw [show ((r.map fun _ => false).any id) = false by simp]
      exact kk _ ((Sub.refl h').new np)
  · refine newL_in fun p np => ?_
    have sp := s2.trans ((Sub.refl hh).new (o := .lst (wish.map fun _ => .bl false)) np)
    refine onB_in (bs := wish.map fun _ => false) (by rw [hset_same, List.map_map]; rfl) ?_
    refine ifF (by simp) ?_
    generalize hset hh p (.lst (wish.map fun _ => .bl false)) = h3 at *
    refine onJ_tup ?_
    rw [lcf]
    refine nlook_ok hT.toNeedsLib (k := k + 2) (n := n + l) (r3.sub sp) w3 (by have := a.n0; omega) (by omega) (fit_tp e3 (a.ll.mono (by omega)) b2) (look_tp e3 a.cl a.ll a.t0) (by rw [a.ll.len, lc]) ?_
    refine deeds_ok hT.wl (k := k + 3) (n := n) (m := m) (xs := c) (.inl rfl) a.n0 a.m0 (by omega) a.bc a.lw.bd (by rw [a.lc]; exact b3) (by rw [a.lw.len]; exact hd) ?_
    refine newL_in fun p4 np4 => ?_
    have s4 := sp.trans ((Sub.refl h3).new (o := .lst (wish.map fun r => fr (dotR c r))) np4)
    have e5 : (wish.map fun r => fr (dotR c r)) = (deedR wish c).map fr := by unfold deedR; rw [List.map_map]; rfl
    have bd : ∀ x ∈ deedR wish c, Bd (1 + (n + m + 3) * t) x := by
      intro x hx
      obtain ⟨w, hw, rfl⟩ := List.mem_map.mp hx
      exact dotR_bd a.bc (a.lw.bd w hw) (by rw [a.lc]; exact Nat.le_refl _)
    refine greatest_ok hT.wl (k := k + 7) (n := 1 + (n + m + 3) * t) (xs := deedR wish c) (.inr ⟨p4, rfl, by rw [hset_same, e5]⟩) (fun z => wish_ne a.lw a.d0 (List.map_eq_nil_iff.mp z)) (by omega) (by omega) bd ?_
    generalize hset h3 p4 (.lst (wish.map fun r => fr (dotR c r))) = h4 at *
    show onD h4 (fr (maxR (deedR wish c))) fun m => onD h4 (fr 0) fun n => _
    refine on_fr ?_
    rw [eqv_fr]
    by_cases z : maxR (deedR wish c) = 0
    · refine ifT (decide_eq_true z) ?_
      exact ⟨h, s4, qe z⟩
    · refine ifF (decide_eq_false z) ?_
      refine worthT hT.wl (k := k) a.lc a.bc a.lw a.ll a.t0 a.d0 a.n0 a.m0 a.l0 (by omega) hd h2 h1 ?_
      refine over_ok hT.wl.toRedLib hT.ov (k := k + 6) (n := 3900) (by decide) (by decide) ((worthR_bd a.lc a.bc a.lw a.ll).mono h2) ((maxR_bd (by omega) bd).mono b3) z ?_
      exact ⟨h, s4, q z⟩
end
end KM
/-! KSC: k39, whether a factor is told right. -/
namespace KM
open PySem PySem.Spec PyProof.Rows L2
def c_leak_right : Sxs := .cons (.asg (.tc (.nm 4) (.tc (.nm 8) .tn)) (.tup (.cons (.call "_law_w_ahead" (.cons (.var 1) (.cons (.var 2) .nil))) (.cons (.lst (.cons (.call "_law_loose" (.cons (.var 0) (.cons (.var 1) .nil))) (.cons (.call "_law_loose" (.cons (.var 0) (.cons (.var 2) .nil))) (.cons (.call "_law_loose" (.cons (.var 0) (.cons (.var 3) .nil))) .nil)))) .nil)))) (.cons (.asg (.nm 5) (.call "_law_copied" (.cons (.var 8) .nil))) (.cons (.asg (.nm 6) (.lst (.cons (.met "_law_leak_right.<locals>.<lambda>" [("NoWorth", "none", none)] (.call "leak" (.cons (.ix (.var 8) (.int 0)) (.cons (.ix (.var 8) (.int 1)) (.cons (.ix (.var 8) (.int 2)) .nil))))) (.cons (.met "_law_leak_right.<locals>.<lambda>" [("NoWorth", "none", none)] (.kall "leak" [2, 1, 0] (.cons (.call "_law_copied" (.cons (.var 3) .nil)) (.cons (.call "_law_copied" (.cons (.var 2) .nil)) (.cons (.call "_law_copied" (.cons (.var 1) .nil)) .nil))))) .nil)))) (.cons (.ife (.not (.call "_law_same" (.cons (.var 8) (.cons (.var 5) .nil)))) (.cons (.ret (.bl false)) .nil) .nil) (.cons (.ife (.cmp .Eq (.var 4) (.tup (.cons (.int 0) (.cons (.int 1) .nil)))) (.cons (.ret (.call "_law_same" (.cons (.var 6) (.cons (.bin .Mult (.lst (.cons (.tup (.cons (.str "none") (.cons .non .nil))) .nil)) (.int 2)) .nil)))) .nil) .nil) (.cons (.asg (.nm 7) (.call "_law_over" (.cons (.call "_law_worth" (.cons (.var 1) (.cons (.var 2) (.cons (.var 3) .nil)))) (.cons (.var 4) .nil)))) (.cons (.ret (.and (.call "_law_same" (.cons (.var 6) (.cons (.bin .Mult (.lst (.cons (.tup (.cons (.str "told") (.cons (.var 7) .nil))) .nil)) (.int 2)) .nil))) (.and (.not (.call "_law_under" (.cons (.var 7) (.cons (.tup (.cons (.int 1) (.cons (.int 1) .nil))) .nil)))) (.not (.call "_law_under" (.cons (.call "greatest_leak" (.cons (.var 3) .nil)) (.cons (.var 7) .nil))))))) .nil))))))
structure Law39Lib (T : Str → Option Fc) (P : Addr) : Prop where
  lk : LeakLib T
  cs : CaseLib T
  lw : LWorthLib T
  sa : T "_law_same" = some ⟨2, 4, c__law_same⟩
  co : T "_law_copied" = some ⟨1, 4, c__law_copied⟩
  lo : T "_law_loose" = some ⟨2, 4, c__law_loose⟩
  lov : T "_law_over" = some ⟨2, 2, c__law_over⟩
  cl : T "_law_w_columns" = some ⟨1, 3, c__law_w_columns⟩
  ms : T "_law_most" = some ⟨1, 2, c__law_most⟩
  gw : T "_law_w_good_wishes" = some ⟨3, 5, c__law_w_good_wishes⟩
  lr : T "_law_leak_right" = some ⟨4, 9, c_leak_right⟩
  tab : T "_law_leak_right.<locals>.<lambda>" = some ⟨0, 0, .cons (.ret (.con (.ref P))) .nil⟩
/-- what a leak tells -/
def lkV (w a : Rat) : Val := if a = 0 then .tup [.str "none", .non] else .tup [.str "told", fr (w / a)]
def lkD (w a : Rat) : D := if a = 0 then .tup [.str "none", .non] else .tup [.str "told", dr (w / a)]
theorem rd_lk (h : Hep) (w a : Rat) : Rd h (lkD w a) (lkV w a) := by
  unfold lkD lkV
  split
  · exact ⟨_, rfl, Rds.cons (show Rd h (.str "none") (.str "none") from rfl) (Rds.cons (show Rd h .non .non from rfl) rfl)⟩
  · exact ⟨_, rfl, Rds.cons (show Rd h (.str "told") (.str "told") from rfl) (Rds.cons (rd_fr h _) rfl)⟩
theorem lk_dep (w a : Rat) : (lkD w a).dep ≤ 2 := by
  unfold lkD
  split
  · exact (by decide : D.dep (.tup [.str "none", .non]) ≤ 2)
  · show D.dep (.tup [.str "told", .tup [.int _, .int _]]) ≤ 2
    simp [D.dep, D.deps]
theorem lk_wid (w a : Rat) : (lkD w a).wid ≤ 2 := by
  unfold lkD
  split
  · exact (by decide : D.wid (.tup [.str "none", .non]) ≤ 2)
  · show D.wid (.tup [.str "told", .tup [.int _, .int _]]) ≤ 2
    simp [D.wid, D.wids]
theorem askedL {h : Hep} {v1 v2 v3 : Val} {d1 d2 d3 : D} {c : List Rat} {wish look : List (List Rat)} {t s d : Nat} (r1 : Rd h d1 v1) (e1 : d1.tp = rowD c) (r2 : Rd h d2 v2) (e2 : d2.tp = tabD wish) (r3 : Rd h d3 v3) (e3 : d3.tp = tabD look) (hc : Chan c t) (lw : Wishs wish t d) (ll : Looks look t s) (t0 : 0 < t) (d0 : 0 < d) : Asked h v1 v2 v3 c wish look 8 6 8 t s d :=
  ⟨⟨d1, r1, e1⟩, ⟨d2, r2, e2⟩, ⟨d3, r3, e3⟩, hc.of, hc.bd, hc.len, lw.tab, ll.tab, fun r hr => (ll.ch r hr).of, t0, d0, by decide, by decide, by decide⟩
theorem big39 {t s : Nat} (t1 : t ≤ 6) (s1 : s ≤ 8) : 1 + (1 + (8 + 8 + 1 + 6 + 3) * t + 2) * s ≤ 1300 := by
  have := Nat.mul_le_mul (show 1 + (8 + 8 + 1 + 6 + 3) * t + 2 ≤ 159 by omega) s1
  omega
theorem gl_bd {t s n : Nat} {look : List (List Rat)} (tb : Tab n t s look) (n0 : 0 < n) : Bd (1 + (n + 2) * s) (glR look s) := by
  have := sumR_bd (n := n) (xs := (colsR s look).map maxR) fun x hx => by
    obtain ⟨r, hr, rfl⟩ := List.mem_map.mp hx
    exact maxR_bd n0 (tb.cols.bd r hr)
  rw [List.length_map, tb.cols.len] at this
  exact this
section
variable {T : Str → Option Fc} {P : Addr}
theorem met_leak (hT : LeakLib T) {k t s d : Nat} {v1 v2 v3 : Val} {c : List Rat} {wish look : List (List Rat)} {h : Hep} {Q R : VQ} (a : Asked h v1 v2 v3 c wish look 8 6 8 t s d) (nn : ∀ r ∈ wish, ∀ x ∈ r, 0 ≤ x) (t1 : t ≤ 6) (s1 : s ≤ 8) (d1 : d ≤ 8)
    (q : Q (lkV (worthR c wish look s) (maxR (deedR wish c))) h) (hR : ∀ u h, Q (.tup [.str "told", u]) h → R u h) : Calls T (k + 10) "leak" [v1, v2, v3] h R (fun x h1 => metH [("NoWorth", "none", none)] x Q h1) := by
  have b1 := big39 t1 s1
  unfold lkV at q
  refine leak_ok hT (k := k) a nn (by decide) (by omega) (by omega) (by omega) (fun z => hR _ _ ?_) fun z => ?_
  · rw [if_neg z] at q
    exact q
  · rw [if_pos z] at q
    show metH [("NoWorth", "none", none)] ⟨"NoWorth", []⟩ Q h
    unfold metH
    rw [if_pos rfl]
    exact q
theorem leak_right_ok (hT : Law39Lib T P) {k t s d : Nat} {a : Addr} {b : Nat} {v1 v2 v3 : Val} {c : List Rat} {wish look : List (List Rat)} {h g : Hep} {Q : VQ} {E : XQ} (st : St a h (b + 300) g) (hP : h P = some (.tab "_law_leak_right.<locals>.<lambda>"))
    (rc : Rd h (rowL c) v1) (rw' : Rd h (tabL wish) v2) (rl : Rd h (tabL look) v3) (hc : Chan c t) (lw : Wishs wish t d) (nn : ∀ r ∈ wish, ∀ x ∈ r, 0 ≤ x) (ll : Looks look t s) (t0 : 0 < t) (t1 : t ≤ 6) (s0 : 0 < s) (s1 : s ≤ 8) (d0 : 0 < d) (d1 : d ≤ 4) (q : ∀ h' g', Sub h h' → St a h' b g' → Q (.bl true) g') : Calls T (k + 12) "_law_leak_right" [.ref a, v1, v2, v3] g Q E := by
  obtain ⟨pc, rfl, hpc⟩ := rowL_out rc
  obtain ⟨pw, vw, rfl, hpw, rdw⟩ := tabL_out rw'
  obtain ⟨pl, vl, rfl, hpl, rdl⟩ := tabL_out rl
  refine Calls_eq [some (.ref a), some (.ref pc), some (.ref pw), some (.ref pl), none, none, none, none, none] hT.lr rfl rfl ?_
  have sg := st.sub
  refine lahead_ok hT.lw (k := k + 6) (n := 8) (m := 6) (rowL_its (rc.sub sg)) (rw'.sub sg) lw.tab hc.bd (by decide) (by decide) (by decide) (by rw [hc.len]; omega) d0 (by omega) ?_
  have b1 := big39 t1 s1
  have bw : Bd 1300 (worthR c wish look s) := (worthR_bd hc.len hc.bd lw.tab ll.tab).mono b1
  have ba : Bd 1300 (maxR (deedR wish c)) := (maxR_bd (by decide) fun x hx => deedR_bd (l := 8) hc.bd lw.tab (by rw [hc.len]; omega) x hx).mono (by decide)
  have bg : Bd 1300 (glR look s) := (gl_bd ll.tab (by decide)).mono (by omega)
  have ct := cnt_tabL ll.tab
  have cw := cnt_tabL lw.tab
  have cc := cnt_rowL c
  have m1 := Nat.mul_le_mul t1 (show s + 1 ≤ 9 by omega)
  have m2 := Nat.mul_le_mul d1 (show t + 1 ≤ 7 by omega)
  refine looseS hT.cs.dw hT.lo (n := k + 11) (b := b + 150) (st.le (by rw [cc, hc.len]; omega)) (by have := dep_rowL c; omega) (by have := wid_rowL c; have := hc.len; omega) rc fun v1' d1' h3 g3 sh3 st3 rd1 et1 => ?_
  refine looseS hT.cs.dw hT.lo (n := k + 11) (b := b + 100) (st3.le (by rw [cw]; omega)) (by have := dep_tabL wish; omega) (by have := wid_tabL lw.tab; omega) (rw'.sub sh3) fun v2' d2' h4 g4 sh4 st4 rd2 et2 => ?_
  refine looseS hT.cs.dw hT.lo (n := k + 11) (b := b) (st4.le (by rw [ct]; omega)) (by have := dep_tabL look; omega) (by have := wid_tabL ll.tab; omega) (rl.sub (sh3.trans sh4)) fun v3' d3' h5 g5 sh5 st5 rd3 et3 => ?_
  refine St.newL st5 fun ph h6 g6 sh6 sg6 st6 hph nph => ?_
  have s6 : Sub h h6 := sh3.trans (sh4.trans (sh5.trans sh6))
  have s6g := st6.sub
  have rd1 := ((rd1.sub sh4).sub sh5).sub sh6
  have rd2 := (rd2.sub sh5).sub sh6
  have rd3 := rd3.sub sh6
  have nd1 := nd_of et1 (nd_rowL c)
  have nd2 := nd_of et2 (nd_tabL wish)
  have nd3 := nd_of et3 (nd_tabL look)
  rw [rowL_tp] at et1
  rw [tabL_tp] at et2 et3
  have fin : Q (.bl true) g6 := q h6 g6 s6 st6
  have hP6 := s6g _ _ (s6 _ _ hP)
  have rcg := rc.sub (s6.trans s6g)
  have rwg := rw'.sub (s6.trans s6g)
  have rlg := rl.sub (s6.trans s6g)
  have rd1g := rd1.sub s6g
  have rd2g := rd2.sub s6g
  have rd3g := rd3.sub s6g
  have hphg := s6g _ _ hph
  clear rd1 rd2 rd3 hph sh3 sh4 sh5 sh6 st5 st4 st3
  clear st sg hpc hpw hpl rdw rdl rc rw' rl sg6 nph s6 st6 ct cw cc m1 m2
  have dd1 := dep_of et1
  have dd2 := dep_of et2
  have dd3 := dep_of et3
  have dr1 := dep_row c
  have dt2 := dep_tabD wish
  have dt3 := dep_tabD look
  have ww1 := wid_of et1
  have ww2 := wid_of et2
  have ww3 := wid_of et3
  have wr1 := wid_rowD c
  have wt2 := wid_tabD lw.tab
  have wt3 := wid_tabD ll.tab
  have hcl := hc.len
  have rdh : Rd g6 (.lst [d1', d2', d3']) (.ref ph) := ⟨ph, _, rfl, hphg, Rds.cons rd1g (Rds.cons rd2g (Rds.cons rd3g rfl))⟩
  have hdep : (D.lst [d1', d2', d3']).dep ≤ 4 := by simp only [D.dep, D.deps]; omega
  have hwid : (D.lst [d1', d2', d3']).wid < 1000000 := by simp only [D.wid, D.wids, List.length_cons, List.length_nil]; omega
  refine lcopied_ok hT.co (k + 11) (.lst [d1', d2', d3']) (.ref ph) g6 _ _ (by omega) hwid (by simp only [D.nd, D.nds, nd1, nd2, nd3]; rfl) rdh fun vwas g7 s7 rdwas => ?_
  have a7 : ∀ g', Sub g6 g' → Asked g' v1' v2' v3' c wish look 8 6 8 t s d := fun g' s' => askedL (rd1g.sub s') et1 (rd2g.sub s') et2 (rd3g.sub s') et3 hc lw ll t0 d0
  refine met_in (k := k + 10) hT.tab (s7 _ _ hP6) ?_
  refine opIx_list (s7 _ _ hphg) (v := v1') (atI_nat (j := 0) rfl) ?_
  refine opIx_list (s7 _ _ hphg) (v := v2') (atI_nat (j := 1) rfl) ?_
  refine opIx_list (s7 _ _ hphg) (v := v3') (atI_nat (j := 2) rfl) ?_
  refine met_leak hT.lk (k := k + 1) (a7 g7 s7) nn t1 s1 (by omega) ?_ ?_
  rotate_left
  · exact fun u h z => z
  refine met_in (k := k + 10) hT.tab (s7 _ _ hP6) ?_
  refine lcopied_ok hT.co (k + 11) (tabL look) (.ref pl) g7 _ _ (by have := dep_tabL look; omega) (by have := wid_tabL ll.tab; omega) (nd_tabL look) (rlg.sub s7) fun u3 f3 p3 r3 => ?_
  refine lcopied_ok hT.co (k + 11) (tabL wish) (.ref pw) f3 _ _ (by have := dep_tabL wish; omega) (by have := wid_tabL lw.tab; omega) (nd_tabL wish) (rwg.sub (s7.trans p3)) fun u2 f2 p2 r2 => ?_
  refine lcopied_ok hT.co (k + 11) (rowL c) (.ref pc) f2 _ _ (by have := dep_rowL c; omega) (by have := wid_rowL c; omega) (nd_rowL c) (rcg.sub (s7.trans (p3.trans p2))) fun u1 f1 p1 r1 => ?_
  refine met_leak hT.lk (k := k + 1) (askedL r1 (rowL_tp c) (r2.sub p1) (tabL_tp wish) (r3.sub (p2.trans p1)) (tabL_tp look) hc lw ll t0 d0) nn t1 s1 (by omega) ?_ ?_
  rotate_left
  · exact fun u h z => z
  refine newL_in fun pf npf => ?_
  have sf := (Sub.refl f1).new (o := .lst [lkV (worthR c wish look s) (maxR (deedR wish c)), lkV (worthR c wish look s) (maxR (deedR wish c))]) npf
  have hpf : (hset f1 pf (.lst [lkV (worthR c wish look s) (maxR (deedR wish c)), lkV (worthR c wish look s) (maxR (deedR wish c))])) pf = _ := hset_same
  generalize hset f1 pf (.lst [lkV (worthR c wish look s) (maxR (deedR wish c)), lkV (worthR c wish look s) (maxR (deedR wish c))]) = g8 at *
  have s78 := p3.trans (p2.trans (p1.trans sf))
  have s8 := s7.trans s78
  refine same2 hT.sa (n := k + 11) (d := .lst [d1', d2', d3']) (by omega) hwid (rdh.sub s8) (rdwas.sub s78) ?_
  have dL := lk_dep (worthR c wish look s) (maxR (deedR wish c))
  have wL := lk_wid (worthR c wish look s) (maxR (deedR wish c))
  show onD g8 (fr (maxR (deedR wish c))) fun m => onD g8 (fr 0) fun n => _
  refine on_fr ?_
  rw [eqv_fr]
  have rdf : Rd g8 (.lst [lkD (worthR c wish look s) (maxR (deedR wish c)), lkD (worthR c wish look s) (maxR (deedR wish c))]) (.ref pf) := ⟨pf, _, rfl, hpf, Rds.cons (rd_lk _ _ _) (Rds.cons (rd_lk _ _ _) rfl)⟩
  have fdep : D.dep (.lst [lkD (worthR c wish look s) (maxR (deedR wish c)), lkD (worthR c wish look s) (maxR (deedR wish c))]) < k + 11 := by simp only [D.dep, D.deps]; omega
  have fwid : D.wid (.lst [lkD (worthR c wish look s) (maxR (deedR wish c)), lkD (worthR c wish look s) (maxR (deedR wish c))]) < 1000000 := by simp only [D.wid, D.wids, List.length_cons, List.length_nil]; omega
  by_cases z : maxR (deedR wish c) = 0
  · refine ifT (decide_eq_true z) ?_
    have eD : lkV (worthR c wish look s) (maxR (deedR wish c)) = (Val.tup [.str "none", .non]) := by unfold lkV; rw [if_pos z]
    refine newL_in fun p2 np2 => ?_
    have sq := (Sub.refl g8).new (o := .lst [(Val.tup [.str "none", .non])]) np2
    have hp2 : (hset g8 p2 (.lst [(Val.tup [.str "none", .non])])) p2 = _ := hset_same
    generalize hset g8 p2 (.lst [(Val.tup [.str "none", .non])]) = g9 at *
    refine onL_in hp2 ⟨by decide, by decide, by show (1 * 2 : Nat) < 1000000; decide, ?_⟩
    refine newL_in fun p3 np3 => ?_
    have s' := sq.trans ((Sub.refl g9).new (o := .lst [(Val.tup [.str "none", .non]), (Val.tup [.str "none", .non])]) np3)
    have hp3 : (hset g9 p3 (.lst [(Val.tup [.str "none", .non]), (Val.tup [.str "none", .non])])) p3 = some (.lst [lkV (worthR c wish look s) (maxR (deedR wish c)), lkV (worthR c wish look s) (maxR (deedR wish c))]) := by rw [eD]; exact hset_same
    have el : (List.replicate (2 : Int).toNat [(Val.tup [.str "none", .non])]).flatten = [(Val.tup [.str "none", .non]), (Val.tup [.str "none", .non])] := rfl
    rw [el]
    generalize hset g9 p3 (.lst [(Val.tup [.str "none", .non]), (Val.tup [.str "none", .non])]) = g' at *
    have rp : Rd g' (.lst [lkD (worthR c wish look s) (maxR (deedR wish c)), lkD (worthR c wish look s) (maxR (deedR wish c))]) (.ref p3) := ⟨p3, _, rfl, hp3, Rds.cons (rd_lk _ _ _) (Rds.cons (rd_lk _ _ _) rfl)⟩
    refine same2 hT.sa (n := k + 11) fdep fwid (rdf.sub s') rp ?_
    exact ⟨g6, s8.trans s', fin⟩
  · refine ifF (decide_eq_false z) ?_
    refine lworth_ok hT.lw (k := k + 5) (rowL_its (rcg.sub s8)) (rwg.sub s8) (rlg.sub s8) hc.len hc.bd lw.tab ll.tab t0 (by omega) (by omega) d0 (by omega) ?_
    refine lover_ok hT.cs.fr hT.lov (k := k + 9) (n := 1300) (by decide) (by decide) bw ba z ?_
    have a0 : 0 < maxR (deedR wish c) := by
      have : 0 ≤ maxR (deedR wish c) := by
        rw [deed_M lw.tab hc.len]
        obtain ⟨w, hw, e⟩ := M_at (t := t) (u := chF c) (wish_ne lw.tab d0)
        rw [e]
        unfold dd
        refine S_nn fun i hi => Rat.mul_nonneg (chan_nn hc hi) ?_
        have li : i < w.length := by rw [lw.lens w hw]; exact hi
        rw [List.getD_eq_getElem?_getD, List.getElem?_eq_getElem li]
        exact nn w hw _ (List.getElem_mem li)
      grind
    have one : ¬ worthR c wish look s / maxR (deedR wish c) < 1 := by
      have le := ahead_le hc lw ll d0
      intro lt
      have := Rat.mul_lt_mul_of_pos_right lt a0
      rw [Rat.one_mul, Rat.div_def, Rat.mul_assoc, Rat.inv_mul_cancel _ z, Rat.mul_one] at this
      grind
    have most : ¬ glR look s < worthR c wish look s / maxR (deedR wish c) := by
      have le := worth_gl hc lw.tab ll d0 t0 nn
      intro lt
      have := Rat.mul_lt_mul_of_pos_right lt a0
      rw [Rat.div_def, Rat.mul_assoc, Rat.inv_mul_cancel _ z, Rat.mul_one] at this
      grind
    have eD : lkV (worthR c wish look s) (maxR (deedR wish c)) = (Val.tup [.str "told", fr (worthR c wish look s / maxR (deedR wish c))]) := by unfold lkV; rw [if_neg z]
    refine newL_in fun p2 np2 => ?_
    have sq := (Sub.refl g8).new (o := .lst [(Val.tup [.str "told", fr (worthR c wish look s / maxR (deedR wish c))])]) np2
    have hp2 : (hset g8 p2 (.lst [(Val.tup [.str "told", fr (worthR c wish look s / maxR (deedR wish c))])])) p2 = _ := hset_same
    generalize hset g8 p2 (.lst [(Val.tup [.str "told", fr (worthR c wish look s / maxR (deedR wish c))])]) = g9 at *
    refine onL_in hp2 ⟨by decide, by decide, by show (1 * 2 : Nat) < 1000000; decide, ?_⟩
    refine newL_in fun p3 np3 => ?_
    have s' := sq.trans ((Sub.refl g9).new (o := .lst [(Val.tup [.str "told", fr (worthR c wish look s / maxR (deedR wish c))]), (Val.tup [.str "told", fr (worthR c wish look s / maxR (deedR wish c))])]) np3)
    have hp3 : (hset g9 p3 (.lst [(Val.tup [.str "told", fr (worthR c wish look s / maxR (deedR wish c))]), (Val.tup [.str "told", fr (worthR c wish look s / maxR (deedR wish c))])])) p3 = some (.lst [lkV (worthR c wish look s) (maxR (deedR wish c)), lkV (worthR c wish look s) (maxR (deedR wish c))]) := by rw [eD]; exact hset_same
    have el : (List.replicate (2 : Int).toNat [(Val.tup [.str "told", fr (worthR c wish look s / maxR (deedR wish c))])]).flatten = [(Val.tup [.str "told", fr (worthR c wish look s / maxR (deedR wish c))]), (Val.tup [.str "told", fr (worthR c wish look s / maxR (deedR wish c))])] := rfl
    rw [el]
    generalize hset g9 p3 (.lst [(Val.tup [.str "told", fr (worthR c wish look s / maxR (deedR wish c))]), (Val.tup [.str "told", fr (worthR c wish look s / maxR (deedR wish c))])]) = g' at *
    have rp : Rd g' (.lst [lkD (worthR c wish look s) (maxR (deedR wish c)), lkD (worthR c wish look s) (maxR (deedR wish c))]) (.ref p3) := ⟨p3, _, rfl, hp3, Rds.cons (rd_lk _ _ _) (Rds.cons (rd_lk _ _ _) rfl)⟩
    refine same2 hT.sa (n := k + 11) fdep fwid (rdf.sub s') rp ?_
    have bq : Bd 3000 (worthR c wish look s / maxR (deedR wish c)) := (bw.div ba).mono (by decide)
    show Calls T _ "_law_under" [fr (worthR c wish look s / maxR (deedR wish c)), fr 1] _ _ _
    refine lunder_ok hT.lw.un (k := k + 10) (n := 3000) (by decide) (by decide) bq ⟨by decide, by decide⟩ ?_
    rw [decide_eq_false one]
    refine gleak_ok hT.lk (k := k + 3) (n := 8) (rlg.sub (s8.trans s')) (tabL_tp look) ll.tab (fun r hr => (ll.ch r hr).of) t0 (by decide) (by decide) (by omega) (by omega) ?_
    refine lunder_ok hT.lw.un (k := k + 10) (n := 3000) (by decide) (by decide) (bg.mono (by decide)) bq ?_
    rw [decide_eq_false most]
    exact ⟨g6, s8.trans s', fin⟩
end
end KM
/-! KSD: k39, the law. -/
namespace KM
open PySem PySem.Spec PyProof.Rows L2
def c_law39 : Sxs := .cons (.asg (.nm 1) (.call "_law_stream" (.cons (.var 0) .nil))) (.cons (.forr (.nm 2) (.rng1 (.int 7)) (.cons (.asg (.nm 3) (.call "_law_w_sized" (.cons (.var 1) (.cons (.int 6) (.cons (.int 8) .nil))))) (.cons (.asg (.nm 4) (.bi .len (.cons (.var 3) .nil))) (.cons (.forr (.nm 5) (.rng1 (.int 3)) (.cons (.ife (.not (.call "_law_leak_right" (.cons (.var 1) (.cons (.call "_law_chances" (.cons (.var 1) (.cons (.var 4) (.cons (.int 0) .nil)))) (.cons (.call "_law_w_good_wishes" (.cons (.var 1) (.cons (.var 4) (.cons (.bin .Add (.int 1) (.call "_law_draw" (.cons (.var 1) (.cons (.int 4) .nil)))) .nil)))) (.cons (.var 3) .nil)))))) (.cons (.ret (.bl false)) .nil) .nil) .nil)) (.cons (.asg (.nm 6) (.call "_law_most" (.cons (.var 3) .nil))) (.cons (.par [7, 8] (.cons (.bin .Mult (.lst (.cons (.tup (.cons (.int 1) (.cons (.var 4) .nil))) .nil)) (.var 4)) (.cons (.call "_law_w_full" (.cons (.var 4) .nil)) .nil))) (.cons (.asg (.nm 9) (.lst (.cons (.call "greatest_leak" (.cons (.call "_law_loose" (.cons (.var 1) (.cons (.var 3) .nil))) .nil)) (.cons (.kall "greatest_leak" [0] (.cons (.call "_law_copied" (.cons (.var 3) .nil)) .nil)) (.cons (.call "leak" (.cons (.var 7) (.cons (.var 8) (.cons (.var 3) .nil)))) .nil))))) (.cons (.ife (.not (.call "_law_same" (.cons (.var 9) (.cons (.bin .Mult (.lst (.cons (.var 6) .nil)) (.int 3)) .nil)))) (.cons (.ret (.bl false)) .nil) .nil) (.cons (.asg (.nm 10) (.lc (.lc (.var 12) (.nm 12) (.rng1 (.var 4)) (.cons (.cmp .NotEq (.ix (.ix (.var 3) (.var 12)) (.var 11)) (.tup (.cons (.int 0) (.cons (.int 1) .nil)))) .nil) [12]) (.nm 11) (.rng1 (.bi .len (.cons (.ix (.var 3) (.int 0)) .nil))) .nil [11])) (.cons (.ife (.or (.cmp .NotEq (.cmp .Eq (.var 6) (.tup (.cons (.int 1) (.cons (.int 1) .nil)))) (.bi .all (.cons (.lc (.cmp .Eq (.var 13) (.ix (.var 3) (.int 0))) (.nm 13) (.seq (.var 3)) .nil [13]) .nil))) (.cmp .NotEq (.cmp .Eq (.var 6) (.tup (.cons (.var 4) (.cons (.int 1) .nil)))) (.bi .all (.cons (.lc (.cmp .Lt (.bi .len (.cons (.var 13) .nil)) (.int 2)) (.nm 13) (.seq (.var 10)) .nil [13]) .nil)))) (.cons (.ret (.bl false)) .nil) .nil) .nil)))))))))) (.cons (.ret (.call "_law_same" (.cons (.call "greatest_leak" (.cons (.lst (.cons (.lst (.cons (.tup (.cons (.int 1) (.cons (.int 2) .nil))) (.cons (.tup (.cons (.int 1) (.cons (.int 2) .nil))) .nil))) (.cons (.lst (.cons (.tup (.cons (.int 0) (.cons (.int 1) .nil))) (.cons (.tup (.cons (.int 1) (.cons (.int 1) .nil))) .nil))) .nil))) .nil)) (.cons (.tup (.cons (.int 3) (.cons (.int 2) .nil))) .nil)))) .nil))
def c_turn39 : Sxs := .cons (.asg (.nm 3) (.call "_law_w_sized" (.cons (.var 1) (.cons (.int 6) (.cons (.int 8) .nil))))) (.cons (.asg (.nm 4) (.bi .len (.cons (.var 3) .nil))) (.cons (.forr (.nm 5) (.rng1 (.int 3)) (.cons (.ife (.not (.call "_law_leak_right" (.cons (.var 1) (.cons (.call "_law_chances" (.cons (.var 1) (.cons (.var 4) (.cons (.int 0) .nil)))) (.cons (.call "_law_w_good_wishes" (.cons (.var 1) (.cons (.var 4) (.cons (.bin .Add (.int 1) (.call "_law_draw" (.cons (.var 1) (.cons (.int 4) .nil)))) .nil)))) (.cons (.var 3) .nil)))))) (.cons (.ret (.bl false)) .nil) .nil) .nil)) (.cons (.asg (.nm 6) (.call "_law_most" (.cons (.var 3) .nil))) (.cons (.par [7, 8] (.cons (.bin .Mult (.lst (.cons (.tup (.cons (.int 1) (.cons (.var 4) .nil))) .nil)) (.var 4)) (.cons (.call "_law_w_full" (.cons (.var 4) .nil)) .nil))) (.cons (.asg (.nm 9) (.lst (.cons (.call "greatest_leak" (.cons (.call "_law_loose" (.cons (.var 1) (.cons (.var 3) .nil))) .nil)) (.cons (.kall "greatest_leak" [0] (.cons (.call "_law_copied" (.cons (.var 3) .nil)) .nil)) (.cons (.call "leak" (.cons (.var 7) (.cons (.var 8) (.cons (.var 3) .nil)))) .nil))))) (.cons (.ife (.not (.call "_law_same" (.cons (.var 9) (.cons (.bin .Mult (.lst (.cons (.var 6) .nil)) (.int 3)) .nil)))) (.cons (.ret (.bl false)) .nil) .nil) (.cons (.asg (.nm 10) (.lc (.lc (.var 12) (.nm 12) (.rng1 (.var 4)) (.cons (.cmp .NotEq (.ix (.ix (.var 3) (.var 12)) (.var 11)) (.tup (.cons (.int 0) (.cons (.int 1) .nil)))) .nil) [12]) (.nm 11) (.rng1 (.bi .len (.cons (.ix (.var 3) (.int 0)) .nil))) .nil [11])) (.cons (.ife (.or (.cmp .NotEq (.cmp .Eq (.var 6) (.tup (.cons (.int 1) (.cons (.int 1) .nil)))) (.bi .all (.cons (.lc (.cmp .Eq (.var 13) (.ix (.var 3) (.int 0))) (.nm 13) (.seq (.var 3)) .nil [13]) .nil))) (.cmp .NotEq (.cmp .Eq (.var 6) (.tup (.cons (.var 4) (.cons (.int 1) .nil)))) (.bi .all (.cons (.lc (.cmp .Lt (.bi .len (.cons (.var 13) .nil)) (.int 2)) (.nm 13) (.seq (.var 10)) .nil [13]) .nil)))) (.cons (.ret (.bl false)) .nil) .nil) .nil))))))))
def c_in39 : Sxs := .cons (.ife (.not (.call "_law_leak_right" (.cons (.var 1) (.cons (.call "_law_chances" (.cons (.var 1) (.cons (.var 4) (.cons (.int 0) .nil)))) (.cons (.call "_law_w_good_wishes" (.cons (.var 1) (.cons (.var 4) (.cons (.bin .Add (.int 1) (.call "_law_draw" (.cons (.var 1) (.cons (.int 4) .nil)))) .nil)))) (.cons (.var 3) .nil)))))) (.cons (.ret (.bl false)) .nil) .nil) .nil
def c_mid39 : Sxs := .cons (.asg (.nm 6) (.call "_law_most" (.cons (.var 3) .nil))) (.cons (.par [7, 8] (.cons (.bin .Mult (.lst (.cons (.tup (.cons (.int 1) (.cons (.var 4) .nil))) .nil)) (.var 4)) (.cons (.call "_law_w_full" (.cons (.var 4) .nil)) .nil))) (.cons (.asg (.nm 9) (.lst (.cons (.call "greatest_leak" (.cons (.call "_law_loose" (.cons (.var 1) (.cons (.var 3) .nil))) .nil)) (.cons (.kall "greatest_leak" [0] (.cons (.call "_law_copied" (.cons (.var 3) .nil)) .nil)) (.cons (.call "leak" (.cons (.var 7) (.cons (.var 8) (.cons (.var 3) .nil)))) .nil))))) (.cons (.ife (.not (.call "_law_same" (.cons (.var 9) (.cons (.bin .Mult (.lst (.cons (.var 6) .nil)) (.int 3)) .nil)))) (.cons (.ret (.bl false)) .nil) .nil) (.cons (.asg (.nm 10) (.lc (.lc (.var 12) (.nm 12) (.rng1 (.var 4)) (.cons (.cmp .NotEq (.ix (.ix (.var 3) (.var 12)) (.var 11)) (.tup (.cons (.int 0) (.cons (.int 1) .nil)))) .nil) [12]) (.nm 11) (.rng1 (.bi .len (.cons (.ix (.var 3) (.int 0)) .nil))) .nil [11])) (.cons (.ife (.or (.cmp .NotEq (.cmp .Eq (.var 6) (.tup (.cons (.int 1) (.cons (.int 1) .nil)))) (.bi .all (.cons (.lc (.cmp .Eq (.var 13) (.ix (.var 3) (.int 0))) (.nm 13) (.seq (.var 3)) .nil [13]) .nil))) (.cmp .NotEq (.cmp .Eq (.var 6) (.tup (.cons (.var 4) (.cons (.int 1) .nil)))) (.bi .all (.cons (.lc (.cmp .Lt (.bi .len (.cons (.var 13) .nil)) (.int 2)) (.nm 13) (.seq (.var 10)) .nil [13]) .nil)))) (.cons (.ret (.bl false)) .nil) .nil) .nil)))))
def c_end39 : Sxs := .cons (.asg (.nm 10) (.lc (.lc (.var 12) (.nm 12) (.rng1 (.var 4)) (.cons (.cmp .NotEq (.ix (.ix (.var 3) (.var 12)) (.var 11)) (.tup (.cons (.int 0) (.cons (.int 1) .nil)))) .nil) [12]) (.nm 11) (.rng1 (.bi .len (.cons (.ix (.var 3) (.int 0)) .nil))) .nil [11])) (.cons (.ife (.or (.cmp .NotEq (.cmp .Eq (.var 6) (.tup (.cons (.int 1) (.cons (.int 1) .nil)))) (.bi .all (.cons (.lc (.cmp .Eq (.var 13) (.ix (.var 3) (.int 0))) (.nm 13) (.seq (.var 3)) .nil [13]) .nil))) (.cmp .NotEq (.cmp .Eq (.var 6) (.tup (.cons (.var 4) (.cons (.int 1) .nil)))) (.bi .all (.cons (.lc (.cmp .Lt (.bi .len (.cons (.var 13) .nil)) (.int 2)) (.nm 13) (.seq (.var 10)) .nil [13]) .nil)))) (.cons (.ret (.bl false)) .nil) .nil) .nil)
def c_last39 : Sxs := .cons (.ret (.call "_law_same" (.cons (.call "greatest_leak" (.cons (.lst (.cons (.lst (.cons (.tup (.cons (.int 1) (.cons (.int 2) .nil))) (.cons (.tup (.cons (.int 1) (.cons (.int 2) .nil))) .nil))) (.cons (.lst (.cons (.tup (.cons (.int 0) (.cons (.int 1) .nil))) (.cons (.tup (.cons (.int 1) (.cons (.int 1) .nil))) .nil))) .nil))) .nil)) (.cons (.tup (.cons (.int 3) (.cons (.int 2) .nil))) .nil)))) .nil
theorem fr_nat (n : Nat) : fr (n : Rat) = .tup [.int n, .int 1] := by
  unfold fr
  rw [Rat.num_natCast, Rat.den_natCast]
  rfl
theorem drs_inj {xs ys : List Rat} (e : xs.map dr = ys.map dr) : xs = ys := by
  induction xs generalizing ys with
  | nil => cases ys with
    | nil => rfl
    | cons y ys => cases e
  | cons x xs ih => cases ys with
    | nil => cases e
    | cons y ys =>
      rw [List.map_cons, List.map_cons, List.cons.injEq] at e
      rw [dr_inj.mp e.1, ih e.2]
theorem eqv_rowL (xs ys : List Rat) : PyData.eqv (rowL xs).dat (rowL ys).dat = decide (xs = ys) := by
  rw [D.eqv (nb_rowL xs) (nb_rowL ys)]
  by_cases e : xs = ys
  · subst e
    rw [D.beq_refl, decide_eq_true rfl]
  · rw [decide_eq_false e]
    cases z : D.beq (rowL xs) (rowL ys) with
    | false => rfl
    | true =>
      have y := D.beq_iff.mp z
      unfold rowL at y
      rw [D.lst.injEq] at y
      exact absurd (drs_inj y) e
theorem even_chan {t : Nat} (t0 : 0 < t) (t1 : t ≤ 8) : Chan (List.replicate t (Rat.divInt 1 t)) t := by
  have e : List.replicate t (Rat.divInt 1 t) = (List.replicate t (1 : Int)).map fun w => Rat.divInt w t := by rw [List.map_replicate]
  rw [e]
  refine chan_of (List.length_replicate ..) (fun w hw => ?_) ?_ (by omega) (by omega)
  · rw [(List.mem_replicate.mp hw).2]
    decide
  · have : ∀ n : Nat, (List.replicate n (1 : Int)).sum = n := by
      intro n
      induction n with
      | zero => rfl
      | succ n ih =>
        rw [List.replicate_succ, List.sum_cons, ih]
        omega
    exact this t
theorem even_at {t i : Nat} {a : Rat} (hi : i < t) : chF (List.replicate t a) i = a := by
  unfold chF
  rw [List.getD_eq_getElem?_getD, List.getElem?_replicate, if_pos hi]
  rfl
theorem full_nn {t : Nat} : ∀ r ∈ fullR t, ∀ x ∈ r, (0 : Rat) ≤ x := by
  intro r hr x hx
  obtain ⟨i, _, rfl⟩ := List.mem_map.mp hr
  obtain ⟨j, _, rfl⟩ := List.mem_map.mp hx
  split <;> decide
section
variable {T : Str → Option Fc} {P : Addr}
/-- one just if rows are alike; as many just if no sign is shown by two -/
theorem end39 (hT : Law39Lib T P) {k t s : Nat} {z0 z1 z2 z5 z7 z8 z9 z10 : Option Val} {pl : Addr} {look : List (List Rat)} {g : Hep} {D0 : KD} {E : XE'} (rl : Rd g (tabL look) (.ref pl)) (ll : Looks look t s) (t0 : 0 < t) (t1 : t ≤ 6) (s0 : 0 < s) (s1 : s ≤ 8) (q : ∀ g' z, Sub g g' → D0.nx [z0, z1, z2, some (.ref pl), some (.int t), z5, some (fr (glR look s)), z7, z8, z9, z, none, none, none] g') :
    wSs (Calls T (k + 12)) c_end39 [z0, z1, z2, some (.ref pl), some (.int t), z5, some (fr (glR look s)), z7, z8, z9, z10, none, none, none] g D0 E := by
  obtain ⟨pl', vl, p0, xs0, e, hpl, hat, hp0, lx, rds⟩ := tab_head ll.tab t0 rl
  cases e
  have lv : vl.length = t := by have := rds.length; rw [List.length_map] at this; have := ll.len; omega
  refine opIx_list hpl hat ?_
  refine onJ_ref hp0 ?_
  refine rng_lc (by rw [lx]) (by omega) ?_
  refine lc_gr (pins := []) (h := g) (R := fun j h y => ∃ p, y = .ref p ∧ h p = some (.lst ((shows look t j).map fun i : Nat => .int i))) (fun _ _ _ _ s ⟨p, e, hp⟩ => ⟨p, e, s _ _ hp⟩) (fun _ _ => trivial) (List.range s) [] (fun h' s' j hj K kk => ?_) (Sub.refl g) rfl (fun ys g2 s2 al => ?_)
  · have hj := List.mem_range.mp hj
    refine rng_lc (n := t) rfl (by omega) ?_
    refine lc_fil (p := fun i => decide (lkF look i j ≠ 0)) (g := fun i : Nat => .int i) (pins := []) (h := h') (fun _ _ => trivial) (List.range t) (fun h2 s2 i hi K K' kk kk' => ?_) (Sub.refl h') fun g2 s2 => ?_
    · have hi := List.mem_range.mp hi
      have li : i < look.length := by rw [ll.len]; exact hi
      obtain ⟨v, ev, rv⟩ := rds_at (d := rowL look[i]) (rds.sub (s'.trans s2)) (by rw [List.getElem?_map, List.getElem?_eq_getElem li]; rfl)
      obtain ⟨pr, rfl, hpr⟩ := rowL_out rv
      have lr := (ll.ch _ (List.getElem_mem li)).len
      have er : lkF look i j = look[i].getD j 0 := by
        unfold lkF
        rw [List.getD_eq_getElem?_getD (l := look), List.getElem?_eq_getElem li]
        rfl
      have ej : (look[i])[j]? = some (lkF look i j) := by
        rw [er, List.getD_eq_getElem?_getD, List.getElem?_eq_getElem (by omega)]
        rfl
      refine opIx_list ((s'.trans s2) _ _ hpl) (v := .ref pr) (atI_nat ev) ?_
      refine opIx_list hpr (v := fr (lkF look i j)) (atI_nat (by rw [List.getElem?_map, ej]; rfl)) ?_
      show onD h2 (fr (lkF look i j)) fun m => onD h2 (fr 0) fun n => _
      refine on_fr ?_
      rw [eqv_fr]
      by_cases z : lkF look i j = 0
      · refine ifF (by rw [decide_eq_true z]; rfl) ?_
        exact kk' (by show decide (lkF look i j ≠ 0) = false; rw [z]; rfl) _ (Sub.refl _)
      · refine ifT (by rw [decide_eq_false z]; rfl) ?_
        exact kk (decide_eq_true z) _ (Sub.refl _)
    · refine newL_in fun p np => ?_
      exact kk _ _ (s2.trans ((Sub.refl g2).new np)) ⟨p, rfl, hset_same⟩
  · refine newL_in fun pr npr => ?_
    have s3 := s2.trans ((Sub.refl g2).new (o := .lst ys) npr)
    have sr := (Sub.refl g2).new (o := .lst ys) npr
    have hpr : (hset g2 pr (.lst ys)) pr = _ := hset_same
    generalize hset g2 pr (.lst ys) = g3 at *
    have ly : ys.length = s := by
      have := AllH.len al
      rw [List.nil_append, List.length_range] at this
      omega
    show onD g3 (fr (glR look s)) fun m => onD g3 (fr 1) fun n => _
    refine on_fr ?_
    rw [eqv_fr]
    have hpl3 := s3 _ _ hpl
    refine src_refI hpl3 ?_
    refine ⟨show vl.length < 1000000 by omega, ?_⟩
    have h0 : 0 < look.length := by rw [ll.len]; exact t0
    obtain ⟨v0, ev0, rv0⟩ := rds_at (d := rowL look[0]) (rds.sub s3) (by rw [List.getElem?_map, List.getElem?_eq_getElem h0]; rfl)
    refine lc_rel0 (pins := [(pl, vl)]) (P := fun v y => ∃ r ∈ look, Rd g3 (rowL r) v ∧ y = .bl (decide (r = look[0]))) ⟨hpl3, trivial⟩ (fun v y ⟨r, hr, r1, e1⟩ K kk => ?_) (all2_rows (rds.sub s3)) ?_
    rotate_left
    · subst e1
      refine opIx_list hpl3 (v := v0) (atI_nat (j := 0) ev0) ?_
      obtain ⟨pr1, rfl, hpr1⟩ := rowL_out r1
      obtain ⟨pr2, rfl, hpr2⟩ := rowL_out rv0
      refine on2 (a := rowL r) (b := rowL look[0]) r1 rv0 (nb_rowL _) (nb_rowL _) (by have := dep_rowL r; omega) (by have := dep_rowL look[0]; omega) ?_
      rw [eqv_rowL]
      exact kk
    · refine newL_in fun p4 np4 => ?_
      have s4 := s3.trans ((Sub.refl g3).new (o := .lst (look.map fun r => .bl (decide (r = look[0])))) np4)
      have s34 := (Sub.refl g3).new (o := .lst (look.map fun r => .bl (decide (r = look[0])))) np4
      have hp4 : (hset g3 p4 (.lst (look.map fun r => .bl (decide (r = look[0]))))) p4 = _ := hset_same
      generalize hset g3 p4 (.lst (look.map fun r => .bl (decide (r = look[0])))) = g4 at *
      refine onB_in (bs := look.map fun r => decide (r = look[0])) (by rw [hp4, List.map_map]; rfl) ?_
      have e0 : look.getD 0 [] = look[0] := by rw [List.getD_eq_getElem?_getD, List.getElem?_eq_getElem h0]; rfl
      have iff1 := gl_one ll t0
      rw [e0] at iff1
      have b1 : decide (glR look s = 1) = (look.map fun r => decide (r = look[0])).all id := by
        rw [List.all_map]
        by_cases z : glR look s = 1
        · rw [decide_eq_true z]
          symm
          rw [List.all_eq_true]
          exact fun r hr => decide_eq_true (iff1.mp z r hr)
        · rw [decide_eq_false z]
          symm
          rw [Bool.eq_false_iff]
          intro y
          rw [List.all_eq_true] at y
          exact z (iff1.mpr fun r hr => of_decide_eq_true (y r hr))
      refine ifF (by rw [b1]; simp) ?_
      show onD g4 (fr (glR look s)) fun m => onD g4 (.tup [.int t, .int 1]) fun n => _
      rw [← fr_nat]
      refine on_fr ?_
      rw [eqv_fr]
      have hpr4 := s34 _ _ hpr
      refine src_refI hpr4 ?_
      refine ⟨show ys.length < 1000000 by omega, ?_⟩
      have all2 : ∀ {js : List Nat} {ys : List Val}, AllH (fun j h y => ∃ p, y = .ref p ∧ h p = some (.lst ((shows look t j).map fun i : Nat => Val.int i))) g2 js ys → All2 (fun v y => ∃ j, (∃ p, v = .ref p ∧ g4 p = some (.lst ((shows look t j).map fun i : Nat => Val.int i))) ∧ y = .bl (decide ((shows look t j).length < 2))) ys (js.map fun j => .bl (decide ((shows look t j).length < 2))) := by
        intro js
        induction js with
        | nil => intro ys e; rw [show ys = [] from e]; exact .nil
        | cons j js ih =>
          intro ys ⟨y, r, e, ⟨p, e1, hp⟩, b⟩
          subst e
          exact .cons ⟨j, ⟨p, e1, s34 _ _ (sr _ _ hp)⟩, rfl⟩ (ih b)
      refine lc_rel0 (pins := [(pr, ys)]) (P := fun v y => ∃ j, (∃ p, v = .ref p ∧ g4 p = some (.lst ((shows look t j).map fun i : Nat => Val.int i))) ∧ y = .bl (decide ((shows look t j).length < 2))) ⟨hpr4, trivial⟩ (fun v y ⟨j, ⟨p, e1, hp⟩, e2⟩ K kk => ?_) (all2 (by rw [List.nil_append] at al; exact al)) ?_
      · subst e1 e2
        refine onJ_ref hp ?_
        rw [List.length_map]
        have el : decide (((shows look t j).length : Int) < 2) = decide ((shows look t j).length < 2) := by
          rw [decide_eq_decide]
          omega
        show K (.bl (decide (((shows look t j).length : Int) < 2))) g4
        rw [el]
        exact kk
      · refine newL_in fun p5 np5 => ?_
        have s5 := s4.trans ((Sub.refl g4).new (o := .lst ((List.range s).map fun j => .bl (decide ((shows look t j).length < 2)))) np5)
        have hp5 : (hset g4 p5 (.lst ((List.range s).map fun j => .bl (decide ((shows look t j).length < 2))))) p5 = _ := hset_same
        generalize hset g4 p5 (.lst ((List.range s).map fun j => .bl (decide ((shows look t j).length < 2)))) = g5 at *
        refine onB_in (bs := (List.range s).map fun j => decide ((shows look t j).length < 2)) (by rw [hp5, List.map_map]; rfl) ?_
        have iff2 := gl_all ll t0
        have b2 : decide (glR look s = (t : Rat)) = ((List.range s).map fun j => decide ((shows look t j).length < 2)).all id := by
          rw [List.all_map]
          by_cases z : glR look s = (t : Rat)
          · rw [decide_eq_true z]
            symm
            rw [List.all_eq_true]
            exact fun j hj => decide_eq_true (iff2.mp z j (List.mem_range.mp hj))
          · rw [decide_eq_false z]
            symm
            rw [Bool.eq_false_iff]
            intro y
            rw [List.all_eq_true] at y
            exact z (iff2.mpr fun j hj => of_decide_eq_true (y j (List.mem_range.mpr hj)))
        refine ifF (by rw [b2]; simp) ?_
        exact q g5 _ s5
theorem lfullS (hT : LWorthLib T) {k n b : Nat} {i : Int} {a : Addr} {h g : Hep} {Q : VQ} {E : XQ} (st : St a h b g) (ei : i = n) (hn : n < 1000000) (q : ∀ v h' g', Sub h h' → St a h' b g' → Rd h' (tabL (fullR n)) v → Q v g') : Calls T (k + 1) "_law_w_full" [.int i] g Q E := by
  refine Calls_eq [some (.int i), none, none] hT.fu rfl rfl ?_
  refine rng_lc ei hn ?_
  refine lc_st (pins := []) (h := h) (a := a) (b := b) (c := 0) (R := fun j h y => Rd h (rowL ((List.range n).map fun s => if s = j then (1 : Rat) else 0)) y) (fun _ _ _ _ s r => r.sub s) (fun _ _ => trivial) (List.range n) [] (fun h' g' b' s' st' j hj K kk => ?_) (Sub.refl h) (st.le (by omega)) rfl (fun ys h2 g2 s2 st2 al => ?_)
  · refine rng_lc ei hn ?_
    refine full_lc ?_
    refine St.newL st' fun p h3 g3 sh3 sg3 st3 hp np => ?_
    exact kk _ _ _ sh3 st3 (rowL_in hp)
  · refine St.newL st2 fun p h3 g3 sh3 sg3 st3 hp np => ?_
    refine Dr.here (q _ _ _ (s2.trans sh3) st3 ⟨p, ys, rfl, hp, ?_⟩)
    have key : ∀ {js : List Nat} {ys : List Val} {h : Hep}, AllH (fun j h y => Rd h (rowL ((List.range n).map fun s => if s = j then (1 : Rat) else 0)) y) h js ys → Rds h (((js.map fun t => (List.range n).map fun s => if s = t then (1 : Rat) else 0)).map rowL) ys := by
      intro js
      induction js with
      | nil => intro ys h e; exact e
      | cons j js ih =>
        intro ys h ⟨y, r, e, a, b⟩
        exact ⟨y, r, e, a, ih b⟩
    exact (key al).sub sh3
theorem mid39 (hT : Law39Lib T P) {k t s : Nat} {a : Addr} {b : Nat} {z0 z2 z5 z6 z7 z8 z9 z10 : Option Val} {pl : Addr} {look : List (List Rat)} {h g : Hep} {D0 : KD} {E : XE'} (st : St a h (b + 60) g) (rl : Rd h (tabL look) (.ref pl)) (ll : Looks look t s) (t0 : 0 < t) (t1 : t ≤ 6) (s0 : 0 < s) (s1 : s ≤ 8)
    (q : ∀ h' g' z5 z6 z7 z8 z9 z10, Sub h h' → St a h' b g' → D0.nx [z0, some (.ref a), z2, some (.ref pl), some (.int t), z5, z6, z7, z8, z9, z10, none, none, none] g') :
    wSs (Calls T (k + 12)) c_mid39 [z0, some (.ref a), z2, some (.ref pl), some (.int t), z5, z6, z7, z8, z9, z10, none, none, none] g D0 E := by
  have rg := rl.sub st.sub
  have ch : ∀ r ∈ look, chanOf r = some r := fun r hr => (ll.ch r hr).of
  refine lmost_ok hT.lw.toLSumLib hT.lw.un hT.lw.gr hT.cl hT.ms (k := k + 8) (n := 8) rg ll.tab t0 (by omega) (by decide) (by decide) (by omega) fun g1 s1' => ?_
  obtain ⟨h1, st1, sh1⟩ := st.more s1'
  refine St.newL st1 fun p1 h2 g2 sh2 sg2 st2 hp1 np1 => ?_
  refine mul_one_list (m := t) (st2.sub _ _ hp1) (by omega) ?_
  refine St.newL st2 fun pe h3 g3 sh3 sg3 st3 hpe npe => ?_
  refine lfullS hT.lw (k := k + 11) (n := t) st3 rfl (by omega) fun vf h4 g4 sh4 st4 rf => ?_
  have sh14 := sh1.trans (sh2.trans (sh3.trans sh4))
  have ct := cnt_tabL ll.tab
  have m1 := Nat.mul_le_mul t1 (show s + 1 ≤ 9 by omega)
  have wl := wid_tabL ll.tab
  have dl' := dep_tabL look
  refine looseS hT.cs.dw hT.lo (n := k + 12) (b := b) (st4.le (by rw [ct]; omega)) (by omega) (by omega) (rl.sub sh14) fun v5 d5 h5 g5 sh5 st5 rd5 et5 => ?_
  rw [tabL_tp] at et5
  refine gleak_ok hT.lk (k := k + 4) (n := 8) (rd5.sub st5.sub) et5 ll.tab ch t0 (by decide) (by decide) (by omega) (by omega) ?_
  have rl5 := (rl.sub (sh14.trans sh5)).sub st5.sub
  refine lcopied_ok hT.co (k + 12) (tabL look) (.ref pl) g5 _ _ (by omega) (by omega) (nd_tabL look) rl5 fun u6 g6 s6 r6 => ?_
  refine gleak_ok hT.lk (k := k + 4) (n := 8) r6 (tabL_tp look) ll.tab ch t0 (by decide) (by decide) (by omega) (by omega) ?_
  -- even chances, the full wish: st4's view holds what g4 shows of them
  have hpe4 : h4 pe = some (.lst ((List.replicate t (Rat.divInt 1 t)).map fr)) := by
    rw [sh4 _ _ hpe, List.map_replicate, fr_unit t0]
  have s46 : Sub h4 g6 := (sh5.trans st5.sub).trans s6
  have re : Rd g6 (rowL (List.replicate t (Rat.divInt 1 t))) (.ref pe) := rowL_in (s46 _ _ hpe4)
  have rf6 := rf.sub s46
  have hc := even_chan t0 (by omega)
  have ask : Asked g6 (.ref pe) vf (.ref pl) (List.replicate t (Rat.divInt 1 t)) (fullR t) look 8 8 8 t s t :=
    ⟨⟨_, re, rowL_tp _⟩, ⟨_, rf6, tabL_tp _⟩, ⟨_, rl5.sub s6, tabL_tp _⟩, hc.of, hc.bd, hc.len, full_tab t, ll.tab, ch, t0, t0, by decide, by decide, by decide⟩
  have a0 : (0 : Rat) < Rat.divInt 1 t := by
    rw [Rat.divInt_eq_div]
    have z : (0 : Rat) < (t : Rat) := by
      have : ((0 : Nat) : Rat) < (t : Rat) := Rat.natCast_lt_natCast.mpr t0
      simpa using this
    have w := Rat.inv_pos.mpr z
    rw [Rat.div_def, Rat.intCast_natCast]
    simpa using w
  have ah : maxR (deedR (fullR t) (List.replicate t (Rat.divInt 1 t))) = Rat.divInt 1 t := even_ahead hc.len t0 fun i hi => even_at hi
  have wo : worthR (List.replicate t (Rat.divInt 1 t)) (fullR t) look s = Rat.divInt 1 t * glR look s := even_worth hc.len (by grind) ll.tab t0 fun i hi => even_at hi
  have big : 1 + (1 + (8 + 8 + 1 + 8 + 3) * t + 2) * s ≤ 3900 := by
    have := Nat.mul_le_mul (show 1 + (8 + 8 + 1 + 8 + 3) * t + 2 ≤ 171 by omega) s1
    omega
  refine leak_ok hT.lk (k := k + 2) ask full_nn (by decide) (by omega) big (by omega) (fun z => ?_) (fun z => ?_)
  rotate_left
  · rw [ah] at z
    rw [z] at a0
    exact absurd a0 (by decide)
  rw [ah, wo, show Rat.divInt 1 t * glR look s / Rat.divInt 1 t = glR look s by
    rw [Rat.div_def, Rat.mul_comm (Rat.divInt 1 t), Rat.mul_assoc, Rat.mul_inv_cancel _ (by grind), Rat.mul_one]]
  refine newL_in fun p7 np7 => ?_
  have s7 := (Sub.refl g6).new (o := .lst [fr (glR look s), fr (glR look s), fr (glR look s)]) np7
  have hp7 : (hset g6 p7 (.lst [fr (glR look s), fr (glR look s), fr (glR look s)])) p7 = _ := hset_same
  generalize hset g6 p7 (.lst [fr (glR look s), fr (glR look s), fr (glR look s)]) = g7 at *
  refine newL_in fun p8 np8 => ?_
  have s8 := (Sub.refl g7).new (o := .lst [fr (glR look s)]) np8
  have hp8 : (hset g7 p8 (.lst [fr (glR look s)])) p8 = _ := hset_same
  generalize hset g7 p8 (.lst [fr (glR look s)]) = g8 at *
  refine onL_in hp8 ⟨by decide, by decide, by show (1 * 3 : Nat) < 1000000; decide, ?_⟩
  refine newL_in fun p9 np9 => ?_
  have s9 := (Sub.refl g8).new (o := .lst [fr (glR look s), fr (glR look s), fr (glR look s)]) np9
  have hp9 : (hset g8 p9 (.lst [fr (glR look s), fr (glR look s), fr (glR look s)])) p9 = some (.lst [fr (glR look s), fr (glR look s), fr (glR look s)]) := hset_same
  have el : (List.replicate (3 : Int).toNat [fr (glR look s)]).flatten = [fr (glR look s), fr (glR look s), fr (glR look s)] := rfl
  rw [el]
  generalize hset g8 p9 (.lst [fr (glR look s), fr (glR look s), fr (glR look s)]) = g9 at *
  refine same2 hT.sa (n := k + 12) (d := .lst [dr (glR look s), dr (glR look s), dr (glR look s)]) (by show D.dep (.lst [.tup [.int _, .int _], .tup [.int _, .int _], .tup [.int _, .int _]]) < _; simp [D.dep, D.deps]) (by show D.wid (.lst [.tup [.int _, .int _], .tup [.int _, .int _], .tup [.int _, .int _]]) < _; simp [D.wid, D.wids])
    ⟨p7, _, rfl, (s8.trans s9) _ _ hp7, Rds.cons (rd_fr _ _) (Rds.cons (rd_fr _ _) (Rds.cons (rd_fr _ _) rfl))⟩ ⟨p9, _, rfl, hp9, Rds.cons (rd_fr _ _) (Rds.cons (rd_fr _ _) (Rds.cons (rd_fr _ _) rfl))⟩ ?_
  have s59 := s6.trans (s7.trans (s8.trans s9))
  refine end39 hT (k := k) (rl5.sub s59) ll t0 t1 s0 s1 fun g10 z s10 => ?_
  obtain ⟨h10, st10, sh10⟩ := st5.more (s59.trans s10)
  exact q h10 g10 _ _ _ _ _ _ (sh14.trans (sh5.trans sh10)) st10
/-- three times chances and wishes -/
theorem in39 (hT : Law39Lib T P) {k t s : Nat} {a : Addr} {pl : Addr} {look : List (List Rat)} {z0 z2 z6 z7 z8 z9 z10 : Option Val} {D0 : KD} {E : XE'} (ll : Looks look t s) (t0 : 0 < t) (t1 : t ≤ 6) (s0 : 0 < s) (s1 : s ≤ 8) {b : Nat} : ∀ (ws : List Val) {h g : Hep} {z5 : Option Val}, St a h (b + 460 * ws.length) g → h P = some (.tab "_law_leak_right.<locals>.<lambda>") → Rd h (tabL look) (.ref pl) →
    (∀ h' g' z5, Sub h h' → St a h' b g' → D0.nx [z0, some (.ref a), z2, some (.ref pl), some (.int t), z5, z6, z7, z8, z9, z10, none, none, none] g') →
    forW (wSs (Calls T (k + 12)) c_in39) (bindT (.nm 5)) [] D0 E ws [z0, some (.ref a), z2, some (.ref pl), some (.int t), z5, z6, z7, z8, z9, z10, none, none, none] g
  | [], h, g, z5, st, hP, rl, q => ⟨trivial, q h g z5 (Sub.refl h) st⟩
  | x :: ws, h, g, z5, st, hP, rl, q => by
    refine ⟨trivial, ?_⟩
    have st' : St a h ((b + 460 * ws.length) + 460) g := st.le (by rw [List.length_cons]; omega)
    refine lchances_ok hT.cs.toDrawLib (k := k + 9) (b := (b + 460 * ws.length) + 440) (many := t) rfl t0 (by omega) (by decide) (by decide) st' fun c vc h1 g1 sh1 st1 hc _ rc => ?_
    refine drawS hT.cs.dw (k := k + 11) (b := (b + 460 * ws.length) + 439) st1 (by decide) (by decide) fun d g2 st2 d0 d1 => ?_
    refine lgood_ok hT.cs hT.gw (k := k + 7) (b := (b + 460 * ws.length) + 300) (things := t) (deeds := (1 + d).toNat) rfl (by omega) (by omega) (by omega) (st2.le (by omega)) fun wish vw h3 g3 sh3 st3 lw nn rw' => ?_
    refine leak_right_ok hT (k := k) (b := b + 460 * ws.length) st3 (sh3 _ _ (sh1 _ _ hP)) (rc.sub sh3) rw' (rl.sub (sh1.trans sh3)) hc lw nn ll t0 t1 s0 s1 (by omega) (by omega) fun h4 g4 sh4 st4 => ?_
    have s14 := sh1.trans (sh3.trans sh4)
    exact in39 hT ll t0 t1 s0 s1 ws st4 (s14 _ _ hP) (rl.sub s14) fun h' g' z5 s' => q h' g' z5 (s14.trans s')
theorem turn39 (hT : Law39Lib T P) {k : Nat} {a : Addr} {b : Nat} {z0 z2 z3 z4 z5 z6 z7 z8 z9 z10 : Option Val} {h g : Hep} {D0 : KD} {E : XE'} (st : St a h (b + 1700) g) (hP : h P = some (.tab "_law_leak_right.<locals>.<lambda>"))
    (q : ∀ h' g' z3 z4 z5 z6 z7 z8 z9 z10, Sub h h' → St a h' b g' → D0.nx [z0, some (.ref a), z2, z3, z4, z5, z6, z7, z8, z9, z10, none, none, none] g') :
    wSs (Calls T (k + 12)) c_turn39 [z0, some (.ref a), z2, z3, z4, z5, z6, z7, z8, z9, z10, none, none, none] g D0 E := by
  refine lsized_ok hT.cs (k := k + 7) (b := b + 1498) (mt := 6) (ms := 8) rfl rfl (by decide) (by decide) (by decide) (by decide) st fun t s look v h1 g1 t0 t1 s0 s1 sh1 st1 ll rl => ?_
  obtain ⟨pl, vl, rfl, hpl, rds⟩ := tabL_out rl
  have lv : vl.length = t := by have := rds.length; rw [List.length_map] at this; have := ll.len; omega
  refine onJ_ref (st1.sub _ _ hpl) ?_
  rw [lv]
  refine ⟨⟨by decide, by decide⟩, ?_⟩
  refine in39 hT (k := k) (b := b + 60) ll t0 t1 s0 s1 (rngV 0 3) (st1.le (by show b + 60 + 460 * 3 ≤ _; omega)) (sh1 _ _ hP) rl fun h2 g2 z5 sh2 st2 => ?_
  refine mid39 hT (k := k) (b := b) st2 (rl.sub sh2) ll t0 t1 s0 s1 fun h3 g3 z5 z6 z7 z8 z9 z10 sh3 st3 => ?_
  exact q h3 g3 _ _ _ _ _ _ _ _ (sh1.trans (sh2.trans sh3)) st3
theorem loop39 (hT : Law39Lib T P) {k : Nat} {a : Addr} {b : Nat} {z0 : Option Val} {D0 : KD} {E : XE'} : ∀ (ws : List Val) {h g : Hep} {z2 z3 z4 z5 z6 z7 z8 z9 z10 : Option Val}, St a h (b + 1700 * ws.length) g → h P = some (.tab "_law_leak_right.<locals>.<lambda>") →
    (∀ g' z2 z3 z4 z5 z6 z7 z8 z9 z10, D0.nx [z0, some (.ref a), z2, z3, z4, z5, z6, z7, z8, z9, z10, none, none, none] g') →
    forW (wSs (Calls T (k + 12)) c_turn39) (bindT (.nm 2)) [] D0 E ws [z0, some (.ref a), z2, z3, z4, z5, z6, z7, z8, z9, z10, none, none, none] g
  | [], h, g, z2, z3, z4, z5, z6, z7, z8, z9, z10, st, hP, q => ⟨trivial, q g z2 z3 z4 z5 z6 z7 z8 z9 z10⟩
  | x :: ws, h, g, z2, z3, z4, z5, z6, z7, z8, z9, z10, st, hP, q => by
    refine ⟨trivial, ?_⟩
    refine turn39 hT (b := b + 1700 * ws.length) (st.le (by rw [List.length_cons]; omega)) hP fun h1 g1 z3 z4 z5 z6 z7 z8 z9 z10 s1 st1 => ?_
    exact loop39 hT ws st1 (s1 _ _ hP) q
theorem last39 (hT : Law39Lib T P) {k : Nat} {z0 z1 z2 z3 z4 z5 z6 z7 z8 z9 z10 : Option Val} {g : Hep} {D0 : KD} {E : XE'} (q : ∀ g', Sub g g' → D0.rt (.bl true) g') : wSs (Calls T (k + 12)) c_last39 [z0, z1, z2, z3, z4, z5, z6, z7, z8, z9, z10, none, none, none] g D0 E := by
  refine newL_in fun p1 np1 => ?_
  have s1 := (Sub.refl g).new (o := .lst [.tup [.int 1, .int 2], .tup [.int 1, .int 2]]) np1
  have hp1 : (hset g p1 (.lst [.tup [.int 1, .int 2], .tup [.int 1, .int 2]])) p1 = _ := hset_same
  generalize hset g p1 (.lst [.tup [.int 1, .int 2], .tup [.int 1, .int 2]]) = g1 at *
  refine newL_in fun p2 np2 => ?_
  have s2 := (Sub.refl g1).new (o := .lst [.tup [.int 0, .int 1], .tup [.int 1, .int 1]]) np2
  have hp2 : (hset g1 p2 (.lst [.tup [.int 0, .int 1], .tup [.int 1, .int 1]])) p2 = _ := hset_same
  generalize hset g1 p2 (.lst [.tup [.int 0, .int 1], .tup [.int 1, .int 1]]) = g2 at *
  refine newL_in fun p3 np3 => ?_
  have s3 := (Sub.refl g2).new (o := .lst [.ref p1, .ref p2]) np3
  have hp3 : (hset g2 p3 (.lst [.ref p1, .ref p2])) p3 = _ := hset_same
  generalize hset g2 p3 (.lst [.ref p1, .ref p2]) = g3 at *
  have hh : fr (1 / 2) = .tup [.int 1, .int 2] := by
    unfold fr
    rw [show ((1 / 2 : Rat)).num = 1 by decide +kernel, show ((1 / 2 : Rat)).den = 2 by decide +kernel]
    rfl
  have h0 : fr 0 = .tup [.int 0, .int 1] := rfl
  have h1 : fr 1 = .tup [.int 1, .int 1] := rfl
  have rd : Rd g3 (tabL [[1 / 2, 1 / 2], [0, 1]]) (.ref p3) := ⟨p3, _, rfl, hp3, Rds.cons (rowL_in (by rw [List.map_cons, List.map_cons, List.map_nil, hh]; exact (s2.trans s3) _ _ hp1)) (Rds.cons (rowL_in (s3 _ _ hp2)) rfl)⟩
  have tb : Tab 2 2 2 [[1 / 2, 1 / 2], [0, 1]] := ⟨rfl, by decide, by
    intro r hr x hx
    simp only [List.mem_cons, List.not_mem_nil, or_false] at hr
    rcases hr with rfl | rfl
    · simp only [List.mem_cons, List.not_mem_nil, or_false, or_self] at hx
      subst hx
      exact ⟨by decide +kernel, by decide +kernel⟩
    · simp only [List.mem_cons, List.not_mem_nil, or_false] at hx
      rcases hx with rfl | rfl <;> exact ⟨by decide +kernel, by decide +kernel⟩⟩
  refine gleak_ok hT.lk (k := k + 4) (n := 2) rd (tabL_tp _) tb (by decide +kernel) (by decide) (by decide) (by decide) (by decide) (by decide) ?_
  have e : glR [[1 / 2, 1 / 2], [0, 1]] 2 = 3 / 2 := by decide +kernel
  rw [e]
  refine same2 hT.sa (n := k + 12) (d := dr (3 / 2)) (by show 1 < _; omega) (by show (2 : Nat) < _; decide) (rd_fr _ _) (by
    have e2 : fr (3 / 2) = .tup [.int 3, .int 2] := by
      unfold fr
      rw [show ((3 / 2 : Rat)).num = 3 by decide +kernel, show ((3 / 2 : Rat)).den = 2 by decide +kernel]
      rfl
    exact e2 ▸ rd_fr _ _) ?_
  exact q g3 (s1.trans (s2.trans s3))
theorem law39_ok (hT : Law39Lib T P) (hS : T "_law_stream" = some ⟨1, 1, c__law_stream⟩) (hL : T "law" = some ⟨1, 14, c_law39⟩) {h0 : Hep} {v : Val} (ns : List Int) (hP : h0 P = some (.tab "_law_leak_right.<locals>.<lambda>")) (hv : v = .rom (ns.map Val.int) ∨ ∃ a, v = .ref a ∧ h0 a = some (.lst (ns.map Val.int))) (h : ns.length ≤ 63) :
    Calls T 200 "law" [v] h0 (fun v _ => v = .bl true) (fun _ _ => False) := by
  refine Calls_eq (k := 199) [some v, none, none, none, none, none, none, none, none, none, none, none, none, none] hL rfl rfl ?_
  refine stream_okV hS (k := 198) hv h fun a g st => ?_
  refine ⟨⟨by decide, by decide⟩, ?_⟩
  refine loop39 hT (k := 187) (b := 0) (rngV 0 7) (st.le (by decide)) hP fun g1 z2 z3 z4 z5 z6 z7 z8 z9 z10 => ?_
  have z := last39 hT (k := 187) (D0 := { nx := fun _ h1 => Dr h1 fun _ => False, rt := fun v h1 => Dr h1 fun _ => v = .bl true, bk := fun _ _ => False, ct := fun _ _ => False }) (E := fun x _ h1 => Dr h1 fun _ => False) (z0 := some v) (z1 := some (.ref a)) (z2 := z2) (z3 := z3) (z4 := z4) (z5 := z5) (z6 := z6) (z7 := z7) (z8 := z8) (z9 := z9) (z10 := z10) (g := g1) fun g' _ => Dr.here rfl
  exact z
end
end KM
namespace KM.L
open PySem PySem.Spec PyProof.Rows L2 KM
def topS (i : Nat) : Stmt := PySem.Challenge.pw_knowsmore_k39_whole_how_much_leaks.main.body.getD i (.Pass ⟨0, 0, 0, 0⟩)
def kcs : List KC := [⟨"leak", ["look", "wishes", "chances"], [2, 1, 0]⟩, ⟨"greatest_leak", ["look"], [0]⟩]
def cons : List Cn := [("NoWorth", [.ty "error"]), ("NOUGHT", [.int 0, .int 1]), ("ONE", [.int 1, .int 1])]
def errs : List ErrE := []
theorem errs_ok : AllP (fun p : Cn => ∀ f, isErr p.2 = some f → ∃ e ∈ errs, e.cn = p.1 ∧ e.fl = f ∧ ErrSh e) cons := ⟨fun f h => (by cases h), fun f h => (by cases h), fun f h => (by cases h), trivial⟩
def mets : List (Str × List Hd) := [("_law_met", [("NoWorth", "none", none)])]
def lams : List Lam := []
def lnames : List (Nat × Nat × Str) := []
def lfs : List LEnt := []
def c_is_list : Sxs := .cons (.ret (.bi .isi (.cons (.var 0) (.cons (.tup (.cons (.ty "list") (.cons (.ty "tuple") .nil))) .nil)))) .nil
def c_is_whole : Sxs := .cons (.ret (.and (.bi .isi (.cons (.var 0) (.cons (.ty "int") .nil))) (.not (.bi .isi (.cons (.var 0) (.cons (.ty "bool") .nil)))))) .nil
def c_is_row : Sxs := .cons (.ret (.and (.call "is_list" (.cons (.var 0) .nil)) (.cmp .Eq (.bi .len (.cons (.var 0) .nil)) (.var 1)))) .nil
def c_common_divisor : Sxs := .cons (.par [0, 1] (.cons (.bi .abs (.cons (.var 0) .nil)) (.cons (.bi .abs (.cons (.var 1) .nil)) .nil))) (.cons (.whil (.var 1) (.cons (.par [0, 1] (.cons (.var 1) (.cons (.bin .Mod (.var 0) (.var 1)) .nil))) .nil)) (.cons (.ret (.var 0)) .nil))
def c_reduced : Sxs := .cons (.asg (.nm 2) (.call "common_divisor" (.cons (.var 0) (.cons (.var 1) .nil)))) (.cons (.ife (.cmp .Lt (.var 1) (.int 0)) (.cons (.asg (.nm 2) (.neg (.var 2))) .nil) .nil) (.cons (.ret (.tup (.cons (.bin .FloorDiv (.var 0) (.var 2)) (.cons (.bin .FloorDiv (.var 1) (.var 2)) .nil)))) .nil))
def c_plus : Sxs := .cons (.ret (.call "reduced" (.cons (.bin .Add (.bin .Mult (.ix (.var 0) (.int 0)) (.ix (.var 1) (.int 1))) (.bin .Mult (.ix (.var 1) (.int 0)) (.ix (.var 0) (.int 1)))) (.cons (.bin .Mult (.ix (.var 0) (.int 1)) (.ix (.var 1) (.int 1))) .nil)))) .nil
def c_times : Sxs := .cons (.ret (.call "reduced" (.cons (.bin .Mult (.ix (.var 0) (.int 0)) (.ix (.var 1) (.int 0))) (.cons (.bin .Mult (.ix (.var 0) (.int 1)) (.ix (.var 1) (.int 1))) .nil)))) .nil
def c_over : Sxs := .cons (.ret (.call "reduced" (.cons (.bin .Mult (.ix (.var 0) (.int 0)) (.ix (.var 1) (.int 1))) (.cons (.bin .Mult (.ix (.var 0) (.int 1)) (.ix (.var 1) (.int 0))) .nil)))) .nil
def c_is_under : Sxs := .cons (.ret (.cmp .Lt (.bin .Mult (.ix (.var 0) (.int 0)) (.ix (.var 1) (.int 1))) (.bin .Mult (.ix (.var 1) (.int 0)) (.ix (.var 0) (.int 1))))) .nil
def c_total : Sxs := .cons (.asg (.nm 1) (.con (.tup [.int 0, .int 1]))) (.cons (.forr (.nm 2) (.seq (.var 0)) (.cons (.asg (.nm 1) (.call "plus" (.cons (.var 1) (.cons (.var 2) .nil)))) .nil)) (.cons (.ret (.var 1)) .nil))
def c_dot : Sxs := .cons (.ret (.call "total" (.cons (.lc (.call "times" (.cons (.var 2) (.cons (.var 3) .nil))) (.tc (.nm 2) (.tc (.nm 3) .tn)) (.zip (.var 0) (.var 1)) .nil [2, 3]) .nil))) .nil
def c_greatest : Sxs := .cons (.asg (.nm 1) (.ix (.var 0) (.int 0))) (.cons (.forr (.nm 2) (.seq (.var 0)) (.cons (.asg (.nm 1) (.ife (.call "is_under" (.cons (.var 1) (.cons (.var 2) .nil))) (.var 2) (.var 1))) .nil)) (.cons (.ret (.var 1)) .nil))
def c_kept_fraction : Sxs := .cons (.ife (.or (.not (.call "is_row" (.cons (.var 0) (.cons (.int 2) .nil)))) (.or (.not (.call "is_whole" (.cons (.ix (.var 0) (.int 0)) .nil))) (.not (.call "is_whole" (.cons (.ix (.var 0) (.int 1)) .nil))))) (.cons (.ret .non) .nil) .nil) (.cons (.ife (.or (.cmp .Lt (.ix (.var 0) (.int 1)) (.int 1)) (.cmp .NotEq (.call "common_divisor" (.cons (.ix (.var 0) (.int 0)) (.cons (.ix (.var 0) (.int 1)) .nil))) (.int 1))) (.cons (.ret .non) .nil) .nil) (.cons (.ret (.tup (.cons (.ix (.var 0) (.int 0)) (.cons (.ix (.var 0) (.int 1)) .nil)))) .nil))
def c_kept_row : Sxs := .cons (.ife (.not (.call "is_list" (.cons (.var 0) .nil))) (.cons (.ret .non) .nil) .nil) (.cons (.asg (.nm 1) (.lc (.call "kept_fraction" (.cons (.var 2) .nil)) (.nm 2) (.seq (.var 0)) .nil [2])) (.cons (.ret (.ife (.cmp .In .non (.var 1)) .non (.bi .tuple (.cons (.var 1) .nil)))) .nil))
def c_kept_chances : Sxs := .cons (.asg (.nm 1) (.call "kept_row" (.cons (.var 0) .nil))) (.cons (.ife (.or (.cmp .Is (.var 1) .non) (.bi .any (.cons (.lc (.cmp .Lt (.ix (.var 2) (.int 0)) (.int 0)) (.nm 2) (.seq (.var 1)) .nil [2]) .nil))) (.cons (.ret .non) .nil) .nil) (.cons (.ret (.ife (.cmp .Eq (.call "total" (.cons (.var 1) .nil)) (.con (.tup [.int 1, .int 1]))) (.var 1) .non)) .nil))
def c_kept_look : Sxs := .cons (.ife (.or (.not (.call "is_list" (.cons (.var 0) .nil))) (.cmp .Eq (.bi .len (.cons (.var 0) .nil)) (.int 0))) (.cons (.ret .non) .nil) .nil) (.cons (.asg (.nm 1) (.lc (.call "kept_chances" (.cons (.var 2) .nil)) (.nm 2) (.seq (.var 0)) .nil [2])) (.cons (.ife (.or (.cmp .In .non (.var 1)) (.not (.bi .all (.cons (.lc (.cmp .Eq (.bi .len (.cons (.var 2) .nil)) (.bi .len (.cons (.ix (.var 1) (.int 0)) .nil))) (.nm 2) (.seq (.var 1)) .nil [2]) .nil)))) (.cons (.ret .non) .nil) .nil) (.cons (.ret (.bi .tuple (.cons (.var 1) .nil))) .nil)))
def c_need_look : Sxs := .cons (.asg (.nm 1) (.call "kept_look" (.cons (.var 0) .nil))) (.cons (.ife (.cmp .Is (.var 1) .non) (.cons .bad .nil) .nil) (.cons (.ret (.var 1)) .nil))
def c_columns_of : Sxs := .cons (.ret (.lc (.bi .tuple (.cons (.lc (.ix (.var 2) (.var 1)) (.nm 2) (.seq (.var 0)) .nil [2]) .nil)) (.nm 1) (.rng1 (.bi .len (.cons (.ix (.var 0) (.int 0)) .nil))) .nil [1])) .nil
def c_any_wishes : Sxs := .cons (.ife (.or (.not (.call "is_list" (.cons (.var 0) .nil))) (.cmp .Eq (.bi .len (.cons (.var 0) .nil)) (.int 0))) (.cons (.ret .non) .nil) .nil) (.cons (.asg (.nm 1) (.lc (.call "kept_row" (.cons (.var 2) .nil)) (.nm 2) (.seq (.var 0)) .nil [2])) (.cons (.ife (.or (.cmp .In .non (.var 1)) (.or (.cmp .Eq (.ix (.var 1) (.int 0)) (.tup .nil)) (.not (.bi .all (.cons (.lc (.cmp .Eq (.bi .len (.cons (.var 2) .nil)) (.bi .len (.cons (.ix (.var 1) (.int 0)) .nil))) (.nm 2) (.seq (.var 1)) .nil [2]) .nil))))) (.cons (.ret .non) .nil) .nil) (.cons (.ret (.bi .tuple (.cons (.var 1) .nil))) .nil)))
def c_kept_wishes : Sxs := .cons (.asg (.nm 2) (.call "any_wishes" (.cons (.var 1) .nil))) (.cons (.ret (.ife (.and (.cmp .IsNot (.var 2) .non) (.cmp .Eq (.bi .len (.cons (.ix (.var 2) (.int 0)) .nil)) (.var 0))) (.var 2) .non)) .nil)
def c_need_chances : Sxs := .cons (.asg (.nm 1) (.call "kept_chances" (.cons (.var 0) .nil))) (.cons (.ife (.cmp .Is (.var 1) .non) (.cons .bad .nil) .nil) (.cons (.ret (.var 1)) .nil))
def c_need_wishes : Sxs := .cons (.asg (.nm 2) (.call "kept_wishes" (.cons (.var 0) (.cons (.var 1) .nil)))) (.cons (.ife (.cmp .Is (.var 2) .non) (.cons .bad .nil) .nil) (.cons (.ret (.var 2)) .nil))
def c_need_look_for : Sxs := .cons (.asg (.nm 2) (.call "kept_look" (.cons (.var 1) .nil))) (.cons (.ife (.or (.cmp .Is (.var 2) .non) (.cmp .NotEq (.bi .len (.cons (.var 2) .nil)) (.var 0))) (.cons .bad .nil) .nil) (.cons (.ret (.var 2)) .nil))
def c_weights_at : Sxs := .cons (.ret (.lc (.call "times" (.cons (.var 2) (.cons (.var 3) .nil))) (.tc (.nm 2) (.tc (.nm 3) .tn)) (.zip (.var 0) (.var 1)) .nil [2, 3])) .nil
def c_deeds_at : Sxs := .cons (.ret (.lc (.call "dot" (.cons (.var 0) (.cons (.var 2) .nil))) (.nm 2) (.seq (.var 1)) .nil [2])) .nil
def c_worths_at_signs : Sxs := .cons (.ret (.lc (.call "deeds_at" (.cons (.call "weights_at" (.cons (.var 0) (.cons (.var 3) .nil))) (.cons (.var 1) .nil))) (.nm 3) (.seq (.call "columns_of" (.cons (.var 2) .nil))) .nil [3])) .nil
def c_worth_of : Sxs := .cons (.ret (.call "total" (.cons (.lc (.call "greatest" (.cons (.var 3) .nil)) (.nm 3) (.seq (.call "worths_at_signs" (.cons (.var 0) (.cons (.var 1) (.cons (.var 2) .nil))))) .nil [3]) .nil))) .nil
def c_leak : Sxs := .cons (.asg (.nm 3) (.call "need_chances" (.cons (.var 0) .nil))) (.cons (.asg (.nm 4) (.call "need_wishes" (.cons (.bi .len (.cons (.var 3) .nil)) (.cons (.var 1) .nil)))) (.cons (.ife (.bi .any (.cons (.lc (.bi .any (.cons (.lc (.call "is_under" (.cons (.var 8) (.cons (.con (.tup [.int 0, .int 1])) .nil))) (.nm 8) (.seq (.var 7)) .nil [8]) .nil)) (.nm 7) (.seq (.var 4)) .nil [7]) .nil)) (.cons .bad .nil) .nil) (.cons (.asg (.nm 5) (.call "need_look_for" (.cons (.bi .len (.cons (.var 3) .nil)) (.cons (.var 2) .nil)))) (.cons (.asg (.nm 6) (.call "greatest" (.cons (.call "deeds_at" (.cons (.var 3) (.cons (.var 4) .nil))) .nil))) (.cons (.ife (.cmp .Eq (.var 6) (.con (.tup [.int 0, .int 1]))) (.cons (.rai0 "NoWorth") .nil) .nil) (.cons (.ret (.call "over" (.cons (.call "worth_of" (.cons (.var 3) (.cons (.var 4) (.cons (.var 5) .nil)))) (.cons (.var 6) .nil)))) .nil))))))
def c_greatest_leak : Sxs := .cons (.ret (.call "total" (.cons (.lc (.call "greatest" (.cons (.var 1) .nil)) (.nm 1) (.seq (.call "columns_of" (.cons (.call "need_look" (.cons (.var 0) .nil)) .nil))) .nil [1]) .nil))) .nil
def c__law_stream : Sxs := .cons (.ret (.lst (.cons (.bi .list (.cons (.var 0) .nil)) (.cons (.int 0) (.cons (.int 0) (.cons (.int 17) .nil)))))) .nil
def c__law_draw : Sxs := .cons (.setix (.var 0) (.int 2) (.bin .Add (.ix (.var 0) (.int 2)) (.int 1))) (.cons (.whil (.and (.cmp .Eq (.ix (.var 0) (.int 1)) (.int 0)) (.cmp .NotEq (.ix (.var 0) (.int 0)) (.lst .nil))) (.cons (.asg (.nm 2) (.bi .abs (.cons (.mth .pop (.ix (.var 0) (.int 0)) (.cons (.int 0) .nil)) .nil))) (.cons (.setix (.var 0) (.int 3) (.bin .Mod (.bi .int (.cons (.bin .Add (.bin .Add (.bin .Mult (.ix (.var 0) (.int 3)) (.int 8191)) (.var 2)) (.int 3)) .nil)) (.int 2147483647))) (.cons (.setix (.var 0) (.int 1) (.ife (.cmp .GtE (.var 2) (.bin .Pow (.int 10) (.int 18))) (.var 2) (.int 0))) .nil)))) (.cons (.ife (.cmp .Gt (.ix (.var 0) (.int 1)) (.int 0)) (.cons (.asg (.nm 3) (.bin .Mod (.bi .int (.cons (.ix (.var 0) (.int 1)) .nil)) (.var 1))) (.cons (.setix (.var 0) (.int 1) (.bin .FloorDiv (.ix (.var 0) (.int 1)) (.var 1))) (.cons (.ret (.var 3)) .nil))) .nil) (.cons (.asg (.nm 4) (.bin .Mod (.bi .int (.cons (.bin .Pow (.bin .Add (.bin .Add (.ix (.var 0) (.int 3)) (.bin .Mult (.int 7919) (.ix (.var 0) (.int 2)))) (.int 104729)) (.int 5)) .nil)) (.int 2147483629))) (.cons (.ret (.bin .Mod (.bin .Mod (.bi .int (.cons (.bin .Pow (.bin .Add (.bin .Add (.bin .Mult (.var 4) (.int 48271)) (.bin .Mult (.int 30011) (.ix (.var 0) (.int 2)))) (.int 29)) (.int 3)) .nil)) (.int 1000000007)) (.var 1))) .nil))))
def c__law_pick : Sxs := .cons (.ret (.ix (.var 1) (.call "_law_draw" (.cons (.var 0) (.cons (.bi .len (.cons (.var 1) .nil)) .nil))))) .nil
def c__law_same : Sxs := .cons (.ife (.bi .isi (.cons (.var 1) (.cons (.tup (.cons (.ty "list") (.cons (.ty "tuple") .nil))) .nil))) (.cons (.ife (.or (.cmp .NotEq (.bi .isi (.cons (.var 0) (.cons (.ty "list") .nil))) (.bi .isi (.cons (.var 1) (.cons (.ty "list") .nil)))) (.cmp .NotEq (.bi .isi (.cons (.var 0) (.cons (.ty "tuple") .nil))) (.bi .isi (.cons (.var 1) (.cons (.ty "tuple") .nil))))) (.cons (.ret (.bl false)) .nil) .nil) (.cons (.ret (.and (.cmp .Eq (.bi .len (.cons (.var 0) .nil)) (.bi .len (.cons (.var 1) .nil))) (.bi .all (.cons (.lc (.call "_law_same" (.cons (.var 2) (.cons (.var 3) .nil))) (.tc (.nm 2) (.tc (.nm 3) .tn)) (.zip (.var 0) (.var 1)) .nil [2, 3]) .nil)))) .nil)) .nil) (.cons (.ife (.bi .isi (.cons (.var 1) (.cons (.ty "dict") .nil))) (.cons (.ret (.and (.bi .isi (.cons (.var 0) (.cons (.ty "dict") .nil))) (.call "_law_same" (.cons (.itl (.var 0)) (.cons (.itl (.var 1)) .nil))))) .nil) .nil) (.cons (.ife (.or (.bi .isi (.cons (.var 1) (.cons (.ty "bool") .nil))) (.bi .isi (.cons (.var 0) (.cons (.ty "bool") .nil)))) (.cons (.ret (.and (.bi .isi (.cons (.var 1) (.cons (.ty "bool") .nil))) (.and (.bi .isi (.cons (.var 0) (.cons (.ty "bool") .nil))) (.cmp .Eq (.var 0) (.var 1))))) .nil) .nil) (.cons (.ife (.or (.cmp .Is (.var 1) .non) (.cmp .Is (.var 0) .non)) (.cons (.ret (.and (.cmp .Is (.var 1) .non) (.cmp .Is (.var 0) .non))) .nil) .nil) (.cons (.ife (.or (.cmp .NotEq (.bi .isi (.cons (.var 1) (.cons (.ty "int") .nil))) (.bi .isi (.cons (.var 0) (.cons (.ty "int") .nil)))) (.cmp .NotEq (.bi .isi (.cons (.var 1) (.cons (.ty "str") .nil))) (.bi .isi (.cons (.var 0) (.cons (.ty "str") .nil))))) (.cons (.ret (.bl false)) .nil) .nil) (.cons (.ret (.and (.not (.bi .isi (.cons (.var 0) (.cons (.tup (.cons (.ty "list") (.cons (.ty "tuple") (.cons (.ty "dict") .nil)))) .nil)))) (.cmp .Eq (.var 0) (.var 1)))) .nil)))))
def c__law_copied : Sxs := .cons (.ife (.bi .isi (.cons (.var 0) (.cons (.ty "dict") .nil))) (.cons (.ret .bad) .nil) .nil) (.cons (.asg (.nm 1) (.ife (.bi .isi (.cons (.var 0) (.cons (.tup (.cons (.ty "list") (.cons (.ty "tuple") .nil))) .nil))) (.lc (.call "_law_copied" (.cons (.var 3) .nil)) (.nm 3) (.seq (.var 0)) .nil [3]) (.var 0))) (.cons (.ret (.ife (.bi .isi (.cons (.var 0) (.cons (.ty "tuple") .nil))) (.bi .tuple (.cons (.var 1) .nil)) (.var 1))) .nil))
def c__law_loose : Sxs := .cons (.ife (.not (.bi .isi (.cons (.var 1) (.cons (.tup (.cons (.ty "list") (.cons (.ty "tuple") .nil))) .nil)))) (.cons (.ret (.var 1)) .nil) .nil) (.cons (.asg (.nm 2) (.lc (.call "_law_loose" (.cons (.var 0) (.cons (.var 3) .nil))) (.nm 3) (.seq (.var 1)) .nil [3])) (.cons (.ret (.ife (.cmp .Eq (.call "_law_draw" (.cons (.var 0) (.cons (.int 2) .nil))) (.int 0)) (.bi .tuple (.cons (.var 2) .nil)) (.var 2))) .nil))
def c__law_frac : Sxs := .cons (.par [2, 3] (.cons (.bi .abs (.cons (.var 0) .nil)) (.cons (.bi .abs (.cons (.var 1) .nil)) .nil))) (.cons (.whil (.cmp .Gt (.var 3) (.int 0)) (.cons (.par [2, 3] (.cons (.var 3) (.cons (.bin .Mod (.bi .int (.cons (.var 2) .nil)) (.var 3)) .nil))) .nil)) (.cons (.asg (.nm 4) (.ife (.cmp .Gt (.var 1) (.int 0)) (.int 1) (.neg (.int 1)))) (.cons (.ret (.tup (.cons (.bin .FloorDiv (.bin .Mult (.var 4) (.var 0)) (.var 2)) (.cons (.bin .FloorDiv (.bin .Mult (.var 4) (.var 1)) (.var 2)) .nil)))) .nil)))
def c__law_plus : Sxs := .cons (.ret (.call "_law_frac" (.cons (.bin .Add (.bin .Mult (.ix (.var 0) (.int 0)) (.ix (.var 1) (.int 1))) (.bin .Mult (.ix (.var 1) (.int 0)) (.ix (.var 0) (.int 1)))) (.cons (.bin .Mult (.ix (.var 0) (.int 1)) (.ix (.var 1) (.int 1))) .nil)))) .nil
def c__law_times : Sxs := .cons (.ret (.call "_law_frac" (.cons (.bin .Mult (.ix (.var 0) (.int 0)) (.ix (.var 1) (.int 0))) (.cons (.bin .Mult (.ix (.var 0) (.int 1)) (.ix (.var 1) (.int 1))) .nil)))) .nil
def c__law_over : Sxs := .cons (.ret (.call "_law_frac" (.cons (.bin .Mult (.ix (.var 0) (.int 0)) (.ix (.var 1) (.int 1))) (.cons (.bin .Mult (.ix (.var 0) (.int 1)) (.ix (.var 1) (.int 0))) .nil)))) .nil
def c__law_total : Sxs := .cons (.asg (.nm 1) (.tup (.cons (.int 0) (.cons (.int 1) .nil)))) (.cons (.forr (.nm 2) (.seq (.var 0)) (.cons (.asg (.nm 1) (.call "_law_plus" (.cons (.var 1) (.cons (.var 2) .nil)))) .nil)) (.cons (.ret (.var 1)) .nil))
def c__law_under : Sxs := .cons (.ret (.cmp .Lt (.bin .Mult (.ix (.var 0) (.int 0)) (.ix (.var 1) (.int 1))) (.bin .Mult (.ix (.var 1) (.int 0)) (.ix (.var 0) (.int 1))))) .nil
def c__law_greatest : Sxs := .cons (.asg (.nm 1) (.ix (.var 0) (.int 0))) (.cons (.forr (.nm 2) (.seq (.sl (.var 0) (.cons (.int 1) .nil) .nil)) (.cons (.asg (.nm 1) (.ife (.call "_law_under" (.cons (.var 1) (.cons (.var 2) .nil))) (.var 2) (.var 1))) .nil)) (.cons (.ret (.var 1)) .nil))
def c__law_dot : Sxs := .cons (.ret (.call "_law_total" (.cons (.lc (.call "_law_times" (.cons (.var 2) (.cons (.var 3) .nil))) (.tc (.nm 2) (.tc (.nm 3) .tn)) (.zip (.var 0) (.var 1)) .nil [2, 3]) .nil))) .nil
def c__law_drawn : Sxs := .cons (.asg (.nm 2) (.call "_law_pick" (.cons (.var 0) (.cons (.lst (.cons (.int 1) (.cons (.int 1) (.cons (.int 1) (.cons (.int 2) (.cons (.int 3) (.cons (.int 4) (.cons (.int 5) (.cons (.int 7) .nil))))))))) .nil)))) (.cons (.ret (.call "_law_frac" (.cons (.bin .Sub (.call "_law_draw" (.cons (.var 0) (.cons (.bin .Add (.bin .Mult (.bin .Mult (.int 2) (.var 1)) (.var 2)) (.int 1)) .nil))) (.bin .Mult (.var 1) (.var 2))) (.cons (.var 2) .nil)))) .nil)
def c__law_chances : Sxs := .cons (.asg (.nm 3) (.lc (.bin .Add (.var 2) (.call "_law_draw" (.cons (.var 0) (.cons (.call "_law_pick" (.cons (.var 0) (.cons (.lst (.cons (.int 1) (.cons (.int 2) (.cons (.int 4) (.cons (.int 7) .nil))))) .nil))) .nil)))) (.nm 4) (.rng1 (.var 1)) .nil [4])) (.cons (.ife (.cmp .Eq (.bi .sum (.cons (.var 3) .nil)) (.int 0)) (.cons (.setix (.var 3) (.call "_law_draw" (.cons (.var 0) (.cons (.var 1) .nil))) (.int 1)) .nil) .nil) (.cons (.ret (.lc (.call "_law_frac" (.cons (.var 5) (.cons (.bi .sum (.cons (.var 3) .nil)) .nil))) (.nm 5) (.seq (.var 3)) .nil [5])) .nil))
def c__law_look : Sxs := .cons (.asg (.nm 3) (.lc (.call "_law_chances" (.cons (.var 0) (.cons (.var 2) (.cons (.int 0) .nil)))) (.nm 4) (.rng1 (.var 1)) .nil [4])) (.cons (.ife (.and (.cmp .Gt (.var 1) (.int 1)) (.cmp .Eq (.call "_law_draw" (.cons (.var 0) (.cons (.int 5) .nil))) (.int 0))) (.cons (.setix (.var 3) (.int 0) (.bi .list (.cons (.ix (.var 3) (.call "_law_draw" (.cons (.var 0) (.cons (.var 1) .nil)))) .nil))) .nil) .nil) (.cons (.ret (.var 3)) .nil))
def c__law_wishes : Sxs := .cons (.ret (.lc (.lc (.call "_law_drawn" (.cons (.var 0) (.cons (.int 3) .nil))) (.nm 4) (.rng1 (.var 1)) .nil [4]) (.nm 3) (.rng1 (.var 2)) .nil [3])) .nil
def c__law_weights : Sxs := .cons (.ret (.lc (.call "_law_times" (.cons (.var 3) (.cons (.ix (.var 4) (.var 2)) .nil))) (.tc (.nm 3) (.tc (.nm 4) .tn)) (.zip (.var 0) (.var 1)) .nil [3, 4])) .nil
def c__law_best : Sxs := .cons (.ret (.call "_law_greatest" (.cons (.lc (.call "_law_dot" (.cons (.var 0) (.cons (.var 2) .nil))) (.nm 2) (.seq (.var 1)) .nil [2]) .nil))) .nil
def c__law_worth : Sxs := .cons (.ret (.call "_law_total" (.cons (.lc (.call "_law_best" (.cons (.call "_law_weights" (.cons (.var 0) (.cons (.var 2) (.cons (.var 3) .nil)))) (.cons (.var 1) .nil))) (.nm 3) (.rng1 (.bi .len (.cons (.ix (.var 2) (.int 0)) .nil))) .nil [3]) .nil))) .nil
def c__law_w_columns : Sxs := .cons (.ret (.lc (.lc (.ix (.var 2) (.var 1)) (.nm 2) (.seq (.var 0)) .nil [2]) (.nm 1) (.rng1 (.bi .len (.cons (.ix (.var 0) (.int 0)) .nil))) .nil [1])) .nil
def c__law_w_sized : Sxs := .cons (.ret (.call "_law_look" (.cons (.var 0) (.cons (.bin .Add (.int 1) (.call "_law_draw" (.cons (.var 0) (.cons (.var 1) .nil)))) (.cons (.bin .Add (.int 1) (.call "_law_draw" (.cons (.var 0) (.cons (.var 2) .nil)))) .nil))))) .nil
def c__law_w_full : Sxs := .cons (.ret (.lc (.lc (.ife (.cmp .Eq (.var 2) (.var 1)) (.tup (.cons (.int 1) (.cons (.int 1) .nil))) (.tup (.cons (.int 0) (.cons (.int 1) .nil)))) (.nm 2) (.rng1 (.var 0)) .nil [2]) (.nm 1) (.rng1 (.var 0)) .nil [1])) .nil
def c__law_w_ahead : Sxs := .cons (.ret (.call "_law_greatest" (.cons (.lc (.call "_law_dot" (.cons (.var 0) (.cons (.var 2) .nil))) (.nm 2) (.seq (.var 1)) .nil [2]) .nil))) .nil
def c__law_met : Sxs := .cons .bad .nil
def c__law_w_good_wishes : Sxs := .cons (.ret (.lc (.lc (.ife (.cmp .GtE (.ix (.var 4) (.int 0)) (.int 0)) (.var 4) (.tup (.cons (.neg (.ix (.var 4) (.int 0))) (.cons (.ix (.var 4) (.int 1)) .nil)))) (.nm 4) (.seq (.var 3)) .nil [4]) (.nm 3) (.seq (.call "_law_wishes" (.cons (.var 0) (.cons (.var 1) (.cons (.var 2) .nil))))) .nil [3])) .nil
def c__law_most : Sxs := .cons (.ret (.call "_law_total" (.cons (.lc (.call "_law_greatest" (.cons (.var 1) .nil)) (.nm 1) (.seq (.call "_law_w_columns" (.cons (.var 0) .nil))) .nil [1]) .nil))) .nil
def c__law_leak_right : Sxs := .cons (.asg (.tc (.nm 4) (.tc (.nm 8) .tn)) (.tup (.cons (.call "_law_w_ahead" (.cons (.var 1) (.cons (.var 2) .nil))) (.cons (.lst (.cons (.call "_law_loose" (.cons (.var 0) (.cons (.var 1) .nil))) (.cons (.call "_law_loose" (.cons (.var 0) (.cons (.var 2) .nil))) (.cons (.call "_law_loose" (.cons (.var 0) (.cons (.var 3) .nil))) .nil)))) .nil)))) (.cons (.asg (.nm 5) (.call "_law_copied" (.cons (.var 8) .nil))) (.cons (.asg (.nm 6) (.lst (.cons (.met "_law_leak_right.<locals>.<lambda>" [("NoWorth", "none", none)] (.call "leak" (.cons (.ix (.var 8) (.int 0)) (.cons (.ix (.var 8) (.int 1)) (.cons (.ix (.var 8) (.int 2)) .nil))))) (.cons (.met "_law_leak_right.<locals>.<lambda>" [("NoWorth", "none", none)] (.kall "leak" [2, 1, 0] (.cons (.call "_law_copied" (.cons (.var 3) .nil)) (.cons (.call "_law_copied" (.cons (.var 2) .nil)) (.cons (.call "_law_copied" (.cons (.var 1) .nil)) .nil))))) .nil)))) (.cons (.ife (.not (.call "_law_same" (.cons (.var 8) (.cons (.var 5) .nil)))) (.cons (.ret (.bl false)) .nil) .nil) (.cons (.ife (.cmp .Eq (.var 4) (.tup (.cons (.int 0) (.cons (.int 1) .nil)))) (.cons (.ret (.call "_law_same" (.cons (.var 6) (.cons (.bin .Mult (.lst (.cons (.tup (.cons (.str "none") (.cons .non .nil))) .nil)) (.int 2)) .nil)))) .nil) .nil) (.cons (.asg (.nm 7) (.call "_law_over" (.cons (.call "_law_worth" (.cons (.var 1) (.cons (.var 2) (.cons (.var 3) .nil)))) (.cons (.var 4) .nil)))) (.cons (.ret (.and (.call "_law_same" (.cons (.var 6) (.cons (.bin .Mult (.lst (.cons (.tup (.cons (.str "told") (.cons (.var 7) .nil))) .nil)) (.int 2)) .nil))) (.and (.not (.call "_law_under" (.cons (.var 7) (.cons (.tup (.cons (.int 1) (.cons (.int 1) .nil))) .nil)))) (.not (.call "_law_under" (.cons (.call "greatest_leak" (.cons (.var 3) .nil)) (.cons (.var 7) .nil))))))) .nil))))))
def c_law : Sxs := .cons (.asg (.nm 1) (.call "_law_stream" (.cons (.var 0) .nil))) (.cons (.forr (.nm 2) (.rng1 (.int 7)) (.cons (.asg (.nm 3) (.call "_law_w_sized" (.cons (.var 1) (.cons (.int 6) (.cons (.int 8) .nil))))) (.cons (.asg (.nm 4) (.bi .len (.cons (.var 3) .nil))) (.cons (.forr (.nm 5) (.rng1 (.int 3)) (.cons (.ife (.not (.call "_law_leak_right" (.cons (.var 1) (.cons (.call "_law_chances" (.cons (.var 1) (.cons (.var 4) (.cons (.int 0) .nil)))) (.cons (.call "_law_w_good_wishes" (.cons (.var 1) (.cons (.var 4) (.cons (.bin .Add (.int 1) (.call "_law_draw" (.cons (.var 1) (.cons (.int 4) .nil)))) .nil)))) (.cons (.var 3) .nil)))))) (.cons (.ret (.bl false)) .nil) .nil) .nil)) (.cons (.asg (.nm 6) (.call "_law_most" (.cons (.var 3) .nil))) (.cons (.par [7, 8] (.cons (.bin .Mult (.lst (.cons (.tup (.cons (.int 1) (.cons (.var 4) .nil))) .nil)) (.var 4)) (.cons (.call "_law_w_full" (.cons (.var 4) .nil)) .nil))) (.cons (.asg (.nm 9) (.lst (.cons (.call "greatest_leak" (.cons (.call "_law_loose" (.cons (.var 1) (.cons (.var 3) .nil))) .nil)) (.cons (.kall "greatest_leak" [0] (.cons (.call "_law_copied" (.cons (.var 3) .nil)) .nil)) (.cons (.call "leak" (.cons (.var 7) (.cons (.var 8) (.cons (.var 3) .nil)))) .nil))))) (.cons (.ife (.not (.call "_law_same" (.cons (.var 9) (.cons (.bin .Mult (.lst (.cons (.var 6) .nil)) (.int 3)) .nil)))) (.cons (.ret (.bl false)) .nil) .nil) (.cons (.asg (.nm 10) (.lc (.lc (.var 12) (.nm 12) (.rng1 (.var 4)) (.cons (.cmp .NotEq (.ix (.ix (.var 3) (.var 12)) (.var 11)) (.tup (.cons (.int 0) (.cons (.int 1) .nil)))) .nil) [12]) (.nm 11) (.rng1 (.bi .len (.cons (.ix (.var 3) (.int 0)) .nil))) .nil [11])) (.cons (.ife (.or (.cmp .NotEq (.cmp .Eq (.var 6) (.tup (.cons (.int 1) (.cons (.int 1) .nil)))) (.bi .all (.cons (.lc (.cmp .Eq (.var 13) (.ix (.var 3) (.int 0))) (.nm 13) (.seq (.var 3)) .nil [13]) .nil))) (.cmp .NotEq (.cmp .Eq (.var 6) (.tup (.cons (.var 4) (.cons (.int 1) .nil)))) (.bi .all (.cons (.lc (.cmp .Lt (.bi .len (.cons (.var 13) .nil)) (.int 2)) (.nm 13) (.seq (.var 10)) .nil [13]) .nil)))) (.cons (.ret (.bl false)) .nil) .nil) .nil)))))))))) (.cons (.ret (.call "_law_same" (.cons (.call "greatest_leak" (.cons (.lst (.cons (.lst (.cons (.tup (.cons (.int 1) (.cons (.int 2) .nil))) (.cons (.tup (.cons (.int 1) (.cons (.int 2) .nil))) .nil))) (.cons (.lst (.cons (.tup (.cons (.int 0) (.cons (.int 1) .nil))) (.cons (.tup (.cons (.int 1) (.cons (.int 1) .nil))) .nil))) .nil))) .nil)) (.cons (.tup (.cons (.int 3) (.cons (.int 2) .nil))) .nil)))) .nil))
def ec_is_list : Ent := ⟨"is_list", topS 1, ["thing"], ["thing"], c_is_list, false⟩
def ec_is_whole : Ent := ⟨"is_whole", topS 2, ["thing"], ["thing"], c_is_whole, false⟩
def ec_is_row : Ent := ⟨"is_row", topS 3, ["thing", "many"], ["thing", "many"], c_is_row, false⟩
def ec_common_divisor : Ent := ⟨"common_divisor", topS 13, ["one", "other"], ["one", "other"], c_common_divisor, false⟩
def ec_reduced : Ent := ⟨"reduced", topS 14, ["above", "below", "divisor"], ["above", "below"], c_reduced, false⟩
def ec_plus : Ent := ⟨"plus", topS 15, ["one", "other"], ["one", "other"], c_plus, false⟩
def ec_times : Ent := ⟨"times", topS 16, ["one", "other"], ["one", "other"], c_times, false⟩
def ec_over : Ent := ⟨"over", topS 17, ["one", "other"], ["one", "other"], c_over, false⟩
def ec_is_under : Ent := ⟨"is_under", topS 18, ["one", "other"], ["one", "other"], c_is_under, false⟩
def ec_total : Ent := ⟨"total", topS 19, ["things", "found", "thing"], ["things"], c_total, false⟩
def ec_dot : Ent := ⟨"dot", topS 20, ["one", "other", "mine", "theirs"], ["one", "other"], c_dot, false⟩
def ec_greatest : Ent := ⟨"greatest", topS 21, ["things", "found", "thing"], ["things"], c_greatest, false⟩
def ec_kept_fraction : Ent := ⟨"kept_fraction", topS 22, ["thing"], ["thing"], c_kept_fraction, false⟩
def ec_kept_row : Ent := ⟨"kept_row", topS 23, ["thing", "found", "part"], ["thing"], c_kept_row, false⟩
def ec_kept_chances : Ent := ⟨"kept_chances", topS 24, ["thing", "found", "part"], ["thing"], c_kept_chances, false⟩
def ec_kept_look : Ent := ⟨"kept_look", topS 26, ["thing", "rows", "row"], ["thing"], c_kept_look, false⟩
def ec_need_look : Ent := ⟨"need_look", topS 27, ["look", "found"], ["look"], c_need_look, false⟩
def ec_columns_of : Ent := ⟨"columns_of", topS 28, ["look", "sign", "row"], ["look"], c_columns_of, false⟩
def ec_any_wishes : Ent := ⟨"any_wishes", topS 30, ["thing", "rows", "row"], ["thing"], c_any_wishes, false⟩
def ec_kept_wishes : Ent := ⟨"kept_wishes", topS 31, ["many", "thing", "found"], ["many", "thing"], c_kept_wishes, false⟩
def ec_need_chances : Ent := ⟨"need_chances", topS 32, ["chances", "found"], ["chances"], c_need_chances, false⟩
def ec_need_wishes : Ent := ⟨"need_wishes", topS 33, ["many", "wishes", "found"], ["many", "wishes"], c_need_wishes, false⟩
def ec_need_look_for : Ent := ⟨"need_look_for", topS 34, ["many", "look", "found"], ["many", "look"], c_need_look_for, false⟩
def ec_weights_at : Ent := ⟨"weights_at", topS 35, ["chances", "column", "chance", "one"], ["chances", "column"], c_weights_at, false⟩
def ec_deeds_at : Ent := ⟨"deeds_at", topS 36, ["weights", "wishes", "row"], ["weights", "wishes"], c_deeds_at, false⟩
def ec_worths_at_signs : Ent := ⟨"worths_at_signs", topS 38, ["shares", "wishes", "look", "column"], ["shares", "wishes", "look"], c_worths_at_signs, false⟩
def ec_worth_of : Ent := ⟨"worth_of", topS 39, ["shares", "wishes", "look", "row"], ["shares", "wishes", "look"], c_worth_of, false⟩
def ec_leak : Ent := ⟨"leak", topS 41, ["chances", "wishes", "look", "shares", "kept", "seen", "least", "row", "one"], ["chances", "wishes", "look"], c_leak, false⟩
def ec_greatest_leak : Ent := ⟨"greatest_leak", topS 42, ["look", "column"], ["look"], c_greatest_leak, false⟩
def ec__law_stream : Ent := ⟨"_law_stream", topS 44, ["script"], ["script"], c__law_stream, false⟩
def ec__law_draw : Ent := ⟨"_law_draw", topS 45, ["stream", "many", "cell", "digit", "mixed"], ["stream", "many"], c__law_draw, false⟩
def ec__law_pick : Ent := ⟨"_law_pick", topS 46, ["stream", "things"], ["stream", "things"], c__law_pick, false⟩
def ec__law_same : Ent := ⟨"_law_same", topS 47, ["found", "due", "mine", "theirs"], ["found", "due"], c__law_same, false⟩
def ec__law_copied : Ent := ⟨"_law_copied", topS 48, ["thing", "some", "key", "one"], ["thing"], c__law_copied, false⟩
def ec__law_loose : Ent := ⟨"_law_loose", topS 49, ["stream", "thing", "some", "part"], ["stream", "thing"], c__law_loose, false⟩
def ec__law_frac : Ent := ⟨"_law_frac", topS 50, ["above", "below", "one", "other", "sign"], ["above", "below"], c__law_frac, false⟩
def ec__law_plus : Ent := ⟨"_law_plus", topS 51, ["one", "other"], ["one", "other"], c__law_plus, false⟩
def ec__law_times : Ent := ⟨"_law_times", topS 52, ["one", "other"], ["one", "other"], c__law_times, false⟩
def ec__law_over : Ent := ⟨"_law_over", topS 53, ["one", "other"], ["one", "other"], c__law_over, false⟩
def ec__law_total : Ent := ⟨"_law_total", topS 54, ["some", "found", "one"], ["some"], c__law_total, false⟩
def ec__law_under : Ent := ⟨"_law_under", topS 55, ["one", "other"], ["one", "other"], c__law_under, false⟩
def ec__law_greatest : Ent := ⟨"_law_greatest", topS 56, ["some", "found", "one"], ["some"], c__law_greatest, false⟩
def ec__law_dot : Ent := ⟨"_law_dot", topS 57, ["one", "other", "mine", "theirs"], ["one", "other"], c__law_dot, false⟩
def ec__law_drawn : Ent := ⟨"_law_drawn", topS 58, ["stream", "most", "below"], ["stream", "most"], c__law_drawn, false⟩
def ec__law_chances : Ent := ⟨"_law_chances", topS 59, ["stream", "many", "least", "weights", "k", "weight"], ["stream", "many", "least"], c__law_chances, false⟩
def ec__law_look : Ent := ⟨"_law_look", topS 60, ["stream", "things", "signs", "rows", "k"], ["stream", "things", "signs"], c__law_look, false⟩
def ec__law_wishes : Ent := ⟨"_law_wishes", topS 61, ["stream", "things", "deeds", "deed", "k"], ["stream", "things", "deeds"], c__law_wishes, false⟩
def ec__law_weights : Ent := ⟨"_law_weights", topS 62, ["chances", "look", "sign", "chance", "row"], ["chances", "look", "sign"], c__law_weights, false⟩
def ec__law_best : Ent := ⟨"_law_best", topS 63, ["weights", "wishes", "row"], ["weights", "wishes"], c__law_best, false⟩
def ec__law_worth : Ent := ⟨"_law_worth", topS 64, ["chances", "wishes", "look", "sign"], ["chances", "wishes", "look"], c__law_worth, false⟩
def ec__law_w_columns : Ent := ⟨"_law_w_columns", topS 65, ["look", "sign", "row"], ["look"], c__law_w_columns, false⟩
def ec__law_w_sized : Ent := ⟨"_law_w_sized", topS 66, ["stream", "most_things", "most_signs"], ["stream", "most_things", "most_signs"], c__law_w_sized, false⟩
def ec__law_w_full : Ent := ⟨"_law_w_full", topS 67, ["many", "thing", "sign"], ["many"], c__law_w_full, false⟩
def ec__law_w_ahead : Ent := ⟨"_law_w_ahead", topS 68, ["chances", "wishes", "row"], ["chances", "wishes"], c__law_w_ahead, false⟩
def ec__law_met : Ent := ⟨"_law_met", topS 69, ["ask"], ["ask"], c__law_met, false⟩
def ec__law_w_good_wishes : Ent := ⟨"_law_w_good_wishes", topS 70, ["stream", "things", "deeds", "row", "one"], ["stream", "things", "deeds"], c__law_w_good_wishes, false⟩
def ec__law_most : Ent := ⟨"_law_most", topS 71, ["look", "column"], ["look"], c__law_most, false⟩
def ec__law_leak_right : Ent := ⟨"_law_leak_right", topS 72, ["stream", "chances", "wishes", "look", "ahead", "was", "found", "due", "handed"], ["stream", "chances", "wishes", "look"], c__law_leak_right, true⟩
def ec_law : Ent := ⟨"law", topS 73, ["script", "stream", "turn", "look", "things", "k", "due", "even", "full", "found", "rows", "sign", "thing", "row"], ["script"], c_law, false⟩
def tb : List Ent := [ec_is_list, ec_is_whole, ec_is_row, ec_common_divisor, ec_reduced, ec_plus, ec_times, ec_over, ec_is_under, ec_total, ec_dot, ec_greatest, ec_kept_fraction, ec_kept_row, ec_kept_chances, ec_kept_look, ec_need_look, ec_columns_of, ec_any_wishes, ec_kept_wishes, ec_need_chances, ec_need_wishes, ec_need_look_for, ec_weights_at, ec_deeds_at, ec_worths_at_signs, ec_worth_of, ec_leak, ec_greatest_leak, ec__law_stream, ec__law_draw, ec__law_pick, ec__law_same, ec__law_copied, ec__law_loose, ec__law_frac, ec__law_plus, ec__law_times, ec__law_over, ec__law_total, ec__law_under, ec__law_greatest, ec__law_dot, ec__law_drawn, ec__law_chances, ec__law_look, ec__law_wishes, ec__law_weights, ec__law_best, ec__law_worth, ec__law_w_columns, ec__law_w_sized, ec__law_w_full, ec__law_w_ahead, ec__law_met, ec__law_w_good_wishes, ec__law_most, ec__law_leak_right, ec_law]
theorem kc_is_list : EntOk (tb.map (·.f)) kcs cons mets (lfs.map (·.f)) lnames (tblOf tb) ec_is_list := ⟨by kernel_rfl, by decide +kernel, by kernel_rfl, fun _ _ _ _ _ _ us hl => match us, hl with | [_], _ => rfl⟩
theorem kc_is_whole : EntOk (tb.map (·.f)) kcs cons mets (lfs.map (·.f)) lnames (tblOf tb) ec_is_whole := ⟨by kernel_rfl, by decide +kernel, by kernel_rfl, fun _ _ _ _ _ _ us hl => match us, hl with | [_], _ => rfl⟩
theorem kc_is_row : EntOk (tb.map (·.f)) kcs cons mets (lfs.map (·.f)) lnames (tblOf tb) ec_is_row := ⟨by kernel_rfl, by decide +kernel, by kernel_rfl, fun _ _ _ _ _ _ us hl => match us, hl with | [_, _], _ => rfl⟩
theorem kc_common_divisor : EntOk (tb.map (·.f)) kcs cons mets (lfs.map (·.f)) lnames (tblOf tb) ec_common_divisor := ⟨by kernel_rfl, by decide +kernel, by kernel_rfl, fun _ _ _ _ _ _ us hl => match us, hl with | [_, _], _ => rfl⟩
theorem kc_reduced : EntOk (tb.map (·.f)) kcs cons mets (lfs.map (·.f)) lnames (tblOf tb) ec_reduced := ⟨by kernel_rfl, by decide +kernel, by kernel_rfl, fun _ _ _ _ _ _ us hl => match us, hl with | [_, _], _ => rfl⟩
theorem kc_plus : EntOk (tb.map (·.f)) kcs cons mets (lfs.map (·.f)) lnames (tblOf tb) ec_plus := ⟨by kernel_rfl, by decide +kernel, by kernel_rfl, fun _ _ _ _ _ _ us hl => match us, hl with | [_, _], _ => rfl⟩
theorem kc_times : EntOk (tb.map (·.f)) kcs cons mets (lfs.map (·.f)) lnames (tblOf tb) ec_times := ⟨by kernel_rfl, by decide +kernel, by kernel_rfl, fun _ _ _ _ _ _ us hl => match us, hl with | [_, _], _ => rfl⟩
theorem kc_over : EntOk (tb.map (·.f)) kcs cons mets (lfs.map (·.f)) lnames (tblOf tb) ec_over := ⟨by kernel_rfl, by decide +kernel, by kernel_rfl, fun _ _ _ _ _ _ us hl => match us, hl with | [_, _], _ => rfl⟩
theorem kc_is_under : EntOk (tb.map (·.f)) kcs cons mets (lfs.map (·.f)) lnames (tblOf tb) ec_is_under := ⟨by kernel_rfl, by decide +kernel, by kernel_rfl, fun _ _ _ _ _ _ us hl => match us, hl with | [_, _], _ => rfl⟩
theorem kc_total : EntOk (tb.map (·.f)) kcs cons mets (lfs.map (·.f)) lnames (tblOf tb) ec_total := ⟨by kernel_rfl, by decide +kernel, by kernel_rfl, fun _ _ _ _ _ _ us hl => match us, hl with | [_], _ => rfl⟩
theorem kc_dot : EntOk (tb.map (·.f)) kcs cons mets (lfs.map (·.f)) lnames (tblOf tb) ec_dot := ⟨by kernel_rfl, by decide +kernel, by kernel_rfl, fun _ _ _ _ _ _ us hl => match us, hl with | [_, _], _ => rfl⟩
theorem kc_greatest : EntOk (tb.map (·.f)) kcs cons mets (lfs.map (·.f)) lnames (tblOf tb) ec_greatest := ⟨by kernel_rfl, by decide +kernel, by kernel_rfl, fun _ _ _ _ _ _ us hl => match us, hl with | [_], _ => rfl⟩
theorem kc_kept_fraction : EntOk (tb.map (·.f)) kcs cons mets (lfs.map (·.f)) lnames (tblOf tb) ec_kept_fraction := ⟨by kernel_rfl, by decide +kernel, by kernel_rfl, fun _ _ _ _ _ _ us hl => match us, hl with | [_], _ => rfl⟩
theorem kc_kept_row : EntOk (tb.map (·.f)) kcs cons mets (lfs.map (·.f)) lnames (tblOf tb) ec_kept_row := ⟨by kernel_rfl, by decide +kernel, by kernel_rfl, fun _ _ _ _ _ _ us hl => match us, hl with | [_], _ => rfl⟩
theorem kc_kept_chances : EntOk (tb.map (·.f)) kcs cons mets (lfs.map (·.f)) lnames (tblOf tb) ec_kept_chances := ⟨by kernel_rfl, by decide +kernel, by kernel_rfl, fun _ _ _ _ _ _ us hl => match us, hl with | [_], _ => rfl⟩
theorem kc_kept_look : EntOk (tb.map (·.f)) kcs cons mets (lfs.map (·.f)) lnames (tblOf tb) ec_kept_look := ⟨by kernel_rfl, by decide +kernel, by kernel_rfl, fun _ _ _ _ _ _ us hl => match us, hl with | [_], _ => rfl⟩
theorem kc_need_look : EntOk (tb.map (·.f)) kcs cons mets (lfs.map (·.f)) lnames (tblOf tb) ec_need_look := ⟨by kernel_rfl, by decide +kernel, by kernel_rfl, fun _ _ _ _ _ _ us hl => match us, hl with | [_], _ => rfl⟩
theorem kc_columns_of : EntOk (tb.map (·.f)) kcs cons mets (lfs.map (·.f)) lnames (tblOf tb) ec_columns_of := ⟨by kernel_rfl, by decide +kernel, by kernel_rfl, fun _ _ _ _ _ _ us hl => match us, hl with | [_], _ => rfl⟩
theorem kc_any_wishes : EntOk (tb.map (·.f)) kcs cons mets (lfs.map (·.f)) lnames (tblOf tb) ec_any_wishes := ⟨by kernel_rfl, by decide +kernel, by kernel_rfl, fun _ _ _ _ _ _ us hl => match us, hl with | [_], _ => rfl⟩
theorem kc_kept_wishes : EntOk (tb.map (·.f)) kcs cons mets (lfs.map (·.f)) lnames (tblOf tb) ec_kept_wishes := ⟨by kernel_rfl, by decide +kernel, by kernel_rfl, fun _ _ _ _ _ _ us hl => match us, hl with | [_, _], _ => rfl⟩
theorem kc_need_chances : EntOk (tb.map (·.f)) kcs cons mets (lfs.map (·.f)) lnames (tblOf tb) ec_need_chances := ⟨by kernel_rfl, by decide +kernel, by kernel_rfl, fun _ _ _ _ _ _ us hl => match us, hl with | [_], _ => rfl⟩
theorem kc_need_wishes : EntOk (tb.map (·.f)) kcs cons mets (lfs.map (·.f)) lnames (tblOf tb) ec_need_wishes := ⟨by kernel_rfl, by decide +kernel, by kernel_rfl, fun _ _ _ _ _ _ us hl => match us, hl with | [_, _], _ => rfl⟩
theorem kc_need_look_for : EntOk (tb.map (·.f)) kcs cons mets (lfs.map (·.f)) lnames (tblOf tb) ec_need_look_for := ⟨by kernel_rfl, by decide +kernel, by kernel_rfl, fun _ _ _ _ _ _ us hl => match us, hl with | [_, _], _ => rfl⟩
theorem kc_weights_at : EntOk (tb.map (·.f)) kcs cons mets (lfs.map (·.f)) lnames (tblOf tb) ec_weights_at := ⟨by kernel_rfl, by decide +kernel, by kernel_rfl, fun _ _ _ _ _ _ us hl => match us, hl with | [_, _], _ => rfl⟩
theorem kc_deeds_at : EntOk (tb.map (·.f)) kcs cons mets (lfs.map (·.f)) lnames (tblOf tb) ec_deeds_at := ⟨by kernel_rfl, by decide +kernel, by kernel_rfl, fun _ _ _ _ _ _ us hl => match us, hl with | [_, _], _ => rfl⟩
theorem kc_worths_at_signs : EntOk (tb.map (·.f)) kcs cons mets (lfs.map (·.f)) lnames (tblOf tb) ec_worths_at_signs := ⟨by kernel_rfl, by decide +kernel, by kernel_rfl, fun _ _ _ _ _ _ us hl => match us, hl with | [_, _, _], _ => rfl⟩
theorem kc_worth_of : EntOk (tb.map (·.f)) kcs cons mets (lfs.map (·.f)) lnames (tblOf tb) ec_worth_of := ⟨by kernel_rfl, by decide +kernel, by kernel_rfl, fun _ _ _ _ _ _ us hl => match us, hl with | [_, _, _], _ => rfl⟩
theorem kc_leak : EntOk (tb.map (·.f)) kcs cons mets (lfs.map (·.f)) lnames (tblOf tb) ec_leak := ⟨by kernel_rfl, by decide +kernel, by kernel_rfl, fun _ _ _ _ _ _ us hl => match us, hl with | [_, _, _], _ => rfl⟩
theorem kc_greatest_leak : EntOk (tb.map (·.f)) kcs cons mets (lfs.map (·.f)) lnames (tblOf tb) ec_greatest_leak := ⟨by kernel_rfl, by decide +kernel, by kernel_rfl, fun _ _ _ _ _ _ us hl => match us, hl with | [_], _ => rfl⟩
theorem kc__law_stream : EntOk (tb.map (·.f)) kcs cons mets (lfs.map (·.f)) lnames (tblOf tb) ec__law_stream := ⟨by kernel_rfl, by decide +kernel, by kernel_rfl, fun _ _ _ _ _ _ us hl => match us, hl with | [_], _ => rfl⟩
theorem kc__law_draw : EntOk (tb.map (·.f)) kcs cons mets (lfs.map (·.f)) lnames (tblOf tb) ec__law_draw := ⟨by kernel_rfl, by decide +kernel, by kernel_rfl, fun _ _ _ _ _ _ us hl => match us, hl with | [_, _], _ => rfl⟩
theorem kc__law_pick : EntOk (tb.map (·.f)) kcs cons mets (lfs.map (·.f)) lnames (tblOf tb) ec__law_pick := ⟨by kernel_rfl, by decide +kernel, by kernel_rfl, fun _ _ _ _ _ _ us hl => match us, hl with | [_, _], _ => rfl⟩
theorem kc__law_same : EntOk (tb.map (·.f)) kcs cons mets (lfs.map (·.f)) lnames (tblOf tb) ec__law_same := ⟨by kernel_rfl, by decide +kernel, by kernel_rfl, fun _ _ _ _ _ _ us hl => match us, hl with | [_, _], _ => rfl⟩
theorem kc__law_copied : EntOk (tb.map (·.f)) kcs cons mets (lfs.map (·.f)) lnames (tblOf tb) ec__law_copied := ⟨by kernel_rfl, by decide +kernel, by kernel_rfl, fun _ _ _ _ _ _ us hl => match us, hl with | [_], _ => rfl⟩
theorem kc__law_loose : EntOk (tb.map (·.f)) kcs cons mets (lfs.map (·.f)) lnames (tblOf tb) ec__law_loose := ⟨by kernel_rfl, by decide +kernel, by kernel_rfl, fun _ _ _ _ _ _ us hl => match us, hl with | [_, _], _ => rfl⟩
theorem kc__law_frac : EntOk (tb.map (·.f)) kcs cons mets (lfs.map (·.f)) lnames (tblOf tb) ec__law_frac := ⟨by kernel_rfl, by decide +kernel, by kernel_rfl, fun _ _ _ _ _ _ us hl => match us, hl with | [_, _], _ => rfl⟩
theorem kc__law_plus : EntOk (tb.map (·.f)) kcs cons mets (lfs.map (·.f)) lnames (tblOf tb) ec__law_plus := ⟨by kernel_rfl, by decide +kernel, by kernel_rfl, fun _ _ _ _ _ _ us hl => match us, hl with | [_, _], _ => rfl⟩
theorem kc__law_times : EntOk (tb.map (·.f)) kcs cons mets (lfs.map (·.f)) lnames (tblOf tb) ec__law_times := ⟨by kernel_rfl, by decide +kernel, by kernel_rfl, fun _ _ _ _ _ _ us hl => match us, hl with | [_, _], _ => rfl⟩
theorem kc__law_over : EntOk (tb.map (·.f)) kcs cons mets (lfs.map (·.f)) lnames (tblOf tb) ec__law_over := ⟨by kernel_rfl, by decide +kernel, by kernel_rfl, fun _ _ _ _ _ _ us hl => match us, hl with | [_, _], _ => rfl⟩
theorem kc__law_total : EntOk (tb.map (·.f)) kcs cons mets (lfs.map (·.f)) lnames (tblOf tb) ec__law_total := ⟨by kernel_rfl, by decide +kernel, by kernel_rfl, fun _ _ _ _ _ _ us hl => match us, hl with | [_], _ => rfl⟩
theorem kc__law_under : EntOk (tb.map (·.f)) kcs cons mets (lfs.map (·.f)) lnames (tblOf tb) ec__law_under := ⟨by kernel_rfl, by decide +kernel, by kernel_rfl, fun _ _ _ _ _ _ us hl => match us, hl with | [_, _], _ => rfl⟩
theorem kc__law_greatest : EntOk (tb.map (·.f)) kcs cons mets (lfs.map (·.f)) lnames (tblOf tb) ec__law_greatest := ⟨by kernel_rfl, by decide +kernel, by kernel_rfl, fun _ _ _ _ _ _ us hl => match us, hl with | [_], _ => rfl⟩
theorem kc__law_dot : EntOk (tb.map (·.f)) kcs cons mets (lfs.map (·.f)) lnames (tblOf tb) ec__law_dot := ⟨by kernel_rfl, by decide +kernel, by kernel_rfl, fun _ _ _ _ _ _ us hl => match us, hl with | [_, _], _ => rfl⟩
theorem kc__law_drawn : EntOk (tb.map (·.f)) kcs cons mets (lfs.map (·.f)) lnames (tblOf tb) ec__law_drawn := ⟨by kernel_rfl, by decide +kernel, by kernel_rfl, fun _ _ _ _ _ _ us hl => match us, hl with | [_, _], _ => rfl⟩
theorem kc__law_chances : EntOk (tb.map (·.f)) kcs cons mets (lfs.map (·.f)) lnames (tblOf tb) ec__law_chances := ⟨by kernel_rfl, by decide +kernel, by kernel_rfl, fun _ _ _ _ _ _ us hl => match us, hl with | [_, _, _], _ => rfl⟩
theorem kc__law_look : EntOk (tb.map (·.f)) kcs cons mets (lfs.map (·.f)) lnames (tblOf tb) ec__law_look := ⟨by kernel_rfl, by decide +kernel, by kernel_rfl, fun _ _ _ _ _ _ us hl => match us, hl with | [_, _, _], _ => rfl⟩
theorem kc__law_wishes : EntOk (tb.map (·.f)) kcs cons mets (lfs.map (·.f)) lnames (tblOf tb) ec__law_wishes := ⟨by kernel_rfl, by decide +kernel, by kernel_rfl, fun _ _ _ _ _ _ us hl => match us, hl with | [_, _, _], _ => rfl⟩
theorem kc__law_weights : EntOk (tb.map (·.f)) kcs cons mets (lfs.map (·.f)) lnames (tblOf tb) ec__law_weights := ⟨by kernel_rfl, by decide +kernel, by kernel_rfl, fun _ _ _ _ _ _ us hl => match us, hl with | [_, _, _], _ => rfl⟩
theorem kc__law_best : EntOk (tb.map (·.f)) kcs cons mets (lfs.map (·.f)) lnames (tblOf tb) ec__law_best := ⟨by kernel_rfl, by decide +kernel, by kernel_rfl, fun _ _ _ _ _ _ us hl => match us, hl with | [_, _], _ => rfl⟩
theorem kc__law_worth : EntOk (tb.map (·.f)) kcs cons mets (lfs.map (·.f)) lnames (tblOf tb) ec__law_worth := ⟨by kernel_rfl, by decide +kernel, by kernel_rfl, fun _ _ _ _ _ _ us hl => match us, hl with | [_, _, _], _ => rfl⟩
theorem kc__law_w_columns : EntOk (tb.map (·.f)) kcs cons mets (lfs.map (·.f)) lnames (tblOf tb) ec__law_w_columns := ⟨by kernel_rfl, by decide +kernel, by kernel_rfl, fun _ _ _ _ _ _ us hl => match us, hl with | [_], _ => rfl⟩
theorem kc__law_w_sized : EntOk (tb.map (·.f)) kcs cons mets (lfs.map (·.f)) lnames (tblOf tb) ec__law_w_sized := ⟨by kernel_rfl, by decide +kernel, by kernel_rfl, fun _ _ _ _ _ _ us hl => match us, hl with | [_, _, _], _ => rfl⟩
theorem kc__law_w_full : EntOk (tb.map (·.f)) kcs cons mets (lfs.map (·.f)) lnames (tblOf tb) ec__law_w_full := ⟨by kernel_rfl, by decide +kernel, by kernel_rfl, fun _ _ _ _ _ _ us hl => match us, hl with | [_], _ => rfl⟩
theorem kc__law_w_ahead : EntOk (tb.map (·.f)) kcs cons mets (lfs.map (·.f)) lnames (tblOf tb) ec__law_w_ahead := ⟨by kernel_rfl, by decide +kernel, by kernel_rfl, fun _ _ _ _ _ _ us hl => match us, hl with | [_, _], _ => rfl⟩
theorem kc__law_met : EntOk (tb.map (·.f)) kcs cons mets (lfs.map (·.f)) lnames (tblOf tb) ec__law_met := ⟨by kernel_rfl, by decide +kernel, by kernel_rfl, fun _ _ _ _ _ _ us hl => match us, hl with | [_], _ => rfl⟩
theorem kc__law_w_good_wishes : EntOk (tb.map (·.f)) kcs cons mets (lfs.map (·.f)) lnames (tblOf tb) ec__law_w_good_wishes := ⟨by kernel_rfl, by decide +kernel, by kernel_rfl, fun _ _ _ _ _ _ us hl => match us, hl with | [_, _, _], _ => rfl⟩
theorem kc__law_most : EntOk (tb.map (·.f)) kcs cons mets (lfs.map (·.f)) lnames (tblOf tb) ec__law_most := ⟨by kernel_rfl, by decide +kernel, by kernel_rfl, fun _ _ _ _ _ _ us hl => match us, hl with | [_], _ => rfl⟩
theorem kc__law_leak_right : EntOk (tb.map (·.f)) kcs cons mets (lfs.map (·.f)) lnames (tblOf tb) ec__law_leak_right := ⟨by kernel_rfl, by decide +kernel, by kernel_rfl, fun _ _ _ _ _ _ us hl => match us, hl with | [_, _, _, _], _ => rfl⟩
theorem kc_law : EntOk (tb.map (·.f)) kcs cons mets (lfs.map (·.f)) lnames (tblOf tb) ec_law := ⟨by kernel_rfl, by decide +kernel, by kernel_rfl, fun _ _ _ _ _ _ us hl => match us, hl with | [_], _ => rfl⟩
theorem tb_ok : AllP (EntOk (tb.map (·.f)) kcs cons mets (lfs.map (·.f)) lnames (tblOf tb)) tb := ⟨kc_is_list, kc_is_whole, kc_is_row, kc_common_divisor, kc_reduced, kc_plus, kc_times, kc_over, kc_is_under, kc_total, kc_dot, kc_greatest, kc_kept_fraction, kc_kept_row, kc_kept_chances, kc_kept_look, kc_need_look, kc_columns_of, kc_any_wishes, kc_kept_wishes, kc_need_chances, kc_need_wishes, kc_need_look_for, kc_weights_at, kc_deeds_at, kc_worths_at_signs, kc_worth_of, kc_leak, kc_greatest_leak, kc__law_stream, kc__law_draw, kc__law_pick, kc__law_same, kc__law_copied, kc__law_loose, kc__law_frac, kc__law_plus, kc__law_times, kc__law_over, kc__law_total, kc__law_under, kc__law_greatest, kc__law_dot, kc__law_drawn, kc__law_chances, kc__law_look, kc__law_wishes, kc__law_weights, kc__law_best, kc__law_worth, kc__law_w_columns, kc__law_w_sized, kc__law_w_full, kc__law_w_ahead, kc__law_met, kc__law_w_good_wishes, kc__law_most, kc__law_leak_right, kc_law, trivial⟩
theorem lfs_ok : AllP (LEntOk (tb.map (·.f)) kcs cons mets (lfs.map (·.f)) lnames) lfs := trivial
theorem kk0 : KcOk tb ⟨"leak", ["look", "wishes", "chances"], [2, 1, 0]⟩ := ⟨ec_leak, by simp [tb], rfl, fun _ _ _ _ _ _ us hl => match us, hl with | [_, _, _], _ => rfl⟩
theorem kk1 : KcOk tb ⟨"greatest_leak", ["look"], [0]⟩ := ⟨ec_greatest_leak, by simp [tb], rfl, fun _ _ _ _ _ _ us hl => match us, hl with | [_], _ => rfl⟩
theorem kcs_ok : AllP (KcOk tb) kcs := ⟨kk0, kk1, trivial⟩
theorem kmc__law_met : MetE tb cons ("_law_met", [("NoWorth", "none", none)]) := ⟨⟨ec__law_met, by simp [tb], rfl, "ask", rfl, ⟨_, _, _, _, _, _, _, _, _, _, rfl, .plain rfl (by decide) .nil⟩, rfl, .inl rfl, by decide, by decide⟩, ⟨by simp [hdCn, cons], trivial⟩⟩
theorem mets_ok : AllP (MetE tb cons) mets := ⟨kmc__law_met, trivial⟩
end KM.L
namespace KM.L
open PySem PySem.Spec PyProof.Rows L2 KM
abbrev R : PySem.W.OpenRow := PySem.W.OpenLaw.row PySem.Challenge.rw_knowsmore_k39_whole_how_much_leaks
abbrev hk : PySem.W.Hook := He.hookX 4 (faOf tb cons mets) (fnOf tb errs) [] (tfOf tb) (exOf cons tb)
def ob (s : PySem.W.SharedT) : He.AlX := He.obsX 4 (faOf tb cons mets) (fnOf tb errs) [] (tfOf tb) (exOf cons tb) (HandSHeadRun.getT s)
theorem ob_eq (s : PySem.W.SharedT) : ob s = hk.obs s.abs := He.obsX_eq (HandSHeadRun.getT_eq s)
def loose : List PySem.Str := (["is_list", "is_whole", "is_row", "KnowError", "BadChances", "BadLook", "BadWishes", "NoWorth", "common_divisor", "reduced", "plus", "times", "over", "is_under", "total", "dot", "greatest", "kept_fraction", "kept_row", "kept_chances", "kept_look", "need_look", "columns_of", "any_wishes"] : List PySem.Str) ++ (["kept_wishes", "need_chances", "need_wishes", "need_look_for", "weights_at", "deeds_at", "worths_at_signs", "worth_of", "leak", "greatest_leak", "_law_stream", "_law_draw", "_law_pick", "_law_same", "_law_copied", "_law_loose", "_law_frac", "_law_plus", "_law_times", "_law_over", "_law_total", "_law_under", "_law_greatest", "_law_dot"] : List PySem.Str) ++ (["_law_drawn", "_law_chances", "_law_look", "_law_wishes", "_law_weights", "_law_best", "_law_worth", "_law_w_columns", "_law_w_sized", "_law_w_full", "_law_w_ahead", "_law_met", "_law_w_good_wishes", "_law_most", "_law_leak_right", "__name__", "__name__", "__name__", "NOUGHT", "ONE", "__name__", "__name__", "__name__", "__name__"] : List PySem.Str) ++ (["__name__"] : List PySem.Str)
theorem run (w : World) : HandSHeadRun.RunEq R (PySem.W.view R.prog [73]) hk ob 6000 loose w := by
  intro os
  kernel_rfl
end KM.L
/-! K39Z: k39, the end. Not built alone: tools/join.py puts it behind the table. -/
namespace KM.L
open PySem PySem.Spec PyProof.Rows L2 KM
abbrev TT (P : Addr) : Str → Option Fc := tblT [("_law_leak_right.<locals>.<lambda>", P)] lfs tb
theorem sumL (P : Addr) : SumLib (TT P) := { cd := rfl, red := rfl, pl := rfl, ti := rfl, to := rfl, dt := rfl }
theorem worthL (P : Addr) : WorthLib (TT P) := { toSumLib := sumL P, un := rfl, gr := rfl, co := rfl, wa := rfl, da := rfl, ws := rfl, wo := rfl }
theorem chanL (P : Addr) : ChanLib (TT P) := { il := rfl, iw := rfl, ir := rfl, cd := rfl, kf := rfl, kr := rfl, sl := sumL P, kc := rfl }
theorem needsL (P : Addr) : NeedsLib (TT P) := { toChanLib := chanL P, kl := rfl, aw := rfl, kw := rfl, nc := ⟨_, rfl⟩, nw := ⟨_, rfl⟩, nl := ⟨_, rfl⟩ }
theorem leakL (P : Addr) : LeakLib (TT P) := { toNeedsLib := needsL P, wl := worthL P, ov := rfl, nlo := ⟨_, rfl⟩, lk := rfl, gl := rfl }
theorem lworthL (P : Addr) : LWorthLib (TT P) := { fr := rfl, pl := rfl, ti := rfl, to := rfl, un := rfl, gr := rfl, dt := rfl, we := rfl, be := rfl, wo := rfl, fu := rfl, ah := rfl }
theorem caseL (P : Addr) : CaseLib (TT P) := { dw := rfl, pk := rfl, fr := rfl, ch := rfl, lk := rfl, wi := rfl, dn := rfl, sz := rfl }
theorem lawL (P : Addr) : Law39Lib (TT P) P := { lk := leakL P, cs := caseL P, lw := lworthL P, sa := rfl, co := rfl, lo := rfl, lov := rfl, cl := rfl, ms := rfl, gw := rfl, lr := rfl, tab := rfl }
theorem law_ok (tabs : List (Str × Addr)) (h0 : Hep) (v : Val) (ns : List Int) (e : tabs.map (·.1) = (tb.filter (·.lam)).map Ent.q) (ht : ∀ p ∈ tabs, h0 p.2 = some (.tab p.1)) (hv : v = .rom (ns.map Val.int) ∨ ∃ a, v = .ref a ∧ h0 a = some (.lst (ns.map Val.int))) (hl : ns.length ≤ 63) :
    Calls (tblT tabs lfs tb) 200 "law" [v] h0 (fun v _ => v = .bl true) (fun _ _ => False) := by
  have e' : (tb.filter (·.lam)).map Ent.q = (["_law_leak_right.<locals>.<lambda>"] : List Str) := by kernel_rfl
  rw [e'] at e
  match tabs, e, ht with
  | [(q, P)], e, ht =>
    have eq : q = "_law_leak_right.<locals>.<lambda>" := List.head_eq_of_cons_eq e
    subst eq
    exact law39_ok (lawL P) rfl rfl ns (ht _ List.mem_cons_self) hv hl
end KM.L
namespace KM.L
theorem lam_no : ∀ e ∈ tb, e.lam = true → tblOf tb e.q = none ∧ (lfs.find? fun le => decide (le.f.nm = e.q)) = none := by
  have z : (tb.all fun e => !e.lam || ((tblOf tb e.q).isNone && (lfs.find? fun le => decide (le.f.nm = e.q)).isNone)) = true := by decide +kernel
  intro e he hl
  have y := List.all_eq_true.mp z e he
  rw [hl] at y
  simpa using y
theorem le_no : ∀ le ∈ lfs, tblOf tb le.f.nm = none := by
  have z : (lfs.all fun le => (tblOf tb le.f.nm).isNone) = true := by decide +kernel
  intro le hl
  simpa using List.all_eq_true.mp z le hl
theorem row_ok : PySem.Challenge.rw_knowsmore_k39_whole_how_much_leaks.Holds := by
  w_on; o_law
  refine HandSHeadRun.head_any (r := R) (q := PySem.W.view R.prog [73]) (H := hk) (ob := ob) (M := 6000) (loose := loose) (d := HandSHeadRun.topDef R.prog 73) (kwd := []) ob_eq
    (by kernel_rfl) (fun s => by kernel_rfl) run (by kernel_rfl) (by kernel_rfl) (by kernel_rfl) (by rfl) (by first | assumption | decide +kernel) (by decide +kernel) ⟨rfl, rfl, rfl, rfl, rfl, by decide +kernel⟩ ?hw ?hc
  case hw => w_witness2
  case hc =>
    exact KM.walk_tbT (l := PySem.Challenge.rw_knowsmore_k39_whole_how_much_leaks) (k := 200) (m := 4) (x := "script") (tb := tb) (kcs := kcs) (cons := cons) (mets := mets) (errs := errs) (lfs := lfs) (lnames := lnames) (e0 := ec_law) rfl (by kernel_rfl) ⟨rfl, by decide, by decide⟩ (by simp [tb]) (by kernel_rfl) rfl
      (KM.AllP.mem tb_ok) (KM.AllP.mem kcs_ok) (KM.AllP.mem mets_ok) (KM.AllP.mem errs_ok) lam_no (KM.AllP.mem lfs_ok) le_no (by decide +kernel) (by decide +kernel) law_ok
end KM.L
theorem PySem.Challenge.cw_knowsmore_k39_whole_how_much_leaks_holds : PySem.Challenge.rw_knowsmore_k39_whole_how_much_leaks.Holds := by
  exact KM.L.row_ok
