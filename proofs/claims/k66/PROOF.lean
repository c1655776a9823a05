import PyProof.Rows.All
import Wide.All
import OpenK.AllK
import Wide.FinOn
import HandS.ForMost
import HandS.TupAny
import HandS.Wide
import HandS.Walk
import HandS.DictComp
import HandS.IsInst
import HandS.Conv
import HandS.Zip
import KE.GoesNew
import KE.GoesEnum
import KE.KDictZip
import HandS.SetFor
import HandS.SortInts
import HandS.Strs
import KE.KDictPairs
import KE.KDictKeyed
import KE.KDictDisplayH
import KE.KDictWalk
import HandS.DictSubView
import KE.DataMinMax
import KE.KRevSl
import KE.SortData
import HandS.Style
import HandS.Codes
import PySem.Challenge.RW_flyovers_k66_whole_knots_of_nets
set_option Elab.async false
section
set_option linter.all false
set_option maxRecDepth 100000
set_option maxHeartbeats 4000000
namespace Fy
open PySem PySem.Spec PyProof.Rows L2
abbrev Sl := L2.St
/-! ### data: tuples are values -/
inductive D where
  | non | bl (b : Bool) | int (i : Int) | str (x : Str) | ref (a : Addr) | ty (n : String) | tup (ds : List D) | tupF (ds : List D)
mutual
inductive Den (H : Hp) : V → D → Prop
  | non : Den H .non .non
  | bl (b : Bool) : Den H (.bl b) (.bl b)
  | int (i : Int) : Den H (.int i) (.int i)
  | str (x : Str) : Den H (.str x) (.str x)
  | ref (a : Addr) : Den H (.ref a) (.ref a)
  | ty (n : String) : Den H (.ty n) (.ty n)
  | tup {a : Addr} {vs : List V} {ds : List D} : H a = some (.tup vs) → Dens H vs ds → Den H (.ref a) (.tup ds)
  | tupF {a : Addr} {o : Obj} {vs : List V} {ds : List D} : H a = some (.frz o (.tup vs)) → o.dict = none → Dens H vs ds → Den H (.ref a) (.tupF ds)
inductive Dens (H : Hp) : List V → List D → Prop
  | nil : Dens H [] []
  | cons {v : V} {vs : List V} {d : D} {ds : List D} : Den H v d → Dens H vs ds → Dens H (v :: vs) (d :: ds)
end
/-- tuples stay -/
def isT : HO → Prop
  | .tup _ => True
  | .frz _ (.tup _) => True
  | _ => False
structure TupS (H H' : Hp) : Prop where
  stay : ∀ a u, isT u → H a = some u → H' a = some u
theorem TupS.tup {H H' : Hp} (t : TupS H H') (a : Addr) (xs : List V) (e : H a = some (.tup xs)) : H' a = some (.tup xs) := t.stay a _ True.intro e
theorem TupS.frz {H H' : Hp} (t : TupS H H') (a : Addr) (o : Obj) (xs : List V) (e : H a = some (.frz o (.tup xs))) : H' a = some (.frz o (.tup xs)) := t.stay a _ True.intro e
instance (H H' : Hp) : CoeFun (TupS H H') (fun _ => ∀ a xs, H a = some (.tup xs) → H' a = some (.tup xs)) := ⟨fun t => t.tup⟩
theorem TupS.refl (H : Hp) : TupS H H := ⟨fun _ _ _ h => h⟩
theorem TupS.trans {H H1 H2 : Hp} (a : TupS H H1) (b : TupS H1 H2) : TupS H H2 := ⟨fun x o h e => b.stay x o h (a.stay x o h e)⟩
theorem TupS.new {H : Hp} {p : Addr} {o : HO} (h : H p = none) : TupS H (upd H p o) := ⟨fun a xs _ e => by
  rw [upd_ne (ne_of_none e h)]; exact e⟩
theorem TupS.set {H : Hp} {p : Addr} {u o : HO} (h : H p = some u) (hn : ∀ _ : Unit, isT u → False) : TupS H (upd H p o) := ⟨fun a xs z e => by
  rw [upd_ne]
  · exact e
  · intro q
    subst q
    rw [h] at e
    cases e
    exact hn () z⟩
mutual
theorem Den.mono {H H' : Hp} (t : TupS H H') : ∀ {v : V} {d : D}, Den H v d → Den H' v d
  | _, _, .non => .non
  | _, _, .bl b => .bl b
  | _, _, .int i => .int i
  | _, _, .str x => .str x
  | _, _, .ref a => .ref a
  | _, _, .ty n => .ty n
  | _, _, .tup h hs => .tup (t _ _ h) (Dens.mono t hs)
  | _, _, .tupF h hd hs => .tupF (t.frz _ _ _ h) hd (Dens.mono t hs)
theorem Dens.mono {H H' : Hp} (t : TupS H H') : ∀ {vs : List V} {ds : List D}, Dens H vs ds → Dens H' vs ds
  | _, _, .nil => .nil
  | _, _, .cons h hs => .cons (Den.mono t h) (Dens.mono t hs)
end
section
variable {H : Hp}
theorem Den.non_inv {v : V} (h : Den H v .non) : v = .non := by cases h; rfl
theorem Den.bl_inv {v : V} {b : Bool} (h : Den H v (.bl b)) : v = .bl b := by cases h; rfl
theorem Den.int_inv {v : V} {i : Int} (h : Den H v (.int i)) : v = .int i := by cases h; rfl
theorem Den.str_inv {v : V} {x : Str} (h : Den H v (.str x)) : v = .str x := by cases h; rfl
theorem Den.ref_inv {v : V} {a : Addr} (h : Den H v (.ref a)) : v = .ref a := by cases h; rfl
theorem Den.ty_inv {v : V} {n : String} (h : Den H v (.ty n)) : v = .ty n := by cases h; rfl
theorem Den.tup_inv {v : V} {ds : List D} (h : Den H v (.tup ds)) : ∃ a vs, v = .ref a ∧ H a = some (.tup vs) ∧ Dens H vs ds := by
  cases h with
  | tup h hs => exact ⟨_, _, rfl, h, hs⟩
theorem Den.tupF_inv {v : V} {ds : List D} (h : Den H v (.tupF ds)) : ∃ a o vs, v = .ref a ∧ H a = some (.frz o (.tup vs)) ∧ o.dict = none ∧ Dens H vs ds := by
  cases h with
  | tupF h hd hs => exact ⟨_, _, _, rfl, h, hd, hs⟩
theorem Dens.length : ∀ {vs : List V} {ds : List D}, Dens H vs ds → vs.length = ds.length
  | _, _, .nil => rfl
  | _, _, .cons _ hs => by rw [List.length_cons, List.length_cons, Dens.length hs]
theorem Dens.get : ∀ {vs : List V} {ds : List D} {i : Nat} {d : D}, Dens H vs ds → ds[i]? = some d → ∃ v, vs[i]? = some v ∧ Den H v d
  | _, _, _, _, .nil, e => by simp at e
  | _, _, 0, _, .cons h _, e => by simp at e; subst e; exact ⟨_, rfl, h⟩
  | _, _, i + 1, d, .cons _ hs, e => by
    obtain ⟨v, h1, h2⟩ := Dens.get (i := i) (d := d) hs (by simpa using e)
    exact ⟨v, by simpa using h1, h2⟩
theorem Dens.get' : ∀ {vs : List V} {ds : List D} {i : Nat} {v : V}, Dens H vs ds → vs[i]? = some v → ∃ d, ds[i]? = some d ∧ Den H v d
  | _, _, _, _, .nil, e => by simp at e
  | _, _, 0, _, .cons h _, e => by simp at e; subst e; exact ⟨_, rfl, h⟩
  | _, _, i + 1, v, .cons _ hs, e => by
    obtain ⟨d, h1, h2⟩ := Dens.get' (i := i) (v := v) hs (by simpa using e)
    exact ⟨d, by simpa using h1, h2⟩
theorem Dens.append : ∀ {vs ws : List V} {ds es : List D}, Dens H vs ds → Dens H ws es → Dens H (vs ++ ws) (ds ++ es)
  | _, _, _, _, .nil, s => s
  | _, _, _, _, .cons r t, s => .cons r (Dens.append t s)
theorem Dens.take : ∀ {vs : List V} {ds : List D} (n : Nat), Dens H vs ds → Dens H (vs.take n) (ds.take n)
  | _, _, 0, _ => .nil
  | _, _, _ + 1, .nil => .nil
  | _, _, n + 1, .cons r t => .cons r (Dens.take n t)
theorem Dens.drop : ∀ {vs : List V} {ds : List D} (n : Nat), Dens H vs ds → Dens H (vs.drop n) (ds.drop n)
  | _, _, 0, r => r
  | _, _, _ + 1, .nil => .nil
  | _, _, n + 1, .cons _ t => Dens.drop n t
theorem Dens.one {v : V} {d : D} (h : Den H v d) : Dens H [v] [d] := .cons h .nil
theorem Dens.set {v : V} {d : D} (h : Den H v d) : ∀ {vs : List V} {ds : List D} (i : Nat), Dens H vs ds → Dens H (vs.set i v) (ds.set i d)
  | _, _, _, .nil => .nil
  | _, _, 0, .cons _ t => .cons h t
  | _, _, i + 1, .cons q t => .cons q (Dens.set h i t)
theorem Dens.erase : ∀ {vs : List V} {ds : List D} (i : Nat), Dens H vs ds → Dens H (vs.eraseIdx i) (ds.eraseIdx i)
  | _, _, _, .nil => .nil
  | _, _, 0, .cons _ t => t
  | _, _, i + 1, .cons q t => .cons q (Dens.erase i t)
theorem Dens.nil_iff {vs : List V} {ds : List D} (h : Dens H vs ds) : vs = [] ↔ ds = [] := by
  cases h <;> simp
end
/-! ### the heap of lists, dicts, instances -/
inductive DO where
  | lst (ds : List D) | dK (kvs : List (Key × D)) | dT (kvs : List (List Key × D)) | ins (C : Addr) (fs : List (Str × D)) | scr (ns : List Int)
abbrev HD := Addr → Option DO
def updD (h : HD) (a : Addr) (o : DO) : HD := fun b => if b = a then some o else h b
theorem updD_same {h : HD} {a : Addr} {o : DO} : updD h a o a = some o := by unfold updD; rw [if_pos rfl]
theorem updD_ne {h : HD} {a b : Addr} {o : DO} (n : b ≠ a) : updD h a o b = h b := by unfold updD; rw [if_neg n]
theorem updD_updD {h : HD} {a : Addr} {o u : DO} : updD (updD h a o) a u = updD h a u := by
  funext b; unfold updD; split <;> rfl
theorem neD {h : HD} {a b : Addr} {o u : DO} (x : h a = some o) (y : h b = some u) (d : o ≠ u) : a ≠ b := by
  intro e; subst e; rw [x] at y; exact d (Option.some.inj y)
theorem neN {h : HD} {a b : Addr} {o : DO} (x : h a = some o) (y : h b = none) : a ≠ b := by
  intro e; subst e; rw [x] at y; cases y
def PD {κ : Type} (H : Hp) : List (κ × V) → List (κ × D) → Prop := Paired fun (p : κ × V) (q : κ × D) => p.1 = q.1 ∧ Den H p.2 q.2
def DenO (H : Hp) : HO → DO → Prop
  | .lst vs, .lst ds => Dens H vs ds
  | .dK kvs, .dK kds => PD H kvs kds
  | .dT kvs, .dT kds => PD H kvs kds
  | .ins C _ fs, .ins C' fds => C = C' ∧ PD H fs fds
  | u, .scr ns => ∃ o, u = .frz o (.lst (ns.map V.int))
  | _, _ => False
theorem PD.mono {κ : Type} {H H' : Hp} (t : TupS H H') {l : List (κ × V)} {m : List (κ × D)} (h : PD H l m) : PD H' l m := Paired.mapP h fun _ _ z => ⟨z.1, z.2.mono t⟩
theorem DenO.mono {H H' : Hp} (t : TupS H H') : ∀ {u : HO} {o : DO}, DenO H u o → DenO H' u o := by
  intro u o h
  cases u <;> cases o <;> first | exact h | exact h.elim | exact Dens.mono t h | exact PD.mono t h | exact ⟨h.1, PD.mono t h.2⟩
def RelH (h : HD) (H : Hp) : Prop := ∀ a o, h a = some o → ∃ u, H a = some u ∧ DenO H u o
theorem RelH.lst {h : HD} {H : Hp} (r : RelH h H) {a : Addr} {ds : List D} (e : h a = some (.lst ds)) : ∃ vs, H a = some (.lst vs) ∧ Dens H vs ds := by
  obtain ⟨u, h1, h2⟩ := r a _ e
  cases u with
  | lst vs => exact ⟨vs, h1, h2⟩
  | _ => exact (show False from h2).elim
theorem RelH.dK {h : HD} {H : Hp} (r : RelH h H) {a : Addr} {ds : List (Key × D)} (e : h a = some (.dK ds)) : ∃ vs, H a = some (.dK vs) ∧ PD H vs ds := by
  obtain ⟨u, h1, h2⟩ := r a _ e
  cases u with
  | dK vs => exact ⟨vs, h1, h2⟩
  | _ => exact (show False from h2).elim
theorem RelH.dT {h : HD} {H : Hp} (r : RelH h H) {a : Addr} {ds : List (List Key × D)} (e : h a = some (.dT ds)) : ∃ vs, H a = some (.dT vs) ∧ PD H vs ds := by
  obtain ⟨u, h1, h2⟩ := r a _ e
  cases u with
  | dT vs => exact ⟨vs, h1, h2⟩
  | _ => exact (show False from h2).elim
theorem RelH.ins {h : HD} {H : Hp} (r : RelH h H) {a C : Addr} {ds : List (Str × D)} (e : h a = some (.ins C ds)) : ∃ dx fs, H a = some (.ins C dx fs) ∧ PD H fs ds := by
  obtain ⟨u, h1, h2⟩ := r a _ e
  cases u with
  | ins C' dx vs =>
    obtain ⟨e, h2⟩ := h2
    subst e
    exact ⟨dx, vs, h1, h2⟩
  | _ => exact (show False from h2).elim
theorem RelH.scr {h : HD} {H : Hp} (r : RelH h H) {a : Addr} {ns : List Int} (e : h a = some (.scr ns)) : ∃ o, H a = some (.frz o (.lst (ns.map V.int))) := by
  obtain ⟨u, h1, h2⟩ := r a _ e
  cases u <;> (obtain ⟨o, e2⟩ := h2; first | (rw [h1, e2]; exact ⟨o, rfl⟩) | cases e2)
theorem RelH.none {h : HD} {H : Hp} (r : RelH h H) {a : Addr} (e : H a = none) : h a = none := by
  cases q : h a with
  | none => rfl
  | some o =>
    obtain ⟨u, h1, _⟩ := r a o q
    rw [e] at h1; cases h1
/-- the tracked tuples changed nothing: a new object that is not told -/
theorem RelH.skip {h : HD} {H : Hp} (r : RelH h H) {p : Addr} {u : HO} (n : H p = Option.none) : RelH h (upd H p u) := fun a o e => by
  obtain ⟨w, h1, h2⟩ := r a o e
  exact ⟨w, by rw [upd_ne (ne_of_none h1 n)]; exact h1, h2.mono (TupS.new n)⟩
theorem RelH.new {h : HD} {H : Hp} (r : RelH h H) {p : Addr} {u : HO} {o : DO} (n : H p = Option.none) (q : DenO H u o) : RelH (updD h p o) (upd H p u) := fun a o' e => by
  by_cases z : a = p
  · subst z; rw [updD_same] at e; cases e; exact ⟨u, upd_same, q.mono (TupS.new n)⟩
  · rw [updD_ne z] at e
    obtain ⟨w, h1, h2⟩ := r a o' e
    exact ⟨w, by rw [upd_ne z]; exact h1, h2.mono (TupS.new n)⟩
theorem RelH.set {h : HD} {H : Hp} (r : RelH h H) {p : Addr} {u0 u : HO} {o : DO} (n : H p = some u0) (nt : ∀ _ : Unit, isT u0 → False) (q : DenO H u o) : RelH (updD h p o) (upd H p u) := fun a o' e => by
  by_cases z : a = p
  · subst z; rw [updD_same] at e; cases e; exact ⟨u, upd_same, q.mono (TupS.set n nt)⟩
  · rw [updD_ne z] at e
    obtain ⟨w, h1, h2⟩ := r a o' e
    exact ⟨w, by rw [upd_ne z]; exact h1, h2.mono (TupS.set n nt)⟩
def Sub (h h' : HD) : Prop := ∀ a o, h a = some o → h' a = some o
theorem Sub.refl (h : HD) : Sub h h := fun _ _ e => e
theorem Sub.trans {a b c : HD} (x : Sub a b) (y : Sub b c) : Sub a c := fun p o e => y p o (x p o e)
theorem Sub.new {h : HD} {p : Addr} {o : DO} (n : h p = none) : Sub h (updD h p o) := fun a u e => by rw [updD_ne (neN e n)]; exact e
theorem Sub.upd {h h' : HD} (s : Sub h h') (p : Addr) (o : DO) : Sub (updD h p o) (updD h' p o) := fun a u e => by
  by_cases z : a = p
  · subst z; rw [updD_same] at e ⊢; exact e
  · rw [updD_ne z] at e ⊢; exact s a u e
/-- a new object changed -/
theorem Sub.put {h h' : HD} (s : Sub h h') {p : Addr} (o : DO) (n : h p = none) : Sub h (updD h' p o) := fun a u e => by
  rw [updD_ne (neN e n)]; exact s a u e
theorem RelH.sub {h h' : HD} {H : Hp} (r : RelH h' H) (s : Sub h h') : RelH h H := fun a o e => r a o (s a o e)
/-! ### slots -/
def SlOk (H : Hp) (x : Option V) : Option D → Prop
  | none => True
  | some d => ∃ v, x = some v ∧ Den H v d
def DenS (H : Hp) (σ : Sl) (ρ : List (Option D)) : Prop := Paired (SlOk H) σ ρ
theorem SlOk.mono {H H' : Hp} (t : TupS H H') {x : Option V} : ∀ {y : Option D}, SlOk H x y → SlOk H' x y
  | none, _ => True.intro
  | some _, ⟨v, e, h⟩ => ⟨v, e, h.mono t⟩
theorem DenS.mono {H H' : Hp} (t : TupS H H') {σ : Sl} {ρ : List (Option D)} (h : DenS H σ ρ) : DenS H' σ ρ := Paired.mapP h fun _ _ z => z.mono t
theorem DenS.get {H : Hp} : ∀ {σ : Sl} {ρ : List (Option D)} {i : Nat} {d : D}, DenS H σ ρ → ρ[i]? = some (some d) → ∃ v, σ[i]? = some (some v) ∧ Den H v d
  | _, _, _, _, .nil, e => by simp at e
  | _, _, 0, _, .cons h _, e => by
    simp at e; subst e
    obtain ⟨v, e1, h1⟩ := h
    exact ⟨v, by simpa using e1, h1⟩
  | _, _, i + 1, d, .cons _ hs, e => by
    obtain ⟨v, h1, h2⟩ := DenS.get (i := i) (d := d) hs (by simpa using e)
    exact ⟨v, by simpa using h1, h2⟩
theorem DenS.set {H : Hp} {v : V} {d : D} (h : Den H v d) : ∀ {σ : Sl} {ρ : List (Option D)} (i : Nat), DenS H σ ρ → DenS H (σ.set i (some v)) (ρ.set i (some d))
  | _, _, _, .nil => .nil
  | _, _, 0, .cons _ t => .cons ⟨v, rfl, h⟩ t
  | _, _, i + 1, .cons q t => .cons q (DenS.set h i t)
/-- slots forgotten -/
def WkO : Option D → Option D → Prop
  | none, _ => True
  | some d, y => y = some d
def Wk (ρ ρ' : List (Option D)) : Prop := Paired WkO ρ ρ'
theorem DenS.wk {H : Hp} : ∀ {σ : Sl} {ρ ρ' : List (Option D)}, DenS H σ ρ' → Wk ρ ρ' → DenS H σ ρ
  | _, _, _, .nil, .nil => .nil
  | _, none :: _, _, .cons h t, .cons w r => .cons True.intro (DenS.wk t r)
  | _, some d :: _, y :: _, .cons h t, .cons w r => by
    have e : y = some d := w
    subst e
    exact .cons h (DenS.wk t r)
theorem Wk.refl : ∀ ρ : List (Option D), Wk ρ ρ
  | [] => .nil
  | none :: r => .cons True.intro (Wk.refl r)
  | some d :: r => .cons rfl (Wk.refl r)
/-! ### the judgements -/
def OQ (H : Hp) (Q : D → HD → Prop) : VK := fun v H' => TupS H H' ∧ ∃ d h', RelH h' H' ∧ Den H' v d ∧ Q d h'
def OT (H : Hp) (Q : Bool → HD → Prop) : Bool → Hp → Prop := fun b H' => TupS H H' ∧ ∃ h', RelH h' H' ∧ Q b h'
def OA (H : Hp) (Q : List D → HD → Prop) : List V → Hp → Prop := fun vs H' => TupS H H' ∧ ∃ ds h', RelH h' H' ∧ Dens H' vs ds ∧ Q ds h'
abbrev Rho := List (Option D)
structure EndsD where
  nx : Rho → HD → Prop
  rt : D → HD → Prop
  bk : Rho → HD → Prop := fun _ _ => False
  ct : Rho → HD → Prop := fun _ _ => False
def OS (H : Hp) (Q : Rho → HD → Prop) : Sl → Hp → Prop := fun σ' H' => TupS H H' ∧ ∃ ρ' h', DenS H' σ' ρ' ∧ RelH h' H' ∧ Q ρ' h'
def endsOf (H : Hp) (E : EndsD) : Ends := { nx := OS H E.nx, rt := OQ H E.rt, bk := OS H E.bk, ct := OS H E.ct }
theorem OQ.mono {H H1 : Hp} {Q Q' : D → HD → Prop} {v : V} {H' : Hp} (t : TupS H H1) (q : OQ H1 Q v H') (k : ∀ d h, Q d h → Q' d h) : OQ H Q' v H' :=
  let ⟨t1, d, h', r, e, q⟩ := q; ⟨t.trans t1, d, h', r, e, k d h' q⟩
theorem OT.mono {H H1 : Hp} {Q Q' : Bool → HD → Prop} {v : Bool} {H' : Hp} (t : TupS H H1) (q : OT H1 Q v H') (k : ∀ d h, Q d h → Q' d h) : OT H Q' v H' :=
  let ⟨t1, h', r, q⟩ := q; ⟨t.trans t1, h', r, k v h' q⟩
theorem OA.mono {H H1 : Hp} {Q Q' : List D → HD → Prop} {v : List V} {H' : Hp} (t : TupS H H1) (q : OA H1 Q v H') (k : ∀ d h, Q d h → Q' d h) : OA H Q' v H' :=
  let ⟨t1, d, h', r, e, q⟩ := q; ⟨t.trans t1, d, h', r, e, k d h' q⟩
theorem OS.mono {H H1 : Hp} {Q Q' : Rho → HD → Prop} {v : Sl} {H' : Hp} (t : TupS H H1) (q : OS H1 Q v H') (k : ∀ d h, Q d h → Q' d h) : OS H Q' v H' :=
  let ⟨t1, d, h', r, e, q⟩ := q; ⟨t.trans t1, d, h', r, e, k d h' q⟩
section
variable (X : Cx)
/-- an expression, semantically -/
def WE (e : Expr) : TE := fun σ H Q => ∀ (pins : List (Addr × Obj)) (s : Shared), Inv X pins σ H s → wpAny (model X.prog X.w) X.A (eval e X.env) (EP X pins σ Q) X.xe s
def WT (e : Expr) : TT := fun σ H Q => ∀ (pins : List (Addr × Obj)) (s : Shared), Inv X pins σ H s → wpAny (model X.prog X.w) X.A (isTrue e X.env (eval e X.env)) (TP X pins σ Q) X.xe s
def WW (e : Expr) : TT := fun σ H Q => ∀ (whole : Sem Value) (pins : List (Addr × Obj)) (s : Shared), Inv X pins σ H s → wpAny (model X.prog X.w) X.A (isTrue e X.env whole) (TP X pins σ Q) X.xe s
def WA (es : List Expr) : TA := fun σ H Q => ∀ (pos : Pos) (pins : List (Addr × Obj)) (s : Shared), Inv X pins σ H s → wpAny (model X.prog X.w) X.A (spliced (backTo pos (starEach es X.env))) (AP X pins σ Q) X.xe s
def WS (st : Stmt) : L2.TS := fun D σ H => ∀ (pins : List (Addr × Obj)) (s : Shared), Inv X pins σ H s → wpAny (model X.prog X.w) X.A (exec st X.env) (SP X pins D) X.xe s
end
end Fy
end
section
set_option linter.all false
set_option maxRecDepth 100000
set_option maxHeartbeats 4000000
namespace Fy
open PySem PySem.Spec PyProof.Rows L2
/-! ### where one stands -/
structure Tx where
  P : Program
  w : World
  K : PySem.W.Frag
  mg : Str → Option Value
  base : Heap
structure Ctx (X : Cx) (T : Tx) (k : Nat) (N : List Str) (sc : Scope) (vt st : List Bool) : Prop where
  hP : X.prog = T.P
  hw : X.w = T.w
  hK : X.K = T.K
  hmg : X.mg = T.mg
  hbase : X.base = T.base
  room : Room k X.A
  hN : X.N = N
  nd : N.Nodup
  hsc : X.env.scope = sc
  calm : X.calm = true
  xe : X.xe = fun _ _ => False
  vis : ∀ (i : Nat) x, N[i]? = some x → vt[i]? = some true → Vis sc x
  loc : ∀ (i : Nat) x, N[i]? = some x → st[i]? = some true → L2.Loc sc x ∧ (X.fn x = true ∨ X.env.scope.names.lookup x = some .local)
def globB (sc : Scope) (x : Str) : Bool := match sc.names.lookup x with | some .globalImplicit => true | _ => false
def visB (sc : Scope) (x : Str) : Bool := match sc.names.lookup x with | some .local => true | some .cell => true | some .free => true | _ => false
def locB (sc : Scope) (x : Str) : Bool := match sc.names.lookup x with | some .local => true | some .cell => true | _ => false
theorem visB_of {sc : Scope} {x : Str} (h : visB sc x = true) : Vis sc x := by
  unfold visB at h
  unfold Vis
  split at h
  · exact .inl (by assumption)
  · exact .inr (.inl (by assumption))
  · exact .inr (.inr (by assumption))
  · cases h
theorem locB_of {sc : Scope} {x : Str} (h : locB sc x = true) : L2.Loc sc x := by
  unfold locB at h
  unfold L2.Loc
  split at h
  · exact .inl (by assumption)
  · exact .inr (by assumption)
  · cases h
theorem get_map_true {α : Type} {f : α → Bool} {l : List α} {i : Nat} {x : α} (h : l[i]? = some x) (e : (l.map f)[i]? = some true) : f x = true := by
  rw [List.getElem?_map, h] at e
  exact Option.some.inj e
section
variable {X : Cx} {T : Tx} {k : Nat} {N : List Str} {sc : Scope} {vt st : List Bool} {ρ ρ' : Rho} {h h1 h2 h3 : HD} {H : Hp} {σ : Sl}
theorem Ctx.gl (c : Ctx X T k N sc vt st) {x : Str} (g : globB sc x = true) : Gl X x := by
  unfold globB at g
  show X.env.scope.names.lookup x = _
  rw [c.hsc]
  split at g
  · assumption
  · cases g
theorem Ctx.never (c : Ctx X T k N sc vt st) : PassesOwn (model X.prog X.w) X.A X.env X.xe := by rw [c.xe]; exact .never
theorem Ctx.pass (c : Ctx X T k N sc vt st) : Passes CX0 X E0 := pass0
theorem Ctx.hu (c : Ctx X T k N sc vt st) : X.A.units + 1 < cLine := hu_of c.room
theorem Ctx.hu64 (c : Ctx X T k N sc vt st) : X.A.units + 64 < cLine := c.room.units
/-! ### the judgements, told of rho and h -/
def LE (X : Cx) (e : Expr) (ρ : Rho) (h : HD) (Q : D → HD → Prop) : Prop := ∀ σ H, DenS H σ ρ → RelH h H → WE X e σ H (OQ H Q)
def LT (X : Cx) (e : Expr) (ρ : Rho) (h : HD) (Q : Bool → HD → Prop) : Prop := ∀ σ H, DenS H σ ρ → RelH h H → WT X e σ H (OT H Q)
def LW (X : Cx) (e : Expr) (ρ : Rho) (h : HD) (Q : Bool → HD → Prop) : Prop := ∀ σ H, DenS H σ ρ → RelH h H → WW X e σ H (OT H Q)
def LA (X : Cx) (es : List Expr) (ρ : Rho) (h : HD) (Q : List D → HD → Prop) : Prop := ∀ σ H, DenS H σ ρ → RelH h H → WA X es σ H (OA H Q)
def LS (X : Cx) (s : Stmt) (ρ : Rho) (h : HD) (E : EndsD) : Prop := ∀ σ H, DenS H σ ρ → RelH h H → WS X s (endsOf H E) σ H
def WSs (X : Cx) (st : List Stmt) : L2.TS := fun D σ H => ∀ (pins : List (Addr × Obj)) (s : Shared), Inv X pins σ H s → wpAny (model X.prog X.w) X.A (execs st X.env) (SP X pins D) X.xe s
def LSs (X : Cx) (s : List Stmt) (ρ : Rho) (h : HD) (E : EndsD) : Prop := ∀ σ H, DenS H σ ρ → RelH h H → WSs X s (endsOf H E) σ H
theorem pe_we {e : Expr} : PE X e (WE X e) := ⟨fun pins s σ H Q I h => h pins s I⟩
theorem pt_wt {e : Expr} : PT X e (WT X e) := ⟨fun pins s σ H Q I h => h pins s I⟩
theorem pw_ww {e : Expr} : PW X e (WW X e) := ⟨fun w pins s σ H Q I h => h w pins s I⟩
theorem pa_wa {es : List Expr} : PA X es (WA X es) := ⟨fun pos pins s σ H Q I h => h pos pins s I⟩
theorem ps_ws {s : Stmt} : PS X s (WS X s) := ⟨fun pins s σ H Q I h => h pins s I⟩
theorem pss_wss {s : List Stmt} : PSs X s (WSs X s) := ⟨fun pins s σ H Q I h => h pins s I⟩
section
variable {e a b : Expr} {es : List Expr} {s : Stmt} {ss : List Stmt} {Q Q' : D → HD → Prop} {QB : Bool → HD → Prop} {QA : List D → HD → Prop} {E : EndsD}
theorem le_of {t : TE} (p : PE X e t) (q : ∀ σ H, DenS H σ ρ → RelH h H → t σ H (OQ H Q)) : LE X e ρ h Q := fun σ H a b pins s I => p.run pins s σ H _ I (q σ H a b)
theorem lt_of' {t : TT} (p : PT X e t) (q : ∀ σ H, DenS H σ ρ → RelH h H → t σ H (OT H QB)) : LT X e ρ h QB := fun σ H a b pins s I => p.run pins s σ H _ I (q σ H a b)
theorem lw_of {t : TT} (p : PW X e t) (q : ∀ σ H, DenS H σ ρ → RelH h H → t σ H (OT H QB)) : LW X e ρ h QB := fun σ H a b w pins s I => p.run w pins s σ H _ I (q σ H a b)
theorem la_of {t : TA} (p : PA X es t) (q : ∀ σ H, DenS H σ ρ → RelH h H → t σ H (OA H QA)) : LA X es ρ h QA := fun σ H a b pos pins s I => p.run pos pins s σ H _ I (q σ H a b)
theorem ls_of {t : L2.TS} (p : PS X s t) (q : ∀ σ H, DenS H σ ρ → RelH h H → t (endsOf H E) σ H) : LS X s ρ h E := fun σ H a b pins s I => p.run pins s σ H _ I (q σ H a b)
theorem lss_of {t : L2.TS} (p : PSs X ss t) (q : ∀ σ H, DenS H σ ρ → RelH h H → t (endsOf H E) σ H) : LSs X ss ρ h E := fun σ H a b pins s I => p.run pins s σ H _ I (q σ H a b)
theorem WE.mono {K K' : VK} (w : WE X e σ H K) (k : ∀ v H', K v H' → K' v H') : WE X e σ H K' := fun pins s I => wpAny_mono (w pins s I) (fun u s' ⟨v, H', I', r, q⟩ => ⟨v, H', I', r, k _ _ q⟩) fun _ _ x => x
theorem WT.mono {K K' : Bool → Hp → Prop} (w : WT X e σ H K) (k : ∀ v H', K v H' → K' v H') : WT X e σ H K' := fun pins s I => wpAny_mono (w pins s I) (fun u s' ⟨H', I', q⟩ => ⟨H', I', k _ _ q⟩) fun _ _ x => x
theorem WW.mono {K K' : Bool → Hp → Prop} (w : WW X e σ H K) (k : ∀ v H', K v H' → K' v H') : WW X e σ H K' := fun wh pins s I => wpAny_mono (w wh pins s I) (fun u s' ⟨H', I', q⟩ => ⟨H', I', k _ _ q⟩) fun _ _ x => x
theorem WA.mono {K K' : List V → Hp → Prop} (w : WA X es σ H K) (k : ∀ v H', K v H' → K' v H') : WA X es σ H K' := fun pos pins s I => wpAny_mono (w pos pins s I) (fun u s' ⟨v, H', I', r, q⟩ => ⟨v, H', I', r, k _ _ q⟩) fun _ _ x => x
theorem SP.mono {D D' : Ends} {pins : List (Addr × Obj)} {f : Flow} {s' : Shared} (q : SP X pins D f s') (n : ∀ σ H, D.nx σ H → D'.nx σ H) (r : ∀ v H, D.rt v H → D'.rt v H) (b : ∀ σ H, D.bk σ H → D'.bk σ H) (c : ∀ σ H, D.ct σ H → D'.ct σ H) : SP X pins D' f s' := by
  cases f with
  | next => obtain ⟨σ', H', I, q⟩ := q; exact ⟨σ', H', I, n _ _ q⟩
  | brk => obtain ⟨σ', H', I, q⟩ := q; exact ⟨σ', H', I, b _ _ q⟩
  | cont => obtain ⟨σ', H', I, q⟩ := q; exact ⟨σ', H', I, c _ _ q⟩
  | ret u => obtain ⟨v, σ', H', I, rr, q⟩ := q; exact ⟨v, σ', H', I, rr, r _ _ q⟩
theorem WSs.mono {D D' : Ends} (w : WSs X ss D σ H) (n : ∀ σ H, D.nx σ H → D'.nx σ H) (r : ∀ v H, D.rt v H → D'.rt v H) (b : ∀ σ H, D.bk σ H → D'.bk σ H) (c : ∀ σ H, D.ct σ H → D'.ct σ H) : WSs X ss D' σ H :=
  fun pins s I => wpAny_mono (w pins s I) (fun f s' q => SP.mono q n r b c) fun _ _ x => x
theorem WS.mono {D D' : Ends} (w : WS X s D σ H) (n : ∀ σ H, D.nx σ H → D'.nx σ H) (r : ∀ v H, D.rt v H → D'.rt v H) (b : ∀ σ H, D.bk σ H → D'.bk σ H) (c : ∀ σ H, D.ct σ H → D'.ct σ H) : WS X s D' σ H :=
  fun pins s I => wpAny_mono (w pins s I) (fun f s' q => SP.mono q n r b c) fun _ _ x => x
theorem LE.use (l : LE X e ρ h Q) (a : DenS H σ ρ) (b : RelH h H) {K : VK} (k : ∀ v H' d h', TupS H H' → RelH h' H' → Den H' v d → Q d h' → K v H') : WE X e σ H K :=
  (l σ H a b).mono fun v H' ⟨t, d, h', r, e, q⟩ => k v H' d h' t r e q
theorem LT.use (l : LT X e ρ h QB) (a : DenS H σ ρ) (b : RelH h H) {K : Bool → Hp → Prop} (k : ∀ v H' h', TupS H H' → RelH h' H' → QB v h' → K v H') : WT X e σ H K :=
  (l σ H a b).mono fun v H' ⟨t, h', r, q⟩ => k v H' h' t r q
theorem LW.use (l : LW X e ρ h QB) (a : DenS H σ ρ) (b : RelH h H) {K : Bool → Hp → Prop} (k : ∀ v H' h', TupS H H' → RelH h' H' → QB v h' → K v H') : WW X e σ H K :=
  (l σ H a b).mono fun v H' ⟨t, h', r, q⟩ => k v H' h' t r q
theorem LA.use (l : LA X es ρ h QA) (a : DenS H σ ρ) (b : RelH h H) {K : List V → Hp → Prop} (k : ∀ v H' d h', TupS H H' → RelH h' H' → Dens H' v d → QA d h' → K v H') : WA X es σ H K :=
  (l σ H a b).mono fun v H' ⟨t, d, h', r, e, q⟩ => k v H' d h' t r e q
theorem LE.mono (l : LE X e ρ h Q) (k : ∀ d h', Q d h' → Q' d h') : LE X e ρ h Q' := fun σ H a b => (l σ H a b).mono fun v H' q => q.mono (TupS.refl H) k
end
/-- it gives d, the heap then h' -/
def LX (X : Cx) (e : Expr) (ρ : Rho) (h : HD) (d : D) (h' : HD) : Prop := ∀ Q : D → HD → Prop, Q d h' → LE X e ρ h Q
def LB (X : Cx) (e : Expr) (ρ : Rho) (h : HD) (b : Bool) (h' : HD) : Prop := ∀ Q : Bool → HD → Prop, Q b h' → LT X e ρ h Q
def LBW (X : Cx) (e : Expr) (ρ : Rho) (h : HD) (b : Bool) (h' : HD) : Prop := ∀ Q : Bool → HD → Prop, Q b h' → LW X e ρ h Q
def LAX (X : Cx) (es : List Expr) (ρ : Rho) (h : HD) (ds : List D) (h' : HD) : Prop := ∀ Q : List D → HD → Prop, Q ds h' → LA X es ρ h Q
/-- a new list of ds -/
def LL (X : Cx) (e : Expr) (ρ : Rho) (h : HD) (ds : List D) : Prop := ∀ Q : D → HD → Prop, (∀ p, h p = none → Q (.ref p) (updD h p (.lst ds))) → LE X e ρ h Q
section
variable {e a b : Expr} {es : List Expr} {d x y z : D} {ds : List D} {bb : Bool}
theorem LX.use (l : LX X e ρ h d h1) (a : DenS H σ ρ) (b : RelH h H) {K : VK} (k : ∀ v H', TupS H H' → RelH h1 H' → Den H' v d → K v H') : WE X e σ H K :=
  (l (fun d' h' => d' = d ∧ h' = h1) ⟨rfl, rfl⟩).use a b fun v H' d' h' t r q ⟨e1, e2⟩ => by subst e1 e2; exact k v H' t r q
theorem LB.use (l : LB X e ρ h bb h1) (a : DenS H σ ρ) (b : RelH h H) {K : Bool → Hp → Prop} (k : ∀ H', TupS H H' → RelH h1 H' → K bb H') : WT X e σ H K :=
  (l (fun d' h' => d' = bb ∧ h' = h1) ⟨rfl, rfl⟩).use a b fun v H' h' t r ⟨e1, e2⟩ => by subst e1 e2; exact k H' t r
theorem LBW.use (l : LBW X e ρ h bb h1) (a : DenS H σ ρ) (b : RelH h H) {K : Bool → Hp → Prop} (k : ∀ H', TupS H H' → RelH h1 H' → K bb H') : WW X e σ H K :=
  (l (fun d' h' => d' = bb ∧ h' = h1) ⟨rfl, rfl⟩).use a b fun v H' h' t r ⟨e1, e2⟩ => by subst e1 e2; exact k H' t r
theorem LAX.use (l : LAX X es ρ h ds h1) (a : DenS H σ ρ) (b : RelH h H) {K : List V → Hp → Prop} (k : ∀ vs H', TupS H H' → RelH h1 H' → Dens H' vs ds → K vs H') : WA X es σ H K :=
  (l (fun d' h' => d' = ds ∧ h' = h1) ⟨rfl, rfl⟩).use a b fun v H' d' h' t r q ⟨e1, e2⟩ => by subst e1 e2; exact k v H' t r q
/-- for a rule: the end in place -/
theorem oq_of {Q : D → HD → Prop} {H0 : Hp} {v : V} (t : TupS H0 H) (r : RelH h H) (q : Den H v d) (k : Q d h) : OQ H0 Q v H := ⟨t, d, h, r, q, k⟩
theorem lx_eq (l : LX X e ρ h x h1) (e1 : x = y) : LX X e ρ h y h1 := e1 ▸ l
theorem lb_eq {b1 b2 : Bool} (l : LB X e ρ h b1 h1) (e1 : b1 = b2) : LB X e ρ h b2 h1 := e1 ▸ l
/-! ### names and constants -/
theorem lx_name (c : Ctx X T k N sc vt st) {nm : Str} {pos : Pos} (i : Nat) (hi : N[i]? = some nm) (hv : vt[i]? = some true) (hr : ρ[i]? = some (some d)) (hd : (nm == ("__debug__" : Str)) = false := by decide) (hcd : (nm == ("__classdict__" : Str)) = false := by decide) :
    LX X (.Name nm pos) ρ h d h := fun Q q => le_of (pe_var (i := i) (by rw [c.hN]; exact hi) (by rw [c.hsc]; exact c.vis i nm hi hv) hd hcd) fun σ H hs hh => by
  obtain ⟨v, e1, d1⟩ := hs.get hr
  exact ⟨v, e1, oq_of (TupS.refl H) hh d1 q⟩
theorem lx_int {i : Int} {j pos} : LX X (.Constant (.int i) j pos) ρ h (.int i) h := fun Q q => le_of pe_int fun σ H hs hh => oq_of (TupS.refl H) hh (.int i) q
theorem lx_bl {i : Bool} {j pos} : LX X (.Constant (.bool i) j pos) ρ h (.bl i) h := fun Q q => le_of pe_bl fun σ H hs hh => oq_of (TupS.refl H) hh (.bl i) q
theorem lx_non {j pos} : LX X (.Constant .none j pos) ρ h .non h := fun Q q => le_of pe_non fun σ H hs hh => oq_of (TupS.refl H) hh .non q
theorem lx_str {i : Str} {j pos} : LX X (.Constant (.str i) j pos) ρ h (.str i) h := fun Q q => le_of pe_str fun σ H hs hh => oq_of (TupS.refl H) hh (.str i) q
/-- a constant of the module: an int -/
theorem lx_globI (c : Ctx X T k N sc vt st) {nm : Str} {pos : Pos} {i : Int} {t : Tok} (g : globB sc nm = true) (hm : T.mg nm = some (.int i t)) (hd : (nm == ("__debug__" : Str)) = false := by decide) : LX X (.Name nm pos) ρ h (.int i) h :=
  fun Q q => le_of (pe_glob (v := .int i) (c.gl g) (by rw [c.hmg]; exact hm) ⟨t, rfl⟩ hd) fun σ H hs hh => oq_of (TupS.refl H) hh (.int i) q
/-! ### operators -/
/-- a two-place operation on values that leaves h as it is -/
def F2 (X : Cx) (f : Value → Value → Sem Value) (x y : D) (h : HD) (z : D) : Prop :=
  ∃ r : R2, OpR X f r ∧ ∀ (H : Hp) (u v : V) (K : VK), RelH h H → Den H u x → Den H v y → (∀ w H', TupS H H' → RelH h H' → Den H' w z → K w H') → r u v H K
theorem f2_int {f : Value → Value → Sem Value} {C : Int → Int → Prop} {g : Int → Int → Int} (o : OpR X f (rI C fun i j => .int (g i j))) {i j : Int} (hc : C i j) : F2 X f (.int i) (.int j) h (.int (g i j)) :=
  ⟨_, o, fun H u v K r a b q => ⟨i, j, a.int_inv, b.int_inv, hc, q _ H (TupS.refl H) r (.int _)⟩⟩
theorem f2_int0 {f : Value → Value → Sem Value} {g : Int → Int → Int} (o : OpR X f (rI0 fun i j => .int (g i j))) {i j : Int} : F2 X f (.int i) (.int j) h (.int (g i j)) :=
  ⟨_, o, fun H u v K r a b q => ⟨i, j, a.int_inv, b.int_inv, q _ H (TupS.refl H) r (.int _)⟩⟩
theorem f2_bl0 {f : Value → Value → Sem Value} {g : Int → Int → Bool} (o : OpR X f (rI0 fun i j => .bl (g i j))) {i j : Int} : F2 X f (.int i) (.int j) h (.bl (g i j)) :=
  ⟨_, o, fun H u v K r a b q => ⟨i, j, a.int_inv, b.int_inv, q _ H (TupS.refl H) r (.bl _)⟩⟩
theorem f2_add {i j : Int} : F2 X (binaryOp .Add) (.int i) (.int j) h (.int (i + j)) := f2_int0 op_add
theorem f2_sub {i j : Int} : F2 X (binaryOp .Sub) (.int i) (.int j) h (.int (i - j)) := f2_int0 op_sub
theorem f2_mul {i j : Int} (hc : CMul i j) : F2 X (binaryOp .Mult) (.int i) (.int j) h (.int (i * j)) := f2_int op_mul hc
theorem f2_mod {i j : Int} (hc : 0 < j) : F2 X (binaryOp .Mod) (.int i) (.int j) h (.int (i % j)) := f2_int op_mod hc
theorem f2_fdiv {i j : Int} (hc : CDiv i j) : F2 X (binaryOp .FloorDiv) (.int i) (.int j) h (.int (i / j)) := f2_int op_fdiv hc
theorem f2_pow {i j : Int} (hc : CPow i j) : F2 X (binaryOp .Pow) (.int i) (.int j) h (.int (i ^ j.toNat)) := f2_int op_pow hc
theorem f2_shr {i j : Int} (hc : 0 ≤ j) : F2 X (binaryOp .RShift) (.int i) (.int j) h (.int (i / 2 ^ j.toNat)) := f2_int op_shr hc
theorem f2_and {i j : Int} : F2 X (binaryOp .BitAnd) (.int i) (.int j) h (.int (Builtin.bitAnd i j)) := f2_int0 op_and
theorem f2_cat {xs ys : List D} (hz : xs.length + ys.length ≤ 100000) : F2 X (binaryOp .Add) (.tup xs) (.tup ys) h (.tup (xs ++ ys)) :=
  ⟨_, op_catA, fun H u v K r a b q => by
    obtain ⟨p1, vs, rfl, e1, d1⟩ := a.tup_inv
    obtain ⟨p2, ws, rfl, e2, d2⟩ := b.tup_inv
    refine ⟨p1, p2, vs, ws, rfl, rfl, SqT.of e1, SqT.of e2, ?_, fun h0 => ?_, fun h0 h1 => ?_, fun h0 h1 p hp => ?_⟩
    · rw [d1.length, d2.length, sizeLine_eq]; omega
    · subst h0
      have : xs = [] := (d1.nil_iff).mp rfl
      subst this
      exact q _ H (TupS.refl H) r (.tup e2 d2)
    · subst h1
      have : ys = [] := (d2.nil_iff).mp rfl
      subst this
      refine q _ H (TupS.refl H) r ?_
      rw [List.append_nil]
      exact .tup e1 d1
    · have n := TupS.new (o := .tup (vs ++ ws)) hp
      exact q _ _ n (r.skip hp) (.tup upd_same ((d1.mono n).append (d2.mono n)))⟩
theorem f2_lt {i j : Int} : F2 X (compareOp .Lt) (.int i) (.int j) h (.bl (decide (i < j))) := f2_bl0 op_lt
theorem f2_le {i j : Int} : F2 X (compareOp .LtE) (.int i) (.int j) h (.bl (decide (i ≤ j))) := f2_bl0 op_le
theorem f2_gt {i j : Int} : F2 X (compareOp .Gt) (.int i) (.int j) h (.bl (decide (j < i))) := f2_bl0 op_gt
theorem f2_ge {i j : Int} : F2 X (compareOp .GtE) (.int i) (.int j) h (.bl (decide (j ≤ i))) := f2_bl0 op_ge
theorem f2_eqI {i j : Int} : F2 X (compareOp .Eq) (.int i) (.int j) h (.bl (decide (i = j))) :=
  ⟨_, op_eq, fun H u v K r a b q => ⟨by rw [a.int_inv, b.int_inv]; rfl, by rw [a.int_inv, b.int_inv, show decide (V.int i = V.int j) = decide (i = j) by simp]; exact q _ H (TupS.refl H) r (.bl _)⟩⟩
theorem f2_neI {i j : Int} : F2 X (compareOp .NotEq) (.int i) (.int j) h (.bl (!decide (i = j))) :=
  ⟨_, op_ne, fun H u v K r a b q => ⟨by rw [a.int_inv, b.int_inv]; rfl, by rw [a.int_inv, b.int_inv, show decide (V.int i = V.int j) = decide (i = j) by simp]; exact q _ H (TupS.refl H) r (.bl _)⟩⟩
theorem f2_eqS {i j : Str} : F2 X (compareOp .Eq) (.str i) (.str j) h (.bl (decide (i = j))) :=
  ⟨_, op_eq, fun H u v K r a b q => ⟨by rw [a.str_inv, b.str_inv]; rfl, by rw [a.str_inv, b.str_inv, show decide (V.str i = V.str j) = decide (i = j) by simp]; exact q _ H (TupS.refl H) r (.bl _)⟩⟩
def D.isNon : D → Bool
  | .non => true
  | _ => false
theorem Den.non_dec {v : V} (q : Den H v d) : decide (v = .non) = d.isNon := by cases q <;> simp [D.isNon]
theorem f2_isN : F2 X (compareOp .Is) d .non h (.bl d.isNon) := ⟨_, op_isN, fun H u v K r a b q => ⟨b.non_inv, by rw [a.non_dec]; exact q _ H (TupS.refl H) r (.bl _)⟩⟩
theorem f2_notN : F2 X (compareOp .IsNot) d .non h (.bl (!d.isNon)) := ⟨_, op_notN, fun H u v K r a b q => ⟨b.non_inv, by rw [a.non_dec]; exact q _ H (TupS.refl H) r (.bl _)⟩⟩
theorem f2_eq {f : Value → Value → Sem Value} (o : F2 X f x y h z) {z' : D} (e1 : z = z') : F2 X f x y h z' := e1 ▸ o
theorem lx_bin {op : Operator} {pos : Pos} (ha : LX X a ρ h x h1) (hb : LX X b ρ h1 y h2) (ho : F2 X (binaryOp op) x y h2 z) : LX X (.BinOp a op b pos) ρ h z h2 := fun Q q => by
  obtain ⟨r, o, hr⟩ := ho
  exact le_of (pe_op o pe_we pe_we) fun σ H hs hh => ha.use hs hh fun u H1 t1 r1 d1 => hb.use (hs.mono t1) r1 fun v H2 t2 r2 d2 => hr H2 u v _ r2 (d1.mono t2) d2 fun w H' t3 r3 d3 => oq_of ((t1.trans t2).trans t3) r3 d3 q
theorem lx_cmp {op : CmpOp} {pos : Pos} (ha : LX X a ρ h x h1) (hb : LX X b ρ h1 y h2) (ho : F2 X (compareOp op) x y h2 z) (hm : behindInMarks op b = false := by first | exact nomark _ | rfl) : LX X (.Compare a [op] [b] pos) ρ h z h2 := fun Q q => by
  obtain ⟨r, o, hr⟩ := ho
  exact le_of (pe_cmpR o pe_we pe_we hm) fun σ H hs hh => ha.use hs hh fun u H1 t1 r1 d1 => hb.use (hs.mono t1) r1 fun v H2 t2 r2 d2 => hr H2 u v _ r2 (d1.mono t2) d2 fun w H' t3 r3 d3 => oq_of ((t1.trans t2).trans t3) r3 d3 q
theorem lb_cmp {op : CmpOp} {pos : Pos} (ha : LX X a ρ h x h1) (hb : LX X b ρ h1 y h2) (ho : F2 X (compareOp op) x y h2 (.bl bb)) (hm : behindInMarks op b = false := by first | exact nomark _ | rfl) : LB X (.Compare a [op] [b] pos) ρ h bb h2 := fun Q q => by
  obtain ⟨r, o, hr⟩ := ho
  exact lt_of' (pt_cmpR o pe_we pe_we hm) fun σ H hs hh => ha.use hs hh fun u H1 t1 r1 d1 => hb.use (hs.mono t1) r1 fun v H2 t2 r2 d2 => hr H2 u v _ r2 (d1.mono t2) d2 fun w H' t3 r3 d3 => ⟨bb, d3.bl_inv, (t1.trans t2).trans t3, _, r3, q⟩
/-- a op1 b op2 c -/
theorem lx_chain {op op' : CmpOp} {pos : Pos} {cc : Expr} {w : D} {b1 b2 : Bool} (ha : LX X a ρ h x h1) (hb : LX X b ρ h1 y h2) (ho : F2 X (compareOp op) x y h2 (.bl b1)) (hc : b1 = true → LX X cc ρ h2 w h3) (ho' : b1 = true → F2 X (compareOp op') y w h3 (.bl b2)) (hh : b1 = false → h3 = h2)
    (hm : lastMarks [op, op'] [b, cc] = false := by with_unfolding_all rfl) : LX X (.Compare a [op, op'] [b, cc] pos) ρ h (.bl (b1 && b2)) h3 := fun Q q => by
  obtain ⟨r, o, hr⟩ := ho
  cases b1 with
  | true =>
    obtain ⟨r', o', hr'⟩ := ho' rfl
    exact le_of (pe_chain o o' pe_we pe_we pe_we hm) fun σ H hs hh => ha.use hs hh fun u H1 t1 r1 d1 => hb.use (hs.mono t1) r1 fun v H2 t2 r2 d2 => hr H2 u v _ r2 (d1.mono t2) d2 fun w H3 t3 r3 d3 =>
      ⟨true, d3.bl_inv, iteT ((hc rfl).use (hs.mono ((t1.trans t2).trans t3)) r3 fun w4 H4 t4 r4 d4 => hr' H4 v w4 _ r4 (d2.mono (t3.trans t4)) d4 fun w5 H5 t5 r5 d5 => oq_of ((((t1.trans t2).trans t3).trans t4).trans t5) r5 d5 q)⟩
  | false =>
    have e3 := hh rfl
    subst e3
    exact le_of (pe_chain o (r' := fun _ _ _ _ => False) (fun _ _ _ _ _ _ _ _ _ _ _ _ z => z.elim) pe_we pe_we pe_we hm) fun σ H hs hh => ha.use hs hh fun u H1 t1 r1 d1 => hb.use (hs.mono t1) r1 fun v H2 t2 r2 d2 => hr H2 u v _ r2 (d1.mono t2) d2 fun w H3 t3 r3 d3 =>
      ⟨false, d3.bl_inv, iteF (oq_of ((t1.trans t2).trans t3) r3 (.bl _) q)⟩
/-- values by and, or, not -/
theorem lx_one {op : BoolOp} {pos : Pos} (ha : LX X a ρ h x h1) : LX X (.BoolOp op [a] pos) ρ h x h1 := fun Q q => le_of (pe_one pe_we) fun σ H hs hh => ha.use hs hh fun v H' t r d1 => oq_of t r d1 q
theorem lx_and {rest : List Expr} {pos : Pos} {b1 b2 : Bool} (ha : LX X a ρ h (.bl b1) h1) (hb : b1 = true → LX X (.BoolOp .And (b :: rest) pos) ρ h1 (.bl b2) h2) (hh : b1 = false → h2 = h1) : LX X (.BoolOp .And (a :: b :: rest) pos) ρ h (.bl (b1 && b2)) h2 := fun Q q =>
  le_of (pe_and pe_we pe_we) fun σ H hs hr => ha.use hs hr fun v H1 t r d1 => ⟨b1, d1.bl_inv, by
    cases b1 with
    | true => exact iteT ((hb rfl).use (hs.mono t) r fun v2 H2 t2 r2 d2 => oq_of (t.trans t2) r2 d2 q)
    | false => exact iteF (oq_of t (by rw [hh rfl]; exact r) (.bl _) q)⟩
theorem lx_or {rest : List Expr} {pos : Pos} {b1 b2 : Bool} (ha : LX X a ρ h (.bl b1) h1) (hb : b1 = false → LX X (.BoolOp .Or (b :: rest) pos) ρ h1 (.bl b2) h2) (hh : b1 = true → h2 = h1) : LX X (.BoolOp .Or (a :: b :: rest) pos) ρ h (.bl (b1 || b2)) h2 := fun Q q =>
  le_of (pe_or pe_we pe_we) fun σ H hs hr => ha.use hs hr fun v H1 t r d1 => ⟨b1, d1.bl_inv, by
    cases b1 with
    | false => exact iteF ((hb rfl).use (hs.mono t) r fun v2 H2 t2 r2 d2 => oq_of (t.trans t2) r2 d2 q)
    | true => exact iteT (oq_of t (by rw [hh rfl]; exact r) (.bl _) q)⟩
theorem lx_not {pos : Pos} {b1 : Bool} (ha : LX X a ρ h (.bl b1) h1) : LX X (.UnaryOp .Not a pos) ρ h (.bl (!b1)) h1 := fun Q q =>
  le_of (pe_not pe_we) fun σ H hs hr => ha.use hs hr fun v H1 t r d1 => ⟨b1, d1.bl_inv, oq_of t r (.bl _) q⟩
theorem lx_neg {pos : Pos} {i : Int} (ha : LX X a ρ h (.int i) h1) : LX X (.UnaryOp .USub a pos) ρ h (.int (-i)) h1 := fun Q q =>
  le_of (pe_un un_neg pe_we) fun σ H hs hr => ha.use hs hr fun v H1 t r d1 => ⟨i, d1.int_inv, oq_of t r (.int _) q⟩
/-- tests -/
theorem lb_val {b1 : Bool} (ha : LX X a ρ h (.bl b1) h1) (he : ∀ whole, isTrue a X.env whole = (do let v ← whole; standAt a.pos; holding [v] (truthy v)) := by intro _; rfl) : LB X a ρ h b1 h1 := fun Q q =>
  lt_of' (pt_val pe_we he) fun σ H hs hr => ha.use hs hr fun v H1 t r d1 => ⟨b1, d1.bl_inv, t, _, r, q⟩
theorem lb_w {b1 : Bool} (ha : LBW X a ρ h b1 h1) : LB X a ρ h b1 h1 := fun Q q => lt_of' (PW.pt pw_ww) fun σ H hs hr => ha.use hs hr fun H1 t r => ⟨t, _, r, q⟩
theorem lw_and1 {pos : Pos} {b1 : Bool} (ha : LB X a ρ h b1 h1) : LBW X (.BoolOp .And [a] pos) ρ h b1 h1 := fun Q q => lw_of (pw_and1 pt_wt) fun σ H hs hr => ha.use hs hr fun H1 t r => ⟨t, _, r, q⟩
theorem lw_or1 {pos : Pos} {b1 : Bool} (ha : LB X a ρ h b1 h1) : LBW X (.BoolOp .Or [a] pos) ρ h b1 h1 := fun Q q => lw_of (pw_or1 pt_wt) fun σ H hs hr => ha.use hs hr fun H1 t r => ⟨t, _, r, q⟩
theorem lw_and {rest : List Expr} {pos : Pos} {b1 b2 : Bool} (ha : LB X a ρ h b1 h1) (hb : b1 = true → LBW X (.BoolOp .And (b :: rest) pos) ρ h1 b2 h2) (hh : b1 = false → h2 = h1) : LBW X (.BoolOp .And (a :: b :: rest) pos) ρ h (b1 && b2) h2 := fun Q q =>
  lw_of (pw_and pt_wt pw_ww) fun σ H hs hr => ha.use hs hr fun H1 t r => by
    cases b1 with
    | true => exact iteT ((hb rfl).use (hs.mono t) r fun H2 t2 r2 => ⟨t.trans t2, _, r2, q⟩)
    | false => exact iteF ⟨t, _, (by rw [hh rfl]; exact r), q⟩
theorem lw_or {rest : List Expr} {pos : Pos} {b1 b2 : Bool} (ha : LB X a ρ h b1 h1) (hb : b1 = false → LBW X (.BoolOp .Or (b :: rest) pos) ρ h1 b2 h2) (hh : b1 = true → h2 = h1) : LBW X (.BoolOp .Or (a :: b :: rest) pos) ρ h (b1 || b2) h2 := fun Q q =>
  lw_of (pw_or pt_wt pw_ww) fun σ H hs hr => ha.use hs hr fun H1 t r => by
    cases b1 with
    | false => exact iteF ((hb rfl).use (hs.mono t) r fun H2 t2 r2 => ⟨t.trans t2, _, r2, q⟩)
    | true => exact iteT ⟨t, _, (by rw [hh rfl]; exact r), q⟩
theorem lb_not {pos : Pos} {b1 : Bool} (ha : LB X a ρ h b1 h1) : LB X (.UnaryOp .Not a pos) ρ h (!b1) h1 := fun Q q => lt_of' (pt_not pt_wt) fun σ H hs hr => ha.use hs hr fun H1 t r => ⟨t, _, r, q⟩
theorem lx_if {c1 : Expr} {pos : Pos} {b1 : Bool} (hc : LB X c1 ρ h b1 h1) (ha : b1 = true → LX X a ρ h1 x h2) (hb : b1 = false → LX X b ρ h1 x h2) : LX X (.IfExp c1 a b pos) ρ h x h2 := fun Q q =>
  le_of (pe_ifExp pt_wt pe_we pe_we) fun σ H hs hr => hc.use hs hr fun H1 t r => by
    cases b1 with
    | true => exact iteT ((ha rfl).use (hs.mono t) r fun v H2 t2 r2 d2 => oq_of (t.trans t2) r2 d2 q)
    | false => exact iteF ((hb rfl).use (hs.mono t) r fun v H2 t2 r2 d2 => oq_of (t.trans t2) r2 d2 q)
/-! ### arguments, displays -/
theorem la_nil : LAX X [] ρ h [] h := fun Q q => la_of pa_nil fun σ H hs hr => ⟨TupS.refl H, [], h, hr, .nil, q⟩
theorem la_cons (ha : LX X a ρ h x h1) (hb : LAX X es ρ h1 ds h2) (hs : starEach (a :: es) X.env = (false, eval a X.env) :: starEach es X.env := by rfl) : LAX X (a :: es) ρ h (x :: ds) h2 := fun Q q =>
  la_of (pa_cons pe_we pa_wa hs) fun σ H hs hr => ha.use hs hr fun v H1 t r d1 => hb.use (hs.mono t) r fun vs H2 t2 r2 d2 => ⟨t.trans t2, _, _, r2, .cons (d1.mono t2) d2, q⟩
/-- an argument of any kind ahead -/
theorem la_consE {Q : List D → HD → Prop} (ha : LE X a ρ h fun x h1 => LA X es ρ h1 fun ds h2 => Q (x :: ds) h2) (hs : starEach (a :: es) X.env = (false, eval a X.env) :: starEach es X.env := by rfl) : LA X (a :: es) ρ h Q :=
  la_of (pa_cons pe_we pa_wa hs) fun σ H hs hr => ha.use hs hr fun v H1 x h1 t r d1 q => q.use (hs.mono t) r fun vs H2 ds h2 t2 r2 d2 q2 => ⟨t.trans t2, _, _, r2, .cons (d1.mono t2) d2, q2⟩
theorem lx_tup {x1} {pos : Pos} (ha : LAX X es ρ h ds h1) (hz : ds.length ≤ 100000 := by first | decide | simp) : LX X (.Tuple es x1 pos) ρ h (.tup ds) h1 := fun Q q =>
  le_of (pe_tup pa_wa) fun σ H hs hr => ha.use hs hr fun vs H1 t r d1 => ⟨by rw [d1.length, sizeLine_eq]; omega, fun p hp => oq_of (t.trans (TupS.new hp)) (r.skip hp) (.tup upd_same (d1.mono (TupS.new hp))) q⟩
/-- the heap behind a new list -/
theorem lnew {H0 : Hp} {vs : List V} {p : Addr} {Q : D → HD → Prop} (t : TupS H0 H) (r : RelH h H) (d1 : Dens H vs ds) (hp : H p = none) (q : ∀ p, h p = none → Q (.ref p) (updD h p (.lst ds))) : OQ H0 Q (.ref p) (upd H p (.lst vs)) :=
  oq_of (t.trans (TupS.new hp)) (r.new (o := .lst ds) hp d1) (.ref p) (q p (r.none hp))
theorem ll_disp {pos : Pos} (ha : LAX X es ρ h ds h) (hz : ds.length ≤ 100000 := by first | decide | simp) : LL X (.List es pos) ρ h ds := fun Q q =>
  le_of (pe_lst pa_wa) fun σ H hs hr => ha.use hs hr fun vs H1 t r d1 => ⟨by rw [d1.length, sizeLine_eq]; omega, fun p hp => lnew t r d1 hp q⟩
end
end
end Fy
end
section
set_option linter.all false
set_option maxRecDepth 100000
set_option maxHeartbeats 4000000
namespace Fy
open PySem PySem.Spec PyProof.Rows L2
section
variable {X : Cx} {T : Tx} {k : Nat} {N : List Str} {sc : Scope} {vt st : List Bool} {ρ ρ' : Rho} {h h1 h2 h3 : HD} {H : Hp} {σ : Sl}
variable {e a b : Expr} {es : List Expr} {d x y z : D} {ds res : List D} {bb : Bool} {pos : Pos} {E : EndsD}
/-! ### subscripts -/
def Ix2 (X : Cx) (x y : D) (h : HD) (z : D) : Prop :=
  ∃ r : R2, IxR X r ∧ ∀ (H : Hp) (u v : V) (K : VK), RelH h H → Den H u x → Den H v y → (∀ w, Den H w z → K w H) → r u v H K
theorem ix2_T {i : Int} (ha : atI ds i = some z) : Ix2 X (.tup ds) (.int i) h z := ⟨_, ix_tup, fun H u v K r a b q => by
  obtain ⟨p, vs, rfl, e1, d1⟩ := a.tup_inv
  have hz : ixN vs.length i = ixN ds.length i := by rw [d1.length]
  unfold atI at ha
  cases q1 : ixN ds.length i with
  | none => rw [q1] at ha; cases ha
  | some j =>
    rw [q1] at ha
    obtain ⟨w, e2, d2⟩ := d1.get (show ds[j]? = some z from ha)
    exact ⟨p, vs, i, w, rfl, b.int_inv, SqT.of e1, by unfold atI; rw [hz, q1]; exact e2, q w d2⟩⟩
theorem ix2_L {i : Int} {p : Addr} (hp : h p = some (.lst ds)) (ha : atI ds i = some z) : Ix2 X (.ref p) (.int i) h z := ⟨_, ix_list, fun H u v K r a b q => by
  obtain ⟨vs, e1, d1⟩ := r.lst hp
  have hz : ixN vs.length i = ixN ds.length i := by rw [d1.length]
  unfold atI at ha
  cases q1 : ixN ds.length i with
  | none => rw [q1] at ha; cases ha
  | some j =>
    rw [q1] at ha
    obtain ⟨w, e2, d2⟩ := d1.get (show ds[j]? = some z from ha)
    exact ⟨p, vs, i, w, a.ref_inv, b.int_inv, SqL.of e1, by unfold atI; rw [hz, q1]; exact e2, q w d2⟩⟩
theorem lx_ix (ha : LX X a ρ h x h1) (hb : LX X b ρ h1 y h2) (ho : Ix2 X x y h2 z) (hs : PlainIx b := by exact fun _ _ => rfl) : LX X (.Subscript a b pos) ρ h z h2 := fun Q q => by
  obtain ⟨r, o, hr⟩ := ho
  exact le_of (pe_ix o pe_we pe_we hs) fun σ H hs hh => ha.use hs hh fun u H1 t1 r1 d1 => hb.use (hs.mono t1) r1 fun v H2 t2 r2 d2 => hr H2 u v _ r2 (d1.mono t2) d2 fun w d3 => oq_of (t1.trans t2) r2 d3 q
theorem atI_nat' {ds : List D} {i : Int} (h0 : 0 ≤ i) (h1 : ds[i.toNat]? = some z) : atI ds i = some z := by
  have := atI_nat (j := i.toNat) h1
  rwa [Int.toNat_of_nonneg h0] at this
/-! ### slices -/
def cutD (xs : List D) (lo hi : Option Int) : List D := (xs.drop (HT.sIx xs.length 0 lo)).take (HT.sIx xs.length xs.length hi - HT.sIx xs.length 0 lo)
theorem Dens.cut {vs : List V} (q : Dens H vs ds) (lo hi : Option Int) : Dens H (cutV vs lo hi) (cutD ds lo hi) := by
  unfold cutV cutD
  rw [q.length]
  exact (q.drop _).take _
def LO (X : Cx) (e : Option Expr) (ρ : Rho) (h : HD) (o : Option Int) (h' : HD) : Prop := ∃ t, PO X e t ∧ ∀ σ H K, DenS H σ ρ → RelH h H → (∀ H', TupS H H' → RelH h' H' → K o H') → t σ H K
theorem lo_none : LO X none ρ h none h := ⟨_, po_none, fun σ H K hs hr q => q H (TupS.refl H) hr⟩
theorem lo_some {i : Int} (ha : LX X a ρ h (.int i) h1) : LO X (some a) ρ h (some i) h1 := ⟨_, po_some pe_we, fun σ H K hs hr q => ha.use hs hr fun v H' t r d1 => ⟨i, d1.int_inv, q H' t r⟩⟩
/-- a cut of a tuple -/
theorem lx_cutT {lo hi : Option Expr} {l u : Option Int} {p2 : Pos} (ha : LX X a ρ h (.tup ds) h1) (hl : LO X lo ρ h1 l h2) (hh : LO X hi ρ h2 u h3) : LX X (.Subscript a (.Slice lo hi none p2) pos) ρ h (.tup (cutD ds l u)) h3 := fun Q q => by
  obtain ⟨tl, pl, ql⟩ := hl
  obtain ⟨th, ph, qh⟩ := hh
  refine le_of (pe_slice sl_tupA pe_we pl ph) fun σ H hs hr => ha.use hs hr fun v H1 t1 r1 d1 => ql σ H1 _ (hs.mono t1) r1 fun H2 t2 r2 => qh σ H2 _ (hs.mono (t1.trans t2)) r2 fun H3 t3 r3 => ?_
  obtain ⟨p, vs, rfl, e1, dd⟩ := (d1.mono (t2.trans t3)).tup_inv
  have t := (t1.trans t2).trans t3
  refine ⟨p, vs, rfl, SqT.of e1, fun hw => oq_of t r3 ?_ q, fun _ p hp => oq_of (t.trans (TupS.new hp)) (r3.skip hp) (.tup upd_same ((dd.cut l u).mono (TupS.new hp))) q⟩
  have e2 : cutD ds l u = ds := by
    unfold cutD
    rw [← dd.length, hw.1, hw.2, List.drop_zero, Nat.sub_zero, dd.length, List.take_length]
  rw [e2]
  exact .tup e1 dd
/-- a cut of a list -/
theorem ll_cutL {lo hi : Option Expr} {l u : Option Int} {p2 : Pos} {p : Addr} (ha : LX X a ρ h (.ref p) h) (hl : LO X lo ρ h l h) (hh : LO X hi ρ h u h) (hp : h p = some (.lst ds)) : LL X (.Subscript a (.Slice lo hi none p2) pos) ρ h (cutD ds l u) := fun Q q => by
  obtain ⟨tl, pl, ql⟩ := hl
  obtain ⟨th, ph, qh⟩ := hh
  refine le_of (pe_slice sl_list pe_we pl ph) fun σ H hs hr => ha.use hs hr fun v H1 t1 r1 d1 => ql σ H1 _ (hs.mono t1) r1 fun H2 t2 r2 => qh σ H2 _ (hs.mono (t1.trans t2)) r2 fun H3 t3 r3 => ?_
  have t := (t1.trans t2).trans t3
  obtain ⟨vs, e1, dd⟩ := r3.lst hp
  exact ⟨p, vs, d1.ref_inv, SqL.of e1, fun p' hp' => lnew t r3 (dd.cut l u) hp' q⟩
theorem cutD_to (xs : List D) (n : Nat) : cutD xs none (some (n : Int)) = xs.take n := by
  unfold cutD
  rw [HT.sIx_none, HT.sIx_nat, List.drop_zero, Nat.sub_zero]
  by_cases hn : n ≤ xs.length
  · rw [Nat.min_eq_left hn]
  · rw [Nat.min_eq_right (by omega), List.take_length, List.take_of_length_le (by omega)]
theorem cutD_from (xs : List D) (n : Nat) : cutD xs (some (n : Int)) none = xs.drop n := by
  unfold cutD
  rw [HT.sIx_none, HT.sIx_nat]
  by_cases hn : n ≤ xs.length
  · rw [Nat.min_eq_left hn, List.take_of_length_le (by rw [List.length_drop]; omega)]
  · rw [Nat.min_eq_right (by omega), List.drop_length, List.drop_of_length_le (by omega)]
    simp
theorem cutD_mid (xs : List D) (m n : Nat) (hm : m ≤ n) : cutD xs (some (m : Int)) (some (n : Int)) = (xs.drop m).take (n - m) := by
  unfold cutD
  rw [HT.sIx_nat, HT.sIx_nat]
  by_cases hn : n ≤ xs.length
  · rw [Nat.min_eq_left hn, Nat.min_eq_left (by omega)]
  · rw [Nat.min_eq_right (show xs.length ≤ n by omega)]
    by_cases hm2 : m ≤ xs.length
    · rw [Nat.min_eq_left hm2, List.take_of_length_le (by rw [List.length_drop]; omega), List.take_of_length_le (by rw [List.length_drop]; omega)]
    · rw [Nat.min_eq_right (by omega), List.drop_length, List.drop_of_length_le (by omega)]
      simp
/-! ### built-ins by name -/
/-- a call of f with ds gives z, the heap then h' -/
def CB (X : Cx) (f : Value) (ds : List D) (h : HD) (z : D) (h' : HD) : Prop :=
  ∃ r, CallR X f r ∧ ∀ (H : Hp) (vs : List V) (K : VK), RelH h H → Dens H vs ds → (∀ w H', TupS H H' → RelH h' H' → Den H' w z → K w H') → r vs H K
/-- .. a new list -/
def CBL (X : Cx) (f : Value) (ds : List D) (h : HD) (res : List D) : Prop :=
  ∃ r, CallR X f r ∧ ∀ (H : Hp) (vs : List V) (K : VK), RelH h H → Dens H vs ds → (∀ p ws, H p = none → Dens H ws res → K (.ref p) (upd H p (.lst ws))) → r vs H K
theorem lx_callB {nm : Str} {id : String} {p : Pos} (c : Ctx X T k N sc vt st) (C : CB X (.builtin id) ds h1 z h2) (ha : LAX X (e :: es) ρ h ds h1) (hg : globB sc nm = true) (hm : T.mg nm = none) (hv : bootBuiltins nm = some (.builtin id))
    (hn : nm ≠ "__name__" := by decide) (hdb : (nm == ("__debug__" : Str)) = false := by decide) (he : starEach (e :: es) X.env = (false, eval e X.env) :: starEach es X.env := by rfl) (hpl : (backTo pos (starEach es X.env)).any (·.1) = false := by rfl) :
    LX X (.Call (.Name nm p) (e :: es) [] pos) ρ h z h2 := fun Q q => by
  obtain ⟨r, o, hr⟩ := C
  exact le_of (pe_callB o (c.gl hg) (by rw [c.hmg]; exact hm) hv pa_wa hn hdb he hpl) fun σ H hs hh => ha.use hs hh fun vs H1 t1 r1 d1 => hr H1 vs _ r1 d1 fun w H' t2 r2 d2 => oq_of (t1.trans t2) r2 d2 q
theorem lx_callTy {nm : Str} {id : String} {p : Pos} (c : Ctx X T k N sc vt st) (C : CB X (.type id) ds h1 z h2) (ha : LAX X (e :: es) ρ h ds h1) (hg : globB sc nm = true) (hm : T.mg nm = none) (hv : bootBuiltins nm = some (.type id))
    (hn : nm ≠ "__name__" := by decide) (hdb : (nm == ("__debug__" : Str)) = false := by decide) (he : starEach (e :: es) X.env = (false, eval e X.env) :: starEach es X.env := by rfl) (hpl : (backTo pos (starEach es X.env)).any (·.1) = false := by rfl) :
    LX X (.Call (.Name nm p) (e :: es) [] pos) ρ h z h2 := fun Q q => by
  obtain ⟨r, o, hr⟩ := C
  exact le_of (pe_callTy o (c.gl hg) (by rw [c.hmg]; exact hm) hv pa_wa hn hdb he hpl) fun σ H hs hh => ha.use hs hh fun vs H1 t1 r1 d1 => hr H1 vs _ r1 d1 fun w H' t2 r2 d2 => oq_of (t1.trans t2) r2 d2 q
theorem ll_callB {nm : Str} {id : String} {p : Pos} (c : Ctx X T k N sc vt st) (C : CBL X (.builtin id) ds h res) (ha : LAX X (e :: es) ρ h ds h) (hg : globB sc nm = true) (hm : T.mg nm = none) (hv : bootBuiltins nm = some (.builtin id))
    (hn : nm ≠ "__name__" := by decide) (hdb : (nm == ("__debug__" : Str)) = false := by decide) (he : starEach (e :: es) X.env = (false, eval e X.env) :: starEach es X.env := by rfl) (hpl : (backTo pos (starEach es X.env)).any (·.1) = false := by rfl) :
    LL X (.Call (.Name nm p) (e :: es) [] pos) ρ h res := fun Q q => by
  obtain ⟨r, o, hr⟩ := C
  exact le_of (pe_callB o (c.gl hg) (by rw [c.hmg]; exact hm) hv pa_wa hn hdb he hpl) fun σ H hs hh => ha.use hs hh fun vs H1 t1 r1 d1 => hr H1 vs _ r1 d1 fun p ws hp d2 => lnew t1 r1 d2 hp q
theorem ll_callTy {nm : Str} {id : String} {p : Pos} (c : Ctx X T k N sc vt st) (C : CBL X (.type id) ds h res) (ha : LAX X (e :: es) ρ h ds h) (hg : globB sc nm = true) (hm : T.mg nm = none) (hv : bootBuiltins nm = some (.type id))
    (hn : nm ≠ "__name__" := by decide) (hdb : (nm == ("__debug__" : Str)) = false := by decide) (he : starEach (e :: es) X.env = (false, eval e X.env) :: starEach es X.env := by rfl) (hpl : (backTo pos (starEach es X.env)).any (·.1) = false := by rfl) :
    LL X (.Call (.Name nm p) (e :: es) [] pos) ρ h res := fun Q q => by
  obtain ⟨r, o, hr⟩ := C
  exact le_of (pe_callTy o (c.gl hg) (by rw [c.hmg]; exact hm) hv pa_wa hn hdb he hpl) fun σ H hs hh => ha.use hs hh fun vs H1 t1 r1 d1 => hr H1 vs _ r1 d1 fun p ws hp d2 => lnew t1 r1 d2 hp q
/-- the argument a new list that is thrown away -/
theorem lx_callBL {nm : Str} {id : String} {p : Pos} (c : Ctx X T k N sc vt st) (C : ∀ p, h p = none → CB X (.builtin id) [.ref p] (updD h p (.lst ds)) z (updD h p (.lst ds))) (ha : LL X e ρ h ds) (hg : globB sc nm = true) (hm : T.mg nm = none) (hv : bootBuiltins nm = some (.builtin id))
    (hn : nm ≠ "__name__" := by decide) (hdb : (nm == ("__debug__" : Str)) = false := by decide) (he : starEach [e] X.env = (false, eval e X.env) :: starEach [] X.env := by rfl) :
    LX X (.Call (.Name nm p) [e] [] pos) ρ h z h := fun Q q => fun σ H hs hh pins s I => by
  have ha' := ha (fun d1 h' => ∃ p, h p = none ∧ d1 = .ref p ∧ h' = updD h p (.lst ds)) (fun p hp => ⟨p, hp, rfl, rfl⟩)
  refine wpAny_Call_Name_kw (ld_blt I (c.gl hg) (by rw [c.hmg]; exact hm) hv ?_ hn hdb)
  refine PyProof.Rows.callWith_builtin1 (thn ((pa_cons (es := []) pe_we pa_nil he).run pos pins s σ H (fun vs H1 => ∃ v p, vs = [v] ∧ TupS H H1 ∧ RelH (updD h p (.lst ds)) H1 ∧ Den H1 v (.ref p) ∧ h p = none) I ?_) fun us s1 ⟨vs, H1, I1, rv, v, p, ev, t1, r1, d1, hp⟩ => ?_) he rfl
  · exact ha'.use hs hh fun v H1 d' h' t r d1 ⟨p, hp, e1, e2⟩ => by
      subst e1 e2
      exact ⟨v, p, rfl, t, r, d1, hp⟩
  · obtain ⟨r, o, hr⟩ := C p hp
    subst ev
    exact o pins s1 σ H1 [v] us _ I1 rv (hr H1 [v] _ r1 (.cons d1 .nil) fun w H' t2 r2 d2 => oq_of (t1.trans t2) (r2.sub (Sub.new hp)) d2 q)
theorem lx_callTyL {nm : Str} {id : String} {p : Pos} (c : Ctx X T k N sc vt st) (C : ∀ p, h p = none → CB X (.type id) [.ref p] (updD h p (.lst ds)) z (updD h p (.lst ds))) (ha : LL X e ρ h ds) (hg : globB sc nm = true) (hm : T.mg nm = none) (hv : bootBuiltins nm = some (.type id))
    (hn : nm ≠ "__name__" := by decide) (hdb : (nm == ("__debug__" : Str)) = false := by decide) (he : starEach [e] X.env = (false, eval e X.env) :: starEach [] X.env := by rfl) :
    LX X (.Call (.Name nm p) [e] [] pos) ρ h z h := fun Q q => fun σ H hs hh pins s I => by
  have ha' := ha (fun d1 h' => ∃ p, h p = none ∧ d1 = .ref p ∧ h' = updD h p (.lst ds)) (fun p hp => ⟨p, hp, rfl, rfl⟩)
  refine wpAny_Call_Name_kw (ld_blt I (c.gl hg) (by rw [c.hmg]; exact hm) hv ?_ hn hdb)
  refine PyProof.Rows.callWith_type1 (thn ((pa_cons (es := []) pe_we pa_nil he).run pos pins s σ H (fun vs H1 => ∃ v p, vs = [v] ∧ TupS H H1 ∧ RelH (updD h p (.lst ds)) H1 ∧ Den H1 v (.ref p) ∧ h p = none) I ?_) fun us s1 ⟨vs, H1, I1, rv, v, p, ev, t1, r1, d1, hp⟩ => ?_) he rfl
  · exact ha'.use hs hh fun v H1 d' h' t r d1 ⟨p, hp, e1, e2⟩ => by
      subst e1 e2
      exact ⟨v, p, rfl, t, r, d1, hp⟩
  · obtain ⟨r, o, hr⟩ := C p hp
    subst ev
    exact o pins s1 σ H1 [v] us _ I1 rv (hr H1 [v] _ r1 (.cons d1 .nil) fun w H' t2 r2 d2 => oq_of (t1.trans t2) (r2.sub (Sub.new hp)) d2 q)
/-! ### which built-ins -/
theorem Dens.one_inv {vs : List V} (q : Dens H vs [d]) : ∃ v, vs = [v] ∧ Den H v d := by
  cases q with
  | cons a b => cases b; exact ⟨_, rfl, a⟩
theorem Dens.two_inv {vs : List V} (q : Dens H vs [x, y]) : ∃ v w, vs = [v, w] ∧ Den H v x ∧ Den H w y := by
  cases q with
  | cons a b =>
    obtain ⟨w, rfl, b'⟩ := b.one_inv
    exact ⟨_, _, rfl, a, b'⟩
theorem cb_lenT : CB X (.builtin "len") [.tup ds] h (.int ds.length) h := ⟨_, call_len_seq, fun H vs K r q k => by
  obtain ⟨v, rfl, dv⟩ := q.one_inv
  obtain ⟨p, ws, rfl, e1, d1⟩ := dv.tup_inv
  exact ⟨p, ws, rfl, .inr (SqT.of e1), by rw [d1.length]; exact k _ H (TupS.refl H) r (.int _)⟩⟩
theorem cb_lenL {p : Addr} (hp : h p = some (.lst ds)) : CB X (.builtin "len") [.ref p] h (.int ds.length) h := ⟨_, call_len_seq, fun H vs K r q k => by
  obtain ⟨v, rfl, dv⟩ := q.one_inv
  obtain ⟨ws, e1, d1⟩ := r.lst hp
  exact ⟨p, ws, by rw [dv.ref_inv], .inl (SqL.of e1), by rw [d1.length]; exact k _ H (TupS.refl H) r (.int _)⟩⟩
theorem cb_abs {i : Int} : CB X (.builtin "abs") [.int i] h (.int (if i < 0 then -i else i)) h := ⟨_, call_abs, fun H vs K r q k => by
  obtain ⟨v, rfl, dv⟩ := q.one_inv
  exact ⟨i, by rw [dv.int_inv], k _ H (TupS.refl H) r (.int _)⟩⟩
theorem cb_int {i : Int} : CB X (.type "int") [.int i] h (.int i) h := ⟨_, call_int1, fun H vs K r q k => by
  obtain ⟨v, rfl, dv⟩ := q.one_inv
  exact .inl ⟨i, by rw [dv.int_inv], k _ H (TupS.refl H) r (.int _)⟩⟩
theorem cb_intB {i : Bool} : CB X (.type "int") [.bl i] h (.int (if i then 1 else 0)) h := ⟨_, call_int1, fun H vs K r q k => by
  obtain ⟨v, rfl, dv⟩ := q.one_inv
  exact .inr ⟨i, by rw [dv.bl_inv], k _ H (TupS.refl H) r (.int _)⟩⟩
theorem cb_max2 (c : Ctx X T k N sc vt st) {i j : Int} : CB X (.builtin "max") [.int i, .int j] h (.int (if j > i then j else i)) h := ⟨_, call_max2 c.calm, fun H vs K r q k => by
  obtain ⟨v, w, rfl, dv, dw⟩ := q.two_inv
  exact ⟨i, j, by rw [dv.int_inv, dw.int_inv], k _ H (TupS.refl H) r (.int _)⟩⟩
theorem cb_min2 (c : Ctx X T k N sc vt st) {i j : Int} : CB X (.builtin "min") [.int i, .int j] h (.int (if j < i then j else i)) h := ⟨_, call_min2 c.calm, fun H vs K r q k => by
  obtain ⟨v, w, rfl, dv, dw⟩ := q.two_inv
  exact ⟨i, j, by rw [dv.int_inv, dw.int_inv], k _ H (TupS.refl H) r (.int _)⟩⟩
theorem Dens.ints {vs : List V} : ∀ {ns : List Int}, Dens H vs (ns.map .int) → vs = ns.map V.int := by
  intro ns
  induction ns generalizing vs with
  | nil => intro q; cases q; rfl
  | cons n r ih =>
    intro q
    cases q with
    | cons a b => rw [a.int_inv, ih b]; rfl
theorem Dens.bls {vs : List V} : ∀ {ns : List Bool}, Dens H vs (ns.map .bl) → vs = ns.map V.bl := by
  intro ns
  induction ns generalizing vs with
  | nil => intro q; cases q; rfl
  | cons n r ih =>
    intro q
    cases q with
    | cons a b => rw [a.bl_inv, ih b]; rfl
theorem dens_ints (ns : List Int) : Dens H (ns.map V.int) (ns.map .int) := by
  induction ns with
  | nil => exact .nil
  | cons n r ih => exact .cons (.int n) ih
theorem cb_maxL (c : Ctx X T k N sc vt st) {p : Addr} {ns : List Int} {m : Int} (hp : h p = some (.lst (ns.map .int))) (h0 : 0 < ns.length) (hm : m ∈ ns) (hle : ∀ y ∈ ns, y ≤ m) : CB X (.builtin "max") [.ref p] h (.int m) h :=
  ⟨_, cr_max c.calm, fun H vs K r q k => by
    obtain ⟨v, rfl, dv⟩ := q.one_inv
    obtain ⟨ws, e1, d1⟩ := r.lst hp
    have e2 := d1.ints
    subst e2
    refine ⟨p, ns, by rw [dv.ref_inv], SqL.of e1, h0, fun m' h1 h2 => ?_⟩
    have e3 : m' = m := Int.le_antisymm (hle m' h1) (h2 m hm)
    subst e3
    exact k _ H (TupS.refl H) r (.int _)⟩
theorem cb_all (c : Ctx X T k N sc vt st) {p : Addr} {bs : List Bool} (hp : h p = some (.lst (bs.map .bl))) : CB X (.builtin "all") [.ref p] h (.bl (bs.all id)) h := ⟨_, cr_all c.calm, fun H vs K r q k => by
  obtain ⟨v, rfl, dv⟩ := q.one_inv
  obtain ⟨ws, e1, d1⟩ := r.lst hp
  have e2 := d1.bls
  subst e2
  exact ⟨p, bs, by rw [dv.ref_inv], SqL.of e1, k _ H (TupS.refl H) r (.bl _)⟩⟩
theorem cb_any (c : Ctx X T k N sc vt st) {p : Addr} {bs : List Bool} (hp : h p = some (.lst (bs.map .bl))) : CB X (.builtin "any") [.ref p] h (.bl (bs.any id)) h := ⟨_, cr_any c.calm, fun H vs K r q k => by
  obtain ⟨v, rfl, dv⟩ := q.one_inv
  obtain ⟨ws, e1, d1⟩ := r.lst hp
  have e2 := d1.bls
  subst e2
  exact ⟨p, bs, by rw [dv.ref_inv], SqL.of e1, k _ H (TupS.refl H) r (.bl _)⟩⟩
theorem cb_tupL {p : Addr} (hp : h p = some (.lst ds)) : CB X (.type "tuple") [.ref p] h (.tup ds) h := ⟨_, call_tuple_of, fun H vs K r q k => by
  obtain ⟨v, rfl, dv⟩ := q.one_inv
  obtain ⟨ws, e1, d1⟩ := r.lst hp
  exact ⟨p, ws, by rw [dv.ref_inv], .inl ⟨SqL.of e1, fun l hl => k _ _ (TupS.new hl) (r.skip hl) (.tup upd_same (d1.mono (TupS.new hl)))⟩⟩⟩
theorem cb_tupT : CB X (.type "tuple") [.tup ds] h (.tup ds) h := ⟨_, call_tuple_of, fun H vs K r q k => by
  obtain ⟨v, rfl, dv⟩ := q.one_inv
  obtain ⟨p, ws, rfl, e1, d1⟩ := dv.tup_inv
  exact ⟨p, ws, rfl, .inr ⟨SqT.of e1, k _ H (TupS.refl H) r dv⟩⟩⟩
theorem cbl_listT : CBL X (.type "list") [.tup ds] h ds := ⟨_, call_list_of, fun H vs K r q k => by
  obtain ⟨v, rfl, dv⟩ := q.one_inv
  obtain ⟨p, ws, rfl, e1, d1⟩ := dv.tup_inv
  exact ⟨p, ws, rfl, .inr (SqT.of e1), fun l hl => k l ws hl d1⟩⟩
theorem cbl_listL {p : Addr} (hp : h p = some (.lst ds)) : CBL X (.type "list") [.ref p] h ds := ⟨_, call_list_of, fun H vs K r q k => by
  obtain ⟨v, rfl, dv⟩ := q.one_inv
  obtain ⟨ws, e1, d1⟩ := r.lst hp
  exact ⟨p, ws, by rw [dv.ref_inv], .inl (SqL.of e1), fun l hl => k l ws hl d1⟩⟩
/-! ### defs of the text -/
abbrev FS := List D → HD → (D → HD → Prop) → Prop
def Lsp (f : FS) : Sp := fun vs H Q _ => ∃ ds h Qd, Dens H vs ds ∧ RelH h H ∧ f ds h Qd ∧ ∀ v H', OQ H Qd v H' → Q v H'
/-- the def x stands, and keeps its promise by level j -/
def Has (T : Tx) (j : Nat) (x : Str) (ps : List Str) (fs : FS) : Prop :=
  ∃ f fd, T.mg x = some (.ref f) ∧ PySem.W.keepIn T.K (.ref f) = true ∧ Binds T.K fd ps [] ∧ FnOk T.P T.w T.K T.mg T.base CX0 j f fd ps (Lsp fs)
theorem Has.mono {i j : Nat} {nm : Str} {ps : List Str} {fs : FS} (g : Has T i nm ps fs) (hj : i ≤ j) : Has T j nm ps fs :=
  let ⟨f, fd, a, b, c, F⟩ := g; ⟨f, fd, a, b, c, F.mono hj⟩
theorem le_call {j : Nat} {nm : Str} {ps : List Str} {fs : FS} {p : Pos} {Q : D → HD → Prop} (c : Ctx X T k N sc vt st) (g : Has T j nm ps fs) (hj : j ≤ k) (hg : globB sc nm = true) (ha : LA X (e :: es) ρ h fun ds h1 => fs ds h1 Q)
    (hdb : (nm == ("__debug__" : Str)) = false := by decide) (he : starEach (e :: es) X.env = (false, eval e X.env) :: starEach es X.env := by rfl) (hpl : (backTo pos (starEach es X.env)).any (·.1) = false := by rfl) :
    LE X (.Call (.Name nm p) (e :: es) [] pos) ρ h Q := by
  obtain ⟨f, fd, a, b, bi, F⟩ := g
  refine le_of (pe_call (dvs := []) (E := E0) (by rw [c.hP, c.hw, c.hK, c.hmg, c.hbase]; exact F) (c.room.mono hj) (c.gl hg) (by rw [c.hmg]; exact a) (by rw [c.hK]; exact b) (by rw [c.hK]; exact bi) .nil pass0 pa_wa hdb he hpl) fun σ H hs hh => ?_
  refine ha.use hs hh fun vs H1 ds h1 t1 r1 d1 q => ?_
  refine ⟨ds, h1, Q, by rw [List.append_nil]; exact d1, r1, q, fun v H' o => o.mono t1 fun _ _ z => z⟩
theorem lx_call {j : Nat} {nm : Str} {ps : List Str} {fs : FS} {p : Pos} (c : Ctx X T k N sc vt st) (g : Has T j nm ps fs) (hj : j ≤ k) (hg : globB sc nm = true) (ha : LAX X (e :: es) ρ h ds h1) (hf : ∀ Q : D → HD → Prop, Q z h2 → fs ds h1 Q)
    (hdb : (nm == ("__debug__" : Str)) = false := by decide) (he : starEach (e :: es) X.env = (false, eval e X.env) :: starEach es X.env := by rfl) (hpl : (backTo pos (starEach es X.env)).any (·.1) = false := by rfl) :
    LX X (.Call (.Name nm p) (e :: es) [] pos) ρ h z h2 := fun Q q => le_call c g hj hg (ha _ (hf Q q)) hdb he hpl
theorem ll_call {j : Nat} {nm : Str} {ps : List Str} {fs : FS} {p : Pos} (c : Ctx X T k N sc vt st) (g : Has T j nm ps fs) (hj : j ≤ k) (hg : globB sc nm = true) (ha : LAX X (e :: es) ρ h ds h) (hf : ∀ Q : D → HD → Prop, (∀ p, h p = none → Q (.ref p) (updD h p (.lst res))) → fs ds h Q)
    (hdb : (nm == ("__debug__" : Str)) = false := by decide) (he : starEach (e :: es) X.env = (false, eval e X.env) :: starEach es X.env := by rfl) (hpl : (backTo pos (starEach es X.env)).any (·.1) = false := by rfl) :
    LL X (.Call (.Name nm p) (e :: es) [] pos) ρ h res := fun Q q => le_call c g hj hg (ha _ (hf Q q)) hdb he hpl
/-! ### statements -/
section
variable {s : Stmt} {ss : List Stmt}
theorem OS.up {H0 H1 : Hp} {Q : Rho → HD → Prop} (t : TupS H0 H1) {σ' : Sl} {H' : Hp} (q : OS H1 Q σ' H') : OS H0 Q σ' H' := q.mono t fun _ _ z => z
theorem ends_up {H0 H1 : Hp} (t : TupS H0 H1) (w : WSs X ss (endsOf H1 E) σ H) : WSs X ss (endsOf H0 E) σ H :=
  w.mono (fun _ _ q => OS.up t q) (fun _ _ q => q.mono t fun _ _ z => z) (fun _ _ q => OS.up t q) (fun _ _ q => OS.up t q)
theorem LSs.use (l : LSs X ss ρ h E) (a : DenS H σ ρ) (b : RelH h H) {H0 : Hp} (t : TupS H0 H) : WSs X ss (endsOf H0 E) σ H := ends_up t (l σ H a b)
theorem lss_nil (q : E.nx ρ h) : LSs X [] ρ h E := lss_of pss_nil fun σ H hs hr => ⟨TupS.refl H, ρ, h, hs, hr, q⟩
theorem lss_cons (h1 : LS X s ρ h { E with nx := fun ρ' h' => LSs X ss ρ' h' E }) : LSs X (s :: ss) ρ h E := lss_of (pss_cons ps_ws pss_wss) fun σ H hs hr => by
  refine (h1 σ H hs hr).mono (fun σ' H' q => ?_) (fun _ _ q => q) (fun _ _ q => q) (fun _ _ q => q)
  obtain ⟨t, ρ', h', d1, r1, q⟩ := q
  exact q.use d1 r1 t
theorem lss_one (h1 : LS X s ρ h E) : LSs X [s] ρ h E := lss_of (pss_one ps_ws) fun σ H hs hr => h1 σ H hs hr
theorem ls_pass (q : E.nx ρ h) : LS X (.Pass pos) ρ h E := ls_of ps_pass fun σ H hs hr => ⟨TupS.refl H, ρ, h, hs, hr, q⟩
theorem ls_expr (he : LE X e ρ h fun _ h' => E.nx ρ h') (hs : swapsWith e none pos.line X.env = pure false := by rfl) : LS X (.Expr e pos) ρ h E := ls_of (ps_expr pe_we hs) fun σ H hs hr =>
  he.use hs hr fun v H' d h' t r d1 q => ⟨t, ρ, h', hs.mono t, r, q⟩
theorem ls_ret (he : LE X e ρ h E.rt) : LS X (.Return (some e) pos) ρ h E := ls_of (ps_ret pe_we) fun σ H hs hr => he σ H hs hr
theorem ls_set (c : Ctx X T k N sc vt st) {nm : Str} {pos' : Pos} (i : Nat) (hi : N[i]? = some nm) (hl : st[i]? = some true) (he : LE X e ρ h fun d h' => E.nx (ρ.set i (some d)) h') (hs : swapsWith e (some (.Name nm pos')) pos.line X.env = pure false := by rfl) :
    LS X (.Assign [.Name nm pos'] e pos) ρ h E :=
  ls_of (ps_set (i := i) (by rw [c.hN]; exact c.nd) (by rw [c.hN]; exact hi) (by rw [c.hsc]; exact (c.loc i nm hi hl).1) pe_we hs (c.loc i nm hi hl).2) fun σ H hs hr =>
    he.use hs hr fun v H' d h' t r d1 q => ⟨t, _, h', (hs.mono t).set d1 i, r, q⟩
theorem ls_if {c1 : Expr} {A B : List Stmt} (hc : LT X c1 ρ h fun b h' => (b = true → LSs X A ρ h' E) ∧ (b = false → LSs X B ρ h' E)) : LS X (.If c1 A B pos) ρ h E := ls_of (ps_if pt_wt pss_wss pss_wss) fun σ H hs hr =>
  hc.use hs hr fun b H' h' t r q => by
    cases b with
    | true => exact iteT ((q.1 rfl).use (hs.mono t) r t)
    | false => exact iteF ((q.2 rfl).use (hs.mono t) r t)
theorem ls_ifB {c1 : Expr} {A B : List Stmt} (hc : LB X c1 ρ h bb h1) (hA : bb = true → LSs X A ρ h1 E) (hB : bb = false → LSs X B ρ h1 E) : LS X (.If c1 A B pos) ρ h E := ls_if (hc _ ⟨hA, hB⟩)
theorem ls_aug (c : Ctx X T k N sc vt st) {nm : Str} {pos' : Pos} (i : Nat) {m n : Int} (hi : N[i]? = some nm) (hl : st[i]? = some true) (hr : ρ[i]? = some (some (.int m))) (he : LX X e ρ h (.int n) h1) (q : E.nx (ρ.set i (some (.int (m + n)))) h1) :
    LS X (.AugAssign (.Name nm pos') .Add e pos) ρ h E :=
  ls_of (ps_aug (i := i) (by rw [c.hN]; exact c.nd) (by rw [c.hN]; exact hi) (by rw [c.hsc]; exact (c.loc i nm hi hl).1) pe_we ip_add (c.loc i nm hi hl).2) fun σ H hs hh => by
    obtain ⟨v, e1, d1⟩ := hs.get hr
    refine ⟨v, e1, he.use hs hh fun w H' t r d2 => ⟨m, n, d1.int_inv, d2.int_inv, t, _, _, (hs.mono t).set (.int (m + n)) i, r, q⟩⟩
theorem ls_never : False → LS X s ρ h E := fun z => z.elim
theorem lss_never : False → LSs X ss ρ h E := fun z => z.elim
end
/-! ### a def by its body -/
def startD (N : List Str) (ds : List D) : Rho := ds.map some ++ List.replicate (N.length - ds.length) none
theorem dens_start (N : List Str) {vs : List V} (q : Dens H vs ds) : DenS H (L2.start N vs) (startD N ds) := by
  unfold L2.start startD
  rw [q.length]
  have A : ∀ n, DenS H (List.replicate n none) (List.replicate n none) := fun n => by
    induction n with
    | zero => exact .nil
    | succ n ih => exact .cons True.intro ih
  have B : ∀ {vs : List V} {ds : List D} {σ : Sl} {ρ : Rho}, Dens H vs ds → DenS H σ ρ → DenS H (vs.map some ++ σ) (ds.map some ++ ρ) := by
    intro vs ds σ ρ q
    induction q using Dens.rec (motive_1 := fun _ _ _ => True) with
    | nil => exact fun z => z
    | cons a b _ ih => exact fun z => .cons ⟨_, rfl, a⟩ (ih z)
    | _ => trivial
  exact B q (A _)
/-- forget what is new -/
def Fg (Q : HD → Prop) (h' : HD) : Prop := ∃ h0, Sub h0 h' ∧ Q h0
theorem Fg.of {Q : HD → Prop} (q : Q h) : Fg Q h := ⟨h, Sub.refl h, q⟩
theorem Fg.to {Q : HD → Prop} (s : Sub h h1) (q : Q h) : Fg Q h1 := ⟨h, s, q⟩
theorem fn_ok {x qual : Str} {stm : Stmt} {f : Addr} {fd : FuncData} {N ps : List Str} {vt : List Bool} {k : Nat} {fs : FS} (F : Fun T.K x qual stm f fd) (S : FnScope N ps (defScope stm)) (hv : N.map (locB (defScope stm)) = vt) (len : ∀ ds h Q, fs ds h Q → ds.length = ps.length)
    (body : ∀ X, Ctx X T k N (defScope stm) vt vt → ∀ ds h Q, fs ds h Q → LSs X (defBody stm) (startD N ds) h { nx := fun _ h' => Fg (Q .non) h', rt := fun d h' => Fg (Q d) h' }) :
    FnOk T.P T.w T.K T.mg T.base CX0 (k + 1) f fd ps (Lsp fs) := by
  refine F.ok S (fun vs H Q E h => ?_) (fun cdv A outer s H vs Q E hr h => ?_)
  · obtain ⟨ds, h, Qd, d1, _, q, _⟩ := h
    rw [d1.length]
    exact len _ _ _ q
  · obtain ⟨ds, h, Qd, d1, r1, q, o⟩ := h
    generalize hX : (cxOf CX0 T.P T.w T.K T.mg T.base N qual (defScope stm) f cdv A outer s H E).nox = X
    have c : Ctx X T k N (defScope stm) vt vt := by
      subst hX
      refine ⟨rfl, rfl, rfl, rfl, rfl, hr, rfl, S.nd, rfl, rfl, rfl, fun i x hi hv' => ?_, fun i x hi hv' => ⟨?_, .inl rfl⟩⟩
      · rw [← hv] at hv'
        have := locB_of (get_map_true hi hv')
        rcases this with z | z
        · exact .inl z
        · exact .inr (.inl z)
      · rw [← hv] at hv'
        exact locB_of (get_map_true hi hv')
    have B := body X c ds h Qd q
    refine ⟨WSs X (defBody stm), pss_wss, (B (L2.start N vs) H (dens_start N d1) r1).mono (fun σ' H' z => ?_) (fun v H' z => ?_) (fun σ' H' z => ?_) (fun σ' H' z => ?_)⟩
    · obtain ⟨t, ρ', h', _, r2, h0, sb, q2⟩ := z
      exact o .non H' ⟨t, .non, h0, r2.sub sb, .non, q2⟩
    · obtain ⟨t, d, h', r2, d2, h0, sb, q2⟩ := z
      exact o v H' ⟨t, d, h0, r2.sub sb, d2, q2⟩
    · obtain ⟨t, ρ', h', _, _, z⟩ := z
      exact z.elim
    · obtain ⟨t, ρ', h', _, _, z⟩ := z
      exact z.elim
end
end Fy
end
section
set_option linter.all false
set_option maxRecDepth 100000
set_option maxHeartbeats 4000000
namespace Fy
open PySem PySem.Spec PyProof.Rows L2
/-! ### dicts -/
section
variable {κ : Type} [DecidableEq κ]
def valD (kvs : List (κ × D)) (k : κ) : Option D := (kvs.find? fun kv => decide (kv.1 = k)).map (·.2)
def putD (kvs : List (κ × D)) (k : κ) (d : D) : List (κ × D) :=
  if (kvs.any fun kv => decide (kv.1 = k)) = true then kvs.map (fun kv => if kv.1 = k then (kv.1, d) else kv) else kvs ++ [(k, d)]
def OD (H : Hp) : Option V → Option D → Prop
  | none, none => True
  | some v, some d => Den H v d
  | _, _ => False
theorem PD.val {H : Hp} (k : κ) : ∀ {vs : List (κ × V)} {ds : List (κ × D)}, PD H vs ds → OD H (valV vs k) (valD ds k) := by
  intro vs ds q
  induction q with
  | nil => exact True.intro
  | @cons p q vs ds h t ih =>
    obtain ⟨e, hd⟩ := h
    unfold valV valD
    rw [List.find?_cons, List.find?_cons, ← e]
    by_cases z : p.1 = k
    · simp only [z, decide_true]
      exact hd
    · simp only [z, decide_false]
      exact ih
theorem PD.any {H : Hp} (k : κ) : ∀ {vs : List (κ × V)} {ds : List (κ × D)}, PD H vs ds → (vs.any fun kv => decide (kv.1 = k)) = ds.any fun kv => decide (kv.1 = k) := by
  intro vs ds q
  induction q with
  | nil => rfl
  | cons h t ih => rw [List.any_cons, List.any_cons, h.1, ih]
theorem PD.length {H : Hp} {vs : List (κ × V)} {ds : List (κ × D)} (q : PD H vs ds) : vs.length = ds.length := Paired.length q
theorem PD.repl {H : Hp} (k : κ) {v : V} {d : D} (hd : Den H v d) : ∀ {vs : List (κ × V)} {ds : List (κ × D)}, PD H vs ds → PD H (vs.map (fun kv => if kv.1 = k then (kv.1, v) else kv)) (ds.map (fun kv => if kv.1 = k then (kv.1, d) else kv)) := by
  intro vs ds q
  induction q with
  | nil => exact .nil
  | @cons p q vs ds h t ih =>
    obtain ⟨e, h⟩ := h
    refine .cons ?_ ih
    dsimp only
    by_cases z : p.1 = k
    · rw [if_pos z, if_pos (e ▸ z)]
      exact ⟨e, hd⟩
    · rw [if_neg z, if_neg (e ▸ z)]
      exact ⟨e, h⟩
theorem PD.put {H : Hp} (k : κ) {v : V} {d : D} (hd : Den H v d) {vs : List (κ × V)} {ds : List (κ × D)} (q : PD H vs ds) : PD H (putK vs k v) (putD ds k d) := by
  unfold putK putD
  rw [q.any k]
  split
  · exact q.repl k hd
  · exact Paired.snoc q ⟨rfl, hd⟩
theorem putK_len (vs : List (κ × V)) (k : κ) (v : V) : (putK vs k v).length ≤ vs.length + 1 := length_putK vs k v
end
def kd : Key → D
  | .inl i => .int i
  | .inr s => .str s
theorem den_kd {H : Hp} {v : V} {k : Key} (q : Den H v (kd k)) : v = kV k := by
  cases k with
  | inl i => exact q.int_inv
  | inr s => exact q.str_inv
theorem dens_kd {H : Hp} : ∀ {ks : List Key} {vs : List V}, Dens H vs (ks.map kd) → vs = ks.map kV := by
  intro ks
  induction ks with
  | nil => intro vs q; cases q; rfl
  | cons k r ih =>
    intro vs q
    cases q with
    | cons a b => rw [den_kd a, ih b]; rfl
/-- what the dict at a holds at y -/
def DGD (h : HD) (a : Addr) (y : D) (r : Option D) : Prop :=
  (∃ kvs k, h a = some (.dK kvs) ∧ y = kd k ∧ r = valD kvs k) ∨ ∃ kvs ks, h a = some (.dT kvs) ∧ y = .tup (ks.map kd) ∧ r = valD kvs ks
def DPD (h : HD) (a : Addr) (y v : D) (h' : HD) : Prop :=
  (∃ kvs k, h a = some (.dK kvs) ∧ y = kd k ∧ kvs.length < 100000 ∧ h' = updD h a (.dK (putD kvs k v))) ∨
  ∃ kvs ks, h a = some (.dT kvs) ∧ y = .tup (ks.map kd) ∧ kvs.length < 100000 ∧ h' = updD h a (.dT (putD kvs ks v))
section
variable {X : Cx} {T : Tx} {k : Nat} {N : List Str} {sc : Scope} {vt st : List Bool} {ρ ρ' : Rho} {h h1 h2 h3 h4 : HD} {H : Hp} {σ : Sl}
variable {e a b : Expr} {es : List Expr} {d x y z : D} {ds res : List D} {bb : Bool} {pos : Pos} {E : EndsD} {p : Addr}
theorem DGD.ofK {kvs : List (Key × D)} {k : Key} (e : h p = some (.dK kvs)) : DGD h p (kd k) (valD kvs k) := .inl ⟨kvs, k, e, rfl, rfl⟩
theorem DGD.ofT {kvs : List (List Key × D)} {ks : List Key} (e : h p = some (.dT kvs)) : DGD h p (.tup (ks.map kd)) (valD kvs ks) := .inr ⟨kvs, ks, e, rfl, rfl⟩
theorem DGD.get {r : Option D} (g : DGD h p y r) (rh : RelH h H) {u : V} (q : Den H u y) : ∃ r', DGet H p u r' ∧ OD H r' r := by
  rcases g with ⟨kvs, k, e, rfl, rfl⟩ | ⟨kvs, ks, e, rfl, rfl⟩
  · obtain ⟨vs, e1, d1⟩ := rh.dK e
    rw [den_kd q]
    exact ⟨_, DGet.k e1, d1.val k⟩
  · obtain ⟨vs, e1, d1⟩ := rh.dT e
    obtain ⟨t, ws, rfl, e2, d2⟩ := q.tup_inv
    rw [dens_kd d2] at e2
    exact ⟨_, DGet.t e1 e2, d1.val ks⟩
theorem OD.some_inv {r : Option V} (o : OD H r (some d)) : ∃ v, r = some v ∧ Den H v d := by
  cases r with
  | none => exact False.elim o
  | some v => exact ⟨v, rfl, o⟩
theorem OD.isSome {r : Option V} {s : Option D} (o : OD H r s) : r.isSome = s.isSome := by
  cases r <;> cases s <;> first | rfl | exact False.elim o
theorem DPD.put {v : D} (g : DPD h p y v h') (rh : RelH h H) {u w : V} (q : Den H u y) (qv : Den H w v) : ∃ H', DPut H p u w H' ∧ RelH h' H' ∧ TupS H H' := by
  rcases g with ⟨kvs, k, e, rfl, hl, rfl⟩ | ⟨kvs, ks, e, rfl, hl, rfl⟩
  · obtain ⟨vs, e1, d1⟩ := rh.dK e
    rw [den_kd q]
    exact ⟨_, DPut.k e1 (by rw [d1.length, sizeLine_eq]; omega), rh.set (o := .dK (putD kvs k v)) e1 (fun _ z => nomatch z) (d1.put k qv), TupS.set e1 fun _ z => nomatch z⟩
  · obtain ⟨vs, e1, d1⟩ := rh.dT e
    obtain ⟨t, ws, rfl, e2, d2⟩ := q.tup_inv
    rw [dens_kd d2] at e2
    exact ⟨_, DPut.t e1 e2 (by rw [d1.length, sizeLine_eq]; omega), rh.set (o := .dT (putD kvs ks v)) e1 (fun _ z => nomatch z) (d1.put ks qv), TupS.set e1 fun _ z => nomatch z⟩
theorem lx_dget (c : Ctx X T k N sc vt st) (ha : LX X a ρ h (.ref p) h1) (hb : LX X b ρ h1 y h2) (g : DGD h2 p y (some z)) (hs : NoSl b := by exact fun _ _ => rfl) : LX X (.Subscript a b pos) ρ h z h2 := fun Q q =>
  le_of (pe_dget c.hu pe_we pe_we hs) fun σ H hs hh => ha.use hs hh fun u H1 t1 r1 d1 => hb.use (hs.mono t1) r1 fun v H2 t2 r2 d2 => by
    obtain ⟨r', g', o⟩ := g.get r2 d2
    obtain ⟨w, rfl, dw⟩ := o.some_inv
    exact ⟨p, w, d1.ref_inv, g', oq_of (t1.trans t2) r2 dw q⟩
theorem lb_din {r : Option D} (c : Ctx X T k N sc vt st) (hb : LX X b ρ h y h1) (ha : LX X a ρ h1 (.ref p) h2) (g : DGD h2 p y r) (hm : behindInMarks .In a = false := by rfl) : LB X (.Compare b [.In] [a] pos) ρ h r.isSome h2 := fun Q q =>
  lt_of' (pt_cmp (pc_din c.hu pe_we pe_we) hm) fun σ H hs hh => hb.use hs hh fun u H1 t1 r1 d1 => ha.use (hs.mono t1) r1 fun v H2 t2 r2 d2 => by
    obtain ⟨r', g', o⟩ := g.get r2 (d1.mono t2)
    exact ⟨p, r', d2.ref_inv, g', r.isSome, by rw [o.isSome], t1.trans t2, _, r2, q⟩
theorem lb_dnotin {r : Option D} (c : Ctx X T k N sc vt st) (hb : LX X b ρ h y h1) (ha : LX X a ρ h1 (.ref p) h2) (g : DGD h2 p y r) (hm : behindInMarks .NotIn a = false := by rfl) : LB X (.Compare b [.NotIn] [a] pos) ρ h (!r.isSome) h2 := fun Q q =>
  lt_of' (pt_cmp (pc_dnotin c.hu pe_we pe_we) hm) fun σ H hs hh => hb.use hs hh fun u H1 t1 r1 d1 => ha.use (hs.mono t1) r1 fun v H2 t2 r2 d2 => by
    obtain ⟨r', g', o⟩ := g.get r2 (d1.mono t2)
    exact ⟨p, r', d2.ref_inv, g', !r.isSome, by rw [o.isSome], t1.trans t2, _, r2, q⟩
theorem lx_dget2 {r : Option D} {apos : Pos} (c : Ctx X T k N sc vt st) (ha : LX X a ρ h (.ref p) h1) (hb : LX X b ρ h1 y h2) (he : LX X e ρ h2 x h3) (hd : (∃ kvs, h1 p = some (.dK kvs)) ∨ ∃ kvs, h1 p = some (.dT kvs)) (g : DGD h3 p y r) (m : M2 X a "get" apos b e pos) : LX X (.Call (.Attribute a "get" apos) [b, e] [] pos) ρ h (r.getD x) h3 := fun Q q =>
  le_of (pe_dget2 c.hu pe_we pe_we pe_we m) fun σ H hs hh => ha.use hs hh fun u H1 t1 r1 d1 => by
    refine ⟨p, d1.ref_inv, ?_, hb.use (hs.mono t1) r1 fun v H2 t2 r2 d2 => he.use (hs.mono (t1.trans t2)) r2 fun w H3 t3 r3 d3 => ?_⟩
    · rcases hd with ⟨kvs, e⟩ | ⟨kvs, e⟩
      · obtain ⟨vs, e1, _⟩ := r1.dK e
        exact .inl ⟨vs, .inl e1⟩
      · obtain ⟨vs, e1, _⟩ := r1.dT e
        exact .inr ⟨vs, .inl e1⟩
    · obtain ⟨r', g', o⟩ := g.get r3 (d2.mono t3)
      refine ⟨r', g', oq_of ((t1.trans t2).trans t3) r3 ?_ q⟩
      cases r' <;> cases r <;> first | exact d3 | exact o | exact False.elim o
theorem ls_dput {v : D} {value : Expr} {pos' : Pos} (c : Ctx X T k N sc vt st) (hv : LX X value ρ h v h1) (ho : LX X a ρ h1 (.ref p) h2) (hi : LX X b ρ h2 y h3) (g : DPD h3 p y v h4) (q : E.nx ρ h4)
    (hs : swapsWith value (some (.Subscript a b pos')) pos.line X.env = pure false := by rfl) : LS X (.Assign [.Subscript a b pos'] value pos) ρ h E :=
  ls_of (ps_dput c.hu pe_we pe_we pe_we hs) fun σ H hs hh => hv.use hs hh fun w H1 t1 r1 dv => ho.use (hs.mono t1) r1 fun u H2 t2 r2 d2 => hi.use (hs.mono (t1.trans t2)) r2 fun v H3 t3 r3 d3 => by
    obtain ⟨H4, g', r4, t4⟩ := g.put r3 d3 (dv.mono (t2.trans t3))
    have t := ((t1.trans t2).trans t3).trans t4
    exact ⟨p, H4, d2.ref_inv, g', t, ρ, _, hs.mono t, r4, q⟩
/-- d[y] += n -/
theorem ls_daug {i j : Int} {value : Expr} {tpos : Pos} (c : Ctx X T k N sc vt st) (ho : LX X a ρ h (.ref p) h1) (hi : LX X b ρ h1 y h2) (gg : DGD h2 p y (some (.int i))) (hv : LX X value ρ h2 (.int j) h2) (g : DPD h2 p y (.int (i + j)) h4) (q : E.nx ρ h4)
    (ha : ∀ ov iv new, augStore b ov iv new = (do holding [new, ov, iv] (setItem ov iv new); release [new, ov, iv] []; pure .next) := by intros; rfl) : LS X (.AugAssign (.Subscript a b tpos) .Add value pos) ρ h E :=
  ls_of (ps_daug c.hu pe_we pe_we pe_we in_add ha) fun σ H hs hh => ho.use hs hh fun u H1 t1 r1 d1 => hi.use (hs.mono t1) r1 fun v H2 t2 r2 d2 => by
    obtain ⟨r', g', o⟩ := gg.get r2 d2
    obtain ⟨w, rfl, dw⟩ := o.some_inv
    refine ⟨p, w, d1.ref_inv, g', hv.use (hs.mono (t1.trans t2)) r2 fun v3 H3 t3 r3 d3 => ⟨i, j, dw.int_inv, d3.int_inv, ?_⟩⟩
    obtain ⟨H4, g4, r4, t4⟩ := g.put r3 (d2.mono t3) (.int (i + j))
    have t := ((t1.trans t2).trans t3).trans t4
    exact ⟨H4, g4, t, ρ, _, hs.mono t, r4, q⟩
theorem le_dnewK {Q : D → HD → Prop} (q : ∀ p, h p = none → Q (.ref p) (updD h p (.dK []))) : LE X (.Dict [] [] pos) ρ h Q := le_of pe_dnewK fun σ H hs hh p hp => oq_of (TupS.new hp) (hh.new (o := .dK []) hp .nil) (.ref p) (q p (hh.none hp))
theorem le_dnewT {Q : D → HD → Prop} (q : ∀ p, h p = none → Q (.ref p) (updD h p (.dT []))) : LE X (.Dict [] [] pos) ρ h Q := le_of pe_dnewT fun σ H hs hh p hp => oq_of (TupS.new hp) (hh.new (o := .dT []) hp .nil) (.ref p) (q p (hh.none hp))
/-! ### methods of lists -/
theorem ls_append {apos cpos : Pos} {xs0 : List D} (ho : LX X a ρ h (.ref p) h) (hp : h p = some (.lst xs0)) (he : LE X e ρ h fun d h2 => ∃ ds, h2 p = some (.lst ds) ∧ ds.length < 100000 ∧ E.nx ρ (updD h2 p (.lst (ds ++ [d]))))
    (hbase : attributeBase a "append" X.env (eval a X.env) = eval a X.env := by rfl)
    (hfew : ((backTo cpos (starEach [e] X.env)).all (fun x => !x.1) && (backToKw cpos (keywordEach [] X.env)).all (fun x => x.1.isSome) && decide (([e] : List Expr).length + ([] : List Keyword).length + (if ([] : List Keyword).isEmpty then 0 else 1) < 30)) = true := by rfl)
    (hline : (apos.endLine == cpos.line) = true := by rfl) (hs : starEach [e] X.env = (false, eval e X.env) :: starEach [] X.env := by rfl) : LS X (.Expr (.Call (.Attribute a "append" apos) [e] [] cpos) pos) ρ h E :=
  ls_of (ps_expr (pe_bm PySem.F.plainAttrs_list PySem.F.slot_list_append PySem.F.type_list_append mt_append pe_we (pa_cons pe_we pa_nil hs) hbase hfew hline hs rfl) rfl) fun σ H hs hh => ho.use hs hh fun u H1 t1 r1 d1 => by
    rw [d1.ref_inv]
    obtain ⟨vs, e1, _⟩ := r1.lst hp
    refine ⟨.inl ⟨rfl, vs, SqL.of e1⟩, he.use (hs.mono t1) r1 fun v H2 d h2 t2 r2 dd ⟨ds, e2, hl, q⟩ => ?_⟩
    obtain ⟨ws, e3, d3⟩ := r2.lst e2
    have t3 : TupS H2 (upd H2 p (.lst (ws ++ [v]))) := TupS.set e3 fun _ z => nomatch z
    have t := (t1.trans t2).trans t3
    exact ⟨p, ws, v, rfl, rfl, e3, by rw [d3.length, sizeLine_eq]; omega, t, ρ, _, hs.mono t, r2.set (o := .lst (ds ++ [d])) e3 (fun _ z => nomatch z) (d3.append (Dens.one dd)), q⟩
/-- extend by a new list -/
theorem ls_extend {apos cpos : Pos} (ho : LX X a ρ h (.ref p) h) (hp : h p = some (.lst ds)) (he : LL X e ρ h res) (hz : ds.length + res.length ≤ 100000) (q : E.nx ρ (updD h p (.lst (ds ++ res))))
    (hbase : attributeBase a "extend" X.env (eval a X.env) = eval a X.env := by rfl)
    (hfew : ((backTo cpos (starEach [e] X.env)).all (fun x => !x.1) && (backToKw cpos (keywordEach [] X.env)).all (fun x => x.1.isSome) && decide (([e] : List Expr).length + ([] : List Keyword).length + (if ([] : List Keyword).isEmpty then 0 else 1) < 30)) = true := by rfl)
    (hline : (apos.endLine == cpos.line) = true := by rfl) (hs : starEach [e] X.env = (false, eval e X.env) :: starEach [] X.env := by rfl) : LS X (.Expr (.Call (.Attribute a "extend" apos) [e] [] cpos) pos) ρ h E :=
  ls_of (ps_expr (pe_bm PySem.F.plainAttrs_list PySem.F.slot_list_extend PySem.F.type_list_extend mt_extend pe_we (pa_cons pe_we pa_nil hs) hbase hfew hline hs rfl) rfl) fun σ H hs hh => ho.use hs hh fun u H1 t1 r1 d1 => by
    rw [d1.ref_inv]
    obtain ⟨vs, e1, _⟩ := r1.lst hp
    refine ⟨.inl ⟨rfl, vs, SqL.of e1⟩, ?_⟩
    refine (he (fun d h' => ∃ b, h b = none ∧ d = .ref b ∧ h' = updD h b (.lst res)) fun b hb => ⟨b, hb, rfl, rfl⟩).use (hs.mono t1) r1 fun v H2 d h2 t2 r2 dd ⟨b, hb, e2, e3⟩ => ?_
    subst e2 e3
    have hpb : p ≠ b := neN hp hb
    obtain ⟨ws, e3, d3⟩ := r2.lst (a := p) (ds := ds) (by rw [updD_ne hpb]; exact hp)
    obtain ⟨zs, e4, d4⟩ := r2.lst (a := b) (ds := res) updD_same
    have t3 : TupS H2 (upd H2 p (.lst (ws ++ zs))) := TupS.set e3 fun _ z => nomatch z
    have t := (t1.trans t2).trans t3
    refine ⟨p, b, ws, zs, rfl, by rw [dd.ref_inv], e3, e4, by rw [d3.length, d4.length, sizeLine_eq]; omega, t, ρ, _, hs.mono t, ?_, q⟩
    exact (r2.sub (Sub.new hb)).set (o := .lst (ds ++ res)) e3 (fun _ z => nomatch z) (d3.append d4)
theorem ls_insert {apos cpos : Pos} {i : Int} (ho : LX X a ρ h (.ref p) h) (hp : h p = some (.lst ds)) (he : LX X e ρ h (.int i) h) (hb : LX X b ρ h x h) (h0 : 0 ≤ i) (hi : i < 100000) (hz : ds.length < 100000) (q : E.nx ρ (updD h p (.lst (ds.take i.toNat ++ [x] ++ ds.drop i.toNat))))
    (hbase : attributeBase a "insert" X.env (eval a X.env) = eval a X.env := by rfl)
    (hfew : ((backTo cpos (starEach [e, b] X.env)).all (fun x => !x.1) && (backToKw cpos (keywordEach [] X.env)).all (fun x => x.1.isSome) && decide (([e, b] : List Expr).length + ([] : List Keyword).length + (if ([] : List Keyword).isEmpty then 0 else 1) < 30)) = true := by rfl)
    (hline : (apos.endLine == cpos.line) = true := by rfl) (hs1 : starEach [e, b] X.env = (false, eval e X.env) :: starEach [b] X.env := by rfl) (hs2 : starEach [b] X.env = (false, eval b X.env) :: starEach [] X.env := by rfl)
    (hpl : (backTo cpos (starEach [b] X.env)).any (·.1) = false := by rfl) : LS X (.Expr (.Call (.Attribute a "insert" apos) [e, b] [] cpos) pos) ρ h E :=
  ls_of (ps_expr (pe_bm PySem.F.plainAttrs_list PySem.F.slot_list_insert PySem.F.type_list_insert mt_insert pe_we (pa_cons pe_we (pa_cons pe_we pa_nil hs2) hs1) hbase hfew hline hs1 hpl) rfl) fun σ H hs hh => ho.use hs hh fun u H1 t1 r1 d1 => by
    rw [d1.ref_inv]
    obtain ⟨vs, e1, _⟩ := r1.lst hp
    refine ⟨.inl ⟨rfl, vs, SqL.of e1⟩, he.use (hs.mono t1) r1 fun v H2 t2 r2 d2 => hb.use (hs.mono (t1.trans t2)) r2 fun w H3 t3 r3 d3 => ?_⟩
    obtain ⟨ws, e3, dw⟩ := r3.lst hp
    rw [d2.int_inv]
    have t4 : TupS H3 (upd H3 p (.lst (ws.take i.toNat ++ [w] ++ ws.drop i.toNat))) := TupS.set e3 fun _ z => nomatch z
    have t := ((t1.trans t2).trans t3).trans t4
    exact ⟨p, ws, i, w, rfl, rfl, e3, by rw [dw.length, sizeLine_eq]; omega, h0, by omega, t, ρ, _, hs.mono t, r3.set (o := .lst (ds.take i.toNat ++ [x] ++ ds.drop i.toNat)) e3 (fun _ z => nomatch z) (((dw.take _).append (Dens.one d3)).append (dw.drop _)), q⟩
theorem ls_popAt {apos cpos : Pos} {i : Int} (ho : LX X a ρ h (.ref p) h) (hp : h p = some (.lst ds)) (he : LX X e ρ h (.int i) h) (h0 : 0 ≤ i) (hi : i.toNat < ds.length) (hz : ds.length < 100000) (q : E.nx ρ (updD h p (.lst (ds.eraseIdx i.toNat))))
    (hbase : attributeBase a "pop" X.env (eval a X.env) = eval a X.env := by rfl)
    (hfew : ((backTo cpos (starEach [e] X.env)).all (fun x => !x.1) && (backToKw cpos (keywordEach [] X.env)).all (fun x => x.1.isSome) && decide (([e] : List Expr).length + ([] : List Keyword).length + (if ([] : List Keyword).isEmpty then 0 else 1) < 30)) = true := by rfl)
    (hline : (apos.endLine == cpos.line) = true := by rfl) (hs : starEach [e] X.env = (false, eval e X.env) :: starEach [] X.env := by rfl) : LS X (.Expr (.Call (.Attribute a "pop" apos) [e] [] cpos) pos) ρ h E :=
  ls_of (ps_expr (pe_bm PySem.F.plainAttrs_list PySem.F.slot_list_pop PySem.F.type_list_pop mt_popAt pe_we (pa_cons pe_we pa_nil hs) hbase hfew hline hs rfl) rfl) fun σ H hs hh => ho.use hs hh fun u H1 t1 r1 d1 => by
    rw [d1.ref_inv]
    obtain ⟨vs, e1, _⟩ := r1.lst hp
    refine ⟨.inl ⟨rfl, vs, SqL.of e1⟩, he.use (hs.mono t1) r1 fun v H2 t2 r2 d2 => ?_⟩
    obtain ⟨ws, e3, dw⟩ := r2.lst hp
    rw [d2.int_inv]
    have t4 : TupS H2 (upd H2 p (.lst (ws.eraseIdx i.toNat))) := TupS.set e3 fun _ z => nomatch z
    have t := (t1.trans t2).trans t4
    have hl : i.toNat < ws.length := by rw [dw.length]; exact hi
    refine ⟨p, ws, i, i.toNat, ws[i.toNat], rfl, rfl, e3, by omega, by have := dw.length; omega, PySem.StrLaws.seqIndex_nonneg h0 (by omega), by simp [hl], t, ρ, _, hs.mono t, r2.set (o := .lst (ds.eraseIdx i.toNat)) e3 (fun _ z => nomatch z) (dw.erase _), q⟩
theorem ls_pop {apos cpos : Pos} (ho : LX X a ρ h (.ref p) h) (hp : h p = some (.lst (ds ++ [d]))) (q : E.nx ρ (updD h p (.lst ds)))
    (hbase : attributeBase a "pop" X.env (eval a X.env) = eval a X.env := by rfl) (hline : (apos.endLine == cpos.line) = true := by rfl) : LS X (.Expr (.Call (.Attribute a "pop" apos) [] [] cpos) pos) ρ h E :=
  ls_of (ps_expr (pe_bm0 PySem.F.plainAttrs_list PySem.F.slot_list_pop PySem.F.type_list_pop mt_pop pe_we hbase hline) rfl) fun σ H hs hh => ho.use hs hh fun u H1 t1 r1 d1 => by
    rw [d1.ref_inv]
    obtain ⟨ws, e3, dw⟩ := r1.lst hp
    have t4 : TupS H1 (upd H1 p (.lst ws.dropLast)) := TupS.set e3 fun _ z => nomatch z
    have t := t1.trans t4
    have hl : ws.length = ds.length + 1 := by rw [dw.length, List.length_append]; rfl
    refine ⟨.inl ⟨rfl, ws, SqL.of e3⟩, p, ws, ws[ws.length - 1], rfl, rfl, e3, by simp, t, ρ, _, hs.mono t, r1.set (o := .lst ds) e3 (fun _ z => nomatch z) ?_, q⟩
    have := dw.take ds.length
    rw [List.take_left' rfl] at this
    rw [List.dropLast_eq_take, hl]
    exact this
/-- xs[i] = e -/
theorem ls_lput {i : Int} {v : D} {value : Expr} {pos' : Pos} (hv : LX X value ρ h v h) (ho : LX X a ρ h (.ref p) h) (hi : LX X b ρ h (.int i) h) (hp : h p = some (.lst ds)) (h0 : 0 ≤ i) (hl : i.toNat < ds.length) (q : E.nx ρ (updD h p (.lst (ds.set i.toNat v))))
    (hs : swapsWithSole [.Subscript a b pos'] value pos.line X.env = pure false := by rfl) (hw : swappedStores [.Subscript a b pos'] value X.env = pure none := by rfl) (h1 : (assignEach [.Subscript a b pos'] X.env).map (·.2) = [assign (.Subscript a b pos') X.env] := by rfl)
    (ha : ∀ v, assign (.Subscript a b pos') X.env v = (do
      let ov ← holding [v] (eval a X.env)
      let iv ← holding [v, ov] (eval b X.env)
      standAt pos'
      holding [v, ov, iv] (setItem ov iv v)
      release [v, ov, iv] []) := by intro _; rfl) : LS X (.Assign [.Subscript a b pos'] value pos) ρ h E :=
  ls_of (ps_asg pe_we (pg_sub pe_we pe_we set_list ha) hs hw h1) fun σ H hs hh => hv.use hs hh fun w H1 t1 r1 dv => ho.use (hs.mono t1) r1 fun u H2 t2 r2 d2 => hi.use (hs.mono (t1.trans t2)) r2 fun v' H3 t3 r3 d3 => by
    obtain ⟨ws, e3, dw⟩ := r3.lst hp
    have t4 : TupS H3 (upd H3 p (.lst (ws.set i.toNat w))) := TupS.set e3 fun _ z => nomatch z
    have t := ((t1.trans t2).trans t3).trans t4
    have hl2 : i.toNat < ws.length := by rw [dw.length]; exact hl
    refine ⟨p, ws, i, i.toNat, d2.ref_inv, d3.int_inv, e3, ?_, t, ρ, _, hs.mono t, r3.set (o := .lst (ds.set i.toNat v)) e3 (fun _ z => nomatch z) (dw.set (dv.mono (t2.trans t3)) _), q⟩
    unfold ixN
    rw [if_pos h0, if_pos (by omega)]
end
end Fy
end
section
set_option linter.all false
set_option maxRecDepth 100000
set_option maxHeartbeats 4000000
namespace Fy
open PySem PySem.Spec PyProof.Rows L2
/-! ### targets -/
def WG (X : Cx) (tg : Expr) : TG := fun v σ H Q => ∀ (pins : List (Addr × Obj)) (s : Shared) (u : Value), Inv X pins σ H s → RelV v u →
    wpAny (model X.prog X.w) X.A (assign tg X.env u) (fun _ s' => ∃ σ' H', Inv X pins σ' H' s' ∧ Q σ' H') X.xe s
theorem pg_wg {X : Cx} {tg : Expr} : PG X tg (WG X tg) := ⟨fun pins s σ H v u Q I r h => h pins s u I r⟩
theorem wg_of {X : Cx} {tg : Expr} {g : TG} (p : PG X tg g) {v : V} {σ : Sl} {H : Hp} {Q : Sl → Hp → Prop} (q : g v σ H Q) : WG X tg v σ H Q := fun pins s u I r => p.run pins s σ H v u Q I r q
theorem WG.mono {X : Cx} {tg : Expr} {v : V} {σ : Sl} {H : Hp} {Q Q' : Sl → Hp → Prop} (w : WG X tg v σ H Q) (k : ∀ σ H, Q σ H → Q' σ H) : WG X tg v σ H Q' := fun pins s u I r => wpAny_mono (w pins s u I r) (fun _ s' ⟨σ', H', I', q⟩ => ⟨σ', H', I', k _ _ q⟩) fun _ _ x => x
def WGs (X : Cx) (ts : List Expr) : TGs := fun vs σ H Q => ∀ (pins : List (Addr × Obj)) (s : Shared) (us : List Value), Inv X pins σ H s → Vals vs us →
    wpAny (model X.prog X.w) X.A (assignInOrder ((assignEach ts X.env).map (·.2)) us) (fun _ s' => ∃ σ' H', Inv X pins σ' H' s' ∧ Q σ' H') X.xe s
theorem pgs_wgs {X : Cx} {ts : List Expr} : PGs X ts (WGs X ts) := ⟨fun pins s σ H v u Q I r h => h pins s u I r⟩
theorem WGs.mono {X : Cx} {tg : List Expr} {v : List V} {σ : Sl} {H : Hp} {Q Q' : Sl → Hp → Prop} (w : WGs X tg v σ H Q) (k : ∀ σ H, Q σ H → Q' σ H) : WGs X tg v σ H Q' := fun pins s u I r => wpAny_mono (w pins s u I r) (fun _ s' ⟨σ', H', I', q⟩ => ⟨σ', H', I', k _ _ q⟩) fun _ _ x => x
theorem wipe_set {x : Option V} {i : Nat} : ∀ {vs : List Nat} {σ : Sl}, i ∈ vs → wipe (σ.set i x) vs = wipe σ vs
  | [], _, h => by simp at h
  | v :: vs, σ, h => by
    show (wipe (σ.set i x) vs).set v none = (wipe σ vs).set v none
    by_cases e : i ∈ vs
    · rw [wipe_set e]
    · have e2 : i = v := by
        rcases List.mem_cons.mp h with z | z
        · exact z
        · exact absurd z e
      subst e2
      have : ∀ (vs : List Nat) (σ : Sl), i ∉ vs → wipe (σ.set i x) vs = (wipe σ vs).set i x := by
        intro vs
        induction vs with
        | nil => intro σ _; rfl
        | cons w ws ih =>
          intro σ hn
          rw [List.mem_cons, not_or] at hn
          show (wipe (σ.set i x) ws).set w none = ((wipe σ ws).set w none).set i x
          rw [ih σ hn.2, List.set_comm _ _ hn.1]
      rw [this vs σ e, List.set_set]
/-- tg = d: the slots is are set -/
def LG (X : Cx) (tg : Expr) (d : D) (ρ : Rho) (is : List Nat) (Q : Rho → Prop) : Prop :=
  ∀ v σ H, Den H v d → DenS H σ ρ → WG X tg v σ H fun σ' H' => H' = H ∧ (∀ vs, (∀ i ∈ is, i ∈ vs) → wipe σ' vs = wipe σ vs) ∧ ∃ ρ', DenS H σ' ρ' ∧ Q ρ'
def LGs (X : Cx) (tgs : List Expr) (ds : List D) (ρ : Rho) (is : List Nat) (Q : Rho → Prop) : Prop :=
  ∀ vs σ H, Dens H vs ds → DenS H σ ρ → WGs X tgs vs σ H fun σ' H' => H' = H ∧ (∀ vs, (∀ i ∈ is, i ∈ vs) → wipe σ' vs = wipe σ vs) ∧ ∃ ρ', DenS H σ' ρ' ∧ Q ρ'
section
variable {X X' : Cx} {T : Tx} {k : Nat} {N : List Str} {sc : Scope} {vt st vt' st' : List Bool} {ρ ρ' : Rho} {h h1 h2 h3 h4 : HD} {H : Hp} {σ : Sl}
variable {e a b tg iter : Expr} {es tgs : List Expr} {d x y z : D} {ds res : List D} {bb : Bool} {pos : Pos} {E : EndsD} {p : Addr} {is js : List Nat}
theorem lg_name {Q : Rho → Prop} (c : Ctx X T k N sc vt st) {nm : Str} (i : Nat) (hi : N[i]? = some nm) (hl : st[i]? = some true) (q : Q (ρ.set i (some d))) : LG X (.Name nm pos) d ρ [i] Q := fun v σ H hd hs =>
  wg_of (pg_name (i := i) (by rw [c.hN]; exact c.nd) (by rw [c.hN]; exact hi) (by rw [c.hsc]; exact (c.loc i nm hi hl).1) (c.loc i nm hi hl).2) ⟨rfl, fun vs hv => wipe_set (hv i (by simp)), _, hs.set hd i, q⟩
theorem lgs_nil {Q : Rho → Prop} (q : Q ρ) : LGs X [] [] ρ [] Q := fun vs σ H hd hs pins s us I r => pgs_nil.run pins s σ H vs us _ I r ⟨by cases hd; rfl, rfl, fun _ _ => rfl, ρ, hs, q⟩
theorem lgs_cons {Q : Rho → Prop} (h1 : LG X tg d ρ is fun ρ1 => LGs X tgs ds ρ1 js Q) (hs1 : (assignEach (tg :: tgs) X.env).map (·.2) = assign tg X.env :: (assignEach tgs X.env).map (·.2) := by rfl) : LGs X (tg :: tgs) (d :: ds) ρ (is ++ js) Q := fun vs σ H hd hs pins s us I r => by
  cases hd with
  | @cons v vs' d' ds' hv hvs =>
    refine (pgs_cons pg_wg pgs_wgs hs1).run pins s σ H _ us _ I r ⟨v, vs', rfl, (h1 v σ H hv hs).mono fun σ1 H1 q => ?_⟩
    obtain ⟨e1, w1, ρ1, hs2, q⟩ := q
    subst e1
    refine (q vs' σ1 H1 hvs hs2).mono fun σ2 H2 q2 => ?_
    obtain ⟨e2, w2, ρ2, hs3, q2⟩ := q2
    subst e2
    exact ⟨rfl, fun vs hv => (w2 vs fun i hi => hv i (List.mem_append_right _ hi)).trans (w1 vs fun i hi => hv i (List.mem_append_left _ hi)), ρ2, hs3, q2⟩
theorem lg_tup {Q : Rho → Prop} {kk : Nat} {n : Nat} (c : Ctx X T k N sc vt st) (g : LGs X tgs ds ρ is Q) (hl : ds.length = n) (hn : (assignEach tgs X.env).length = n := by rfl) (hst : (assignEach tgs X.env).findIdx? (·.1) = none := by rfl) : LG X (.Tuple tgs kk pos) (.tup ds) ρ is Q := fun v σ H hd hs => by
  obtain ⟨p, vs, rfl, e1, d1⟩ := hd.tup_inv
  exact wg_of (pg_tup (n := n) c.calm pgs_wgs hn hst) ⟨p, vs, rfl, SqT.of e1, by rw [d1.length]; exact hl, g vs σ H d1 hs⟩
/-- a, b = e -/
theorem ls_asg (he : LE X e ρ h fun d h' => LG X tg d ρ is fun ρ' => E.nx ρ' h') (hs : swapsWithSole [tg] e pos.line X.env = pure false := by rfl) (hw : swappedStores [tg] e X.env = pure none := by rfl)
    (h1 : (assignEach [tg] X.env).map (·.2) = [assign tg X.env] := by rfl) : LS X (.Assign [tg] e pos) ρ h E := ls_of (ps_asg pe_we pg_wg hs hw h1) fun σ H hs hh =>
  he.use hs hh fun v H1 d h1 t1 r1 d1 q => (q v σ H1 d1 (hs.mono t1)).mono fun σ2 H2 q2 => by
    obtain ⟨e2, _, ρ2, hs3, q2⟩ := q2
    subst e2
    exact ⟨t1, ρ2, h1, hs3, r1, q2⟩
/-- a, b = x, y -/
theorem ls_par {i j : Nat} {nx ny : Str} {px py pt : Pos} {kt k2 pt2} (c : Ctx X T k N sc vt st) (hi : N[i]? = some nx) (hj : N[j]? = some ny) (hij : i ≠ j) (hx : sc.names.lookup nx = some .local) (hy : sc.names.lookup ny = some .local)
    (ha : LAX X [a, b] ρ h [x, y] h1) (q : E.nx ((ρ.set i (some x)).set j (some y)) h1)
    (hw : swappedStores [.Tuple [.Name nx px, .Name ny py] kt pt] (.Tuple [a, b] k2 pt2) X.env = pure (some [nx, ny]))
    (hs : swapsWithSole [.Tuple [.Name nx px, .Name ny py] kt pt] (.Tuple [a, b] k2 pt2) pos.line X.env = pure false := by rfl) : LS X (.Assign [.Tuple [.Name nx px, .Name ny py] kt pt] (.Tuple [a, b] k2 pt2) pos) ρ h E :=
  ls_of (ps_par (i := i) (j := j) c.calm (by rw [c.hN]; exact c.nd) (by rw [c.hN]; exact hi) (by rw [c.hN]; exact hj) hij (by rw [c.hsc]; exact hx) (by rw [c.hsc]; exact hy) pa_wa hw hs) fun σ H hs hh =>
    ha.use hs hh fun vs H1 t1 r1 d1 => by
      obtain ⟨v, w, rfl, dv, dw⟩ := d1.two_inv
      exact ⟨v, w, rfl, t1, _, _, ((hs.mono t1).set dv i).set dw j, r1, q⟩
/-! ### what is walked -/
def YD (ds : List D) (i : Nat) (H : Hp) (x : V) (H' : Hp) : Prop := TupS H H' ∧ (∀ hh, RelH hh H → RelH hh H') ∧ ∃ d, ds[i]? = some d ∧ Den H' x d
/-- R ds G h1: what is wanted where it gives ds while G holds, the heap h1 -/
def LI (X : Cx) (tg iter : Expr) (ρ : Rho) (h : HD) (R : List D → (HD → Prop) → HD → Prop) : Prop :=
  ∃ wi, PI X tg iter wi ∧ ∀ σ H RR, DenS H σ ρ → RelH h H →
    (∀ J H1 ds G h1, R ds G h1 → TupS H H1 → RelH h1 H1 → (∃ GH : Hp → Prop, Walk J ds.length GH (YD ds) ∧ ∀ hh HH, G hh → RelH hh HH → TupS H1 HH → GH HH) → RR J H1) → wi σ H RR
theorem li_tup {R : List D → (HD → Prop) → HD → Prop} (ha : LX X a ρ h (.tup ds) h1) (q : R ds (fun _ => True) h1) : LI X tg a ρ h R := ⟨_, pi_tup pe_we, fun σ H RR hs hh k => ha.use hs hh fun v H1 t1 r1 d1 => by
  obtain ⟨p, vs, rfl, e1, dv⟩ := d1.tup_inv
  refine ⟨p, rfl, ⟨vs, SqT.of e1⟩, k _ H1 ds _ h1 q t1 r1 ⟨fun HH => TupS H1 HH, ?_, fun _ _ _ _ t => t⟩⟩
  rw [← dv.length]
  refine (walk_tup (xs := vs)).mono (fun HH t => SqT.of (t _ _ e1)) fun i HH x H' hi t y => ?_
  obtain ⟨rfl, y⟩ := y
  obtain ⟨d, e2, d2⟩ := dv.get' y
  exact ⟨TupS.refl _, fun _ r => r, d, e2, d2.mono t⟩⟩
theorem walk_lst {K : PySem.W.Frag} {ds : List D} {p : Addr} {n : Nat} (hn : ds.length = n) : Walk (Itl K p) n (fun HH => ∃ hh, RelH hh HH ∧ hh p = some (.lst ds)) (YD ds) := by
  subst hn
  refine ⟨fun i HH hi g => ?_, fun HH g => ?_, fun i HH x H' hi g y => ?_⟩
  · obtain ⟨hh, r, e⟩ := g
    obtain ⟨vs, e1, dv⟩ := r.lst e
    have hl : i < vs.length := by rw [dv.length]; exact hi
    exact ⟨vs, vs[i], SqL.of e1, by simp [hl]⟩
  · obtain ⟨hh, r, e⟩ := g
    obtain ⟨vs, e1, dv⟩ := r.lst e
    exact ⟨vs, SqL.of e1, by rw [dv.length]; exact Nat.le_refl _⟩
  · obtain ⟨hh, r, e⟩ := g
    obtain ⟨vs, e1, dv⟩ := r.lst e
    obtain ⟨rfl, y⟩ := y
    obtain ⟨d, e2, d2⟩ := dv.get' (y vs (SqL.of e1))
    exact ⟨TupS.refl _, fun _ r => r, d, e2, d2⟩
theorem li_list {R : List D → (HD → Prop) → HD → Prop} (ha : LX X a ρ h (.ref p) h1) (hp : h1 p = some (.lst ds)) (q : R ds (fun hh => hh p = some (.lst ds)) h1) : LI X tg a ρ h R := ⟨_, pi_list pe_we, fun σ H RR hs hh k => ha.use hs hh fun v H1 t1 r1 d1 => by
  obtain ⟨vs, e1, dv⟩ := r1.lst hp
  exact ⟨p, d1.ref_inv, ⟨vs, SqL.of e1⟩, k _ H1 ds _ h1 q t1 r1 ⟨_, walk_lst rfl, fun hh HH g r t => ⟨hh, r, g⟩⟩⟩⟩
theorem li_ll {R : List D → (HD → Prop) → HD → Prop} (ha : LL X a ρ h ds) (q : ∀ p, h p = none → R ds (fun hh => hh p = some (.lst ds)) (updD h p (.lst ds))) : LI X tg a ρ h R := ⟨_, pi_list pe_we, fun σ H RR hs hh k =>
  (ha (fun d h' => ∃ b, h b = none ∧ d = .ref b ∧ h' = updD h b (.lst ds)) fun b hb => ⟨b, hb, rfl, rfl⟩).use hs hh fun v H1 d h1 t1 r1 d1 ⟨b, hb, e2, e3⟩ => by
    subst e2 e3
    obtain ⟨vs, e1, dv⟩ := r1.lst (a := b) updD_same
    exact ⟨b, d1.ref_inv, ⟨vs, SqL.of e1⟩, k _ H1 ds _ _ (q b hb) t1 r1 ⟨_, walk_lst rfl, fun hh HH g r t => ⟨hh, r, g⟩⟩⟩⟩
def rngD (lo : Int) (n : Nat) : List D := (List.range n).map fun i => .int (lo + (i : Nat))
theorem rngD_len {lo : Int} {n : Nat} : (rngD lo n).length = n := by unfold rngD; rw [List.length_map, List.length_range]
theorem rngD_get {lo : Int} {n i : Nat} (hi : i < n) : (rngD lo n)[i]? = some (.int (lo + (i : Nat))) := by unfold rngD; rw [List.getElem?_map, List.getElem?_range hi]; rfl
theorem walk_rng {lo : Int} {n m : Nat} (hm : m = n) : Walk (Itr lo n) m (fun _ => True) (YD (rngD lo n)) := by
  subst hm
  refine walk_range.mono (fun _ h => h) fun i H x H' hi _ y => ?_
  obtain ⟨rfl, rfl⟩ := y
  exact ⟨TupS.refl _, fun _ r => r, _, rngD_get hi, .int _⟩
theorem li_range1 {R : List D → (HD → Prop) → HD → Prop} {n : Int} {p0 : Pos} (c : Ctx X T k N sc vt st) (ha : LX X a ρ h (.int n) h1) (hg : globB sc "range" = true) (hm : T.mg "range" = none) (hn : n ≤ 100000 ∧ -100000 ≤ n) (q : R (rngD 0 n.toNat) (fun _ => True) h1)
    (hs : starEach [a] X.env = [(false, eval a X.env)] := by rfl) : LI X tg (.Call (.Name "range" p0) [a] [] pos) ρ h R := ⟨_, pi_range1 (c.gl hg) (by rw [c.hmg]; exact hm) (pa_cons pe_we pa_nil hs) hs, fun σ H RR hs hh k => ha.use hs hh fun v H1 t1 r1 d1 => by
  rw [d1.int_inv]
  exact ⟨n, rfl, by omega, by omega, k _ H1 _ _ h1 q t1 r1 ⟨_, walk_rng rngD_len, fun _ _ _ _ _ => True.intro⟩⟩⟩
theorem li_range2 {R : List D → (HD → Prop) → HD → Prop} {m n : Int} {p0 : Pos} (c : Ctx X T k N sc vt st) (ha : LX X a ρ h (.int m) h1) (hb : LX X b ρ h1 (.int n) h2) (hg : globB sc "range" = true) (hm : T.mg "range" = none) (hn : n ≤ 100000 ∧ -100000 ≤ n ∧ m ≤ 100000 ∧ -100000 ≤ m) (q : R (rngD m (n - m).toNat) (fun _ => True) h2)
    (hs1 : starEach [a, b] X.env = [(false, eval a X.env), (false, eval b X.env)] := by rfl) (hs2 : starEach [b] X.env = [(false, eval b X.env)] := by rfl) : LI X tg (.Call (.Name "range" p0) [a, b] [] pos) ρ h R :=
  ⟨_, pi_range2 (c.gl hg) (by rw [c.hmg]; exact hm) (pa_cons pe_we (pa_cons pe_we pa_nil hs2) (by rw [hs1, hs2])) hs1 hs2, fun σ H RR hs hh k => ha.use hs hh fun v H1 t1 r1 d1 => hb.use (hs.mono t1) r1 fun w H2 t2 r2 d2 => by
    rw [d1.int_inv, d2.int_inv]
    exact ⟨m, n, rfl, ⟨by omega, by omega, by omega, by omega⟩, k _ H2 _ _ h2 q (t1.trans t2) r2 ⟨_, walk_rng rngD_len, fun _ _ _ _ _ => True.intro⟩⟩⟩
/-! ### loops -/
def Again (W : Rho → HD → Prop) : Rho → HD → Prop := fun ρ' h' => ∃ ρ1 h1, Wk ρ1 ρ' ∧ Sub h1 h' ∧ W ρ1 h1
theorem Again.of {W : Rho → HD → Prop} (q : W ρ h) : Again W ρ h := ⟨ρ, h, Wk.refl ρ, Sub.refl h, q⟩
theorem ls_for {body : List Stmt} (c : Ctx X T k N sc vt st)
    (hi : LI X tg iter ρ h fun ds G h1 => ∃ Pv : Nat → Rho → HD → Prop, Pv 0 ρ h1 ∧ (∀ i ρ h, Pv i ρ h → G h) ∧
      (∀ i d ρ1 hh, ds[i]? = some d → Pv i ρ1 hh → ∃ is, LG X tg d ρ1 is fun ρ2 => LSs X body ρ2 hh { nx := Again (Pv (i + 1)), ct := Again (Pv (i + 1)), bk := E.nx, rt := E.rt }) ∧ (∀ ρ1 hh, Pv ds.length ρ1 hh → E.nx ρ1 hh))
    (hs : ∀ x, foldedSetIterable iter X.env x = pure x := by intro _; rfl) : LS X (.For tg iter body [] pos) ρ h E := by
  obtain ⟨wi, pi, hi⟩ := hi
  refine ls_of (ps_for c.never c.calm pi pg_wg pss_wss hs) fun σ H hs hh => ?_
  refine hi σ H _ hs hh fun J H1 ds G h1 R t1 r1 ⟨GH, w, gh⟩ => ?_
  obtain ⟨Pv, p0, pG, step, done⟩ := R
  refine for_it w (fun i σ' H' => TupS H1 H' ∧ ∃ ρ' h', DenS H' σ' ρ' ∧ RelH h' H' ∧ Pv i ρ' h') ⟨TupS.refl _, ρ, h1, hs.mono t1, r1, p0⟩ (fun i σ' H' hi q => ?_) (fun i x σ' H' H2 hi q y => ?_) (fun σ' H' q => ?_)
  · obtain ⟨t, ρ', h', _, r, q⟩ := q
    exact gh h' H' (pG i ρ' h' q) r t
  · obtain ⟨t, ρ', h', ds', r, q⟩ := q
    obtain ⟨t2, r2, d, e2, d2⟩ := y
    obtain ⟨is, g⟩ := step i d ρ' h' e2 q
    refine (g x σ' H2 d2 (ds'.mono t2)).mono fun σ3 H3 q3 => ?_
    obtain ⟨e3, _, ρ3, hs3, q3⟩ := q3
    subst e3
    have t12 := t.trans t2
    have again : ∀ σ4 H4, OS H3 (Again (Pv (i + 1))) σ4 H4 → TupS H1 H4 ∧ ∃ ρ' h', DenS H4 σ4 ρ' ∧ RelH h' H4 ∧ Pv (i + 1) ρ' h' := fun σ4 H4 q4 => by
      obtain ⟨t4, ρ4, h4, d4, r4, ρ5, h5, wk, sb, q5⟩ := q4
      exact ⟨t12.trans t4, ρ5, h5, d4.wk wk, r4.sub sb, q5⟩
    exact (q3 σ3 H3 hs3 (r2 h' r)).mono again (fun _ _ q => q.mono (t1.trans t12) fun _ _ z => z) (fun _ _ q => OS.up (t1.trans t12) q) again
  · obtain ⟨t, ρ', h', ds', r, q⟩ := q
    exact ⟨t1.trans t, ρ', h', ds', r, done ρ' h' q⟩
theorem ls_while {test : Expr} {body : List Stmt} (c : Ctx X T k N sc vt st) (W : Nat → Rho → HD → Prop) (m0 : Nat) (w0 : W m0 ρ h)
    (turn : ∀ m ρ1 hh, W m ρ1 hh → LT X test ρ1 hh fun b h' => (b = true → LSs X body ρ1 h' { nx := Again fun ρ2 h2 => ∃ m', m' < m ∧ W m' ρ2 h2, ct := Again fun ρ2 h2 => ∃ m', m' < m ∧ W m' ρ2 h2, bk := E.nx, rt := E.rt }) ∧ (b = false → E.nx ρ1 h')) :
    LS X (.While test body [] pos) ρ h E := ls_of (ps_while c.never pt_wt pss_wss) fun σ H hs hh => by
  refine ⟨fun m σ' H' => TupS H H' ∧ ∃ ρ' h', DenS H' σ' ρ' ∧ RelH h' H' ∧ W m ρ' h', ⟨m0, TupS.refl _, ρ, h, hs, hh, w0⟩, fun m σ' H' q => ?_⟩
  obtain ⟨t, ρ', h', d1, r1, q⟩ := q
  refine (turn m ρ' h' q).use d1 r1 fun b H2 h2 t2 r2 q2 => ?_
  cases b with
  | true =>
    refine iteT ⟨fun σ3 H3 => TupS H H3 ∧ ∃ ρ' h', DenS H3 σ3 ρ' ∧ RelH h' H3 ∧ ∃ m', m' < m ∧ W m' ρ' h', fun σ3 H3 z => ?_, ?_⟩
    · obtain ⟨t3, ρ3, h3, d3, r3, m', hm, w⟩ := z
      exact ⟨m', hm, t3, ρ3, h3, d3, r3, w⟩
    · have tt := t.trans t2
      have again : ∀ σ4 H4, OS H2 (Again fun ρ2 h2 => ∃ m', m' < m ∧ W m' ρ2 h2) σ4 H4 → TupS H H4 ∧ ∃ ρ' h', DenS H4 σ4 ρ' ∧ RelH h' H4 ∧ ∃ m', m' < m ∧ W m' ρ' h' := fun σ4 H4 q4 => by
        obtain ⟨t4, ρ4, h4, d4, r4, ρ5, h5, wk, sb, q5⟩ := q4
        exact ⟨tt.trans t4, ρ5, h5, d4.wk wk, r4.sub sb, q5⟩
      exact (q2.1 rfl σ' H2 (d1.mono t2) r2).mono again (fun _ _ q => q.mono tt fun _ _ z => z) (fun _ _ q => OS.up tt q) again
  | false => exact iteF ⟨t.trans t2, ρ', h2, d1.mono t2, r2, q2.2 rfl⟩
/-! ### comprehensions -/
/-- the contexts of a comprehension's block -/
def Blk (X : Cx) (scope : Scope) (X' : Cx) : Prop := ∃ (s : Shared) (H : Hp) (C : Addr) (cl : List (Str × Addr)) (fp : List Addr), X' = X.blk s H scope (compEnvC scope cl C X.env) fp
theorem blk_ctx {scope : Scope} (c : Ctx X T k N sc vt st) (b : Blk X scope X') (hv : N.map (visB (relS scope sc)) = vt') (hl : N.map (locB scope) = st') : Ctx X' T k N (relS scope sc) vt' st' := by
  obtain ⟨s, H, C, cl, fp, rfl⟩ := b
  refine ⟨c.hP, c.hw, c.hK, c.hmg, c.hbase, c.room, c.hN, c.nd, by rw [← c.hsc]; rfl, c.calm, rfl, fun i x hi e => ?_, fun i x hi e => ?_⟩
  · rw [← hv] at e
    exact visB_of (get_map_true hi e)
  · rw [← hl] at e
    have q := locB_of (get_map_true hi e)
    have hr : (X.blk s H scope (compEnvC scope cl C X.env) fp).env.scope = relS scope sc := by rw [← c.hsc]; rfl
    rw [hr]
    rcases q with q | q
    · have := lookup_relS_keep (sc := sc) (by decide) q
      exact ⟨.inl this, .inr this⟩
    · have := lookup_relS_keep (sc := sc) (by decide) q
      refine ⟨.inr this, .inl ?_⟩
      show (scope.names.lookup x == some .cell) = true
      rw [q]
      rfl
def wipeD (ρ : Rho) : List Nat → Rho
  | [] => ρ
  | v :: vs => (wipeD ρ vs).set v none
theorem DenS.clr {H : Hp} : ∀ {σ : Sl} {ρ : Rho} (i : Nat), DenS H σ ρ → DenS H (σ.set i none) (ρ.set i none)
  | _, _, _, .nil => .nil
  | _, _, 0, .cons _ t => .cons True.intro t
  | _, _, i + 1, .cons q t => .cons q (DenS.clr i t)
theorem DenS.wipe {H : Hp} {σ : Sl} {ρ : Rho} (q : DenS H σ ρ) : ∀ vs : List Nat, DenS H (L2.wipe σ vs) (wipeD ρ vs)
  | [] => q
  | v :: vs => (DenS.wipe q vs).clr v
def WIf (X : Cx) (ifs : List Expr) : TT := fun σ H Q => ∀ (pins : List (Addr × Obj)) (s : Shared), Inv X pins σ H s →
    wpAny (model X.prog X.w) X.A (forIn ifs true fun c r => if r = true then do let ok ← isTrue c X.env (eval c X.env); pure (ForInStep.yield ok) else pure (ForInStep.yield r)) (TP X pins σ Q) X.xe s
def LIf (X : Cx) (ifs : List Expr) (ρ : Rho) (h : HD) (Q : Bool → HD → Prop) : Prop := ∀ σ H, DenS H σ ρ → RelH h H → WIf X ifs σ H (OT H Q)
theorem WIf.mono {ifs : List Expr} {K K' : Bool → Hp → Prop} (w : WIf X ifs σ H K) (k : ∀ v H', K v H' → K' v H') : WIf X ifs σ H K' := fun pins s I => wpAny_mono (w pins s I) (fun u s' ⟨H', I', q⟩ => ⟨H', I', k _ _ q⟩) fun _ _ x => x
theorem lif_nil {Q : Bool → HD → Prop} (q : Q true h) : LIf X [] ρ h Q := fun σ H hs hh pins s I => pts_nil.run pins s σ H _ I ⟨TupS.refl H, h, hh, q⟩
theorem lif_one {Q : Bool → HD → Prop} (q : LT X e ρ h Q) : LIf X [e] ρ h Q := fun σ H hs hh pins s I => (pts_one pt_wt).run pins s σ H _ I (q σ H hs hh)
/-- [elt for tg in iter if ..]: Pv by the turn, what the new list holds, the heap with it -/
def CompW (X : Cx) (elt tg : Expr) (ifs : List Expr) (scope : Scope) (vs : List Nat) (ρ : Rho) (Q : D → HD → Prop) : List D → (HD → Prop) → HD → Prop := fun ds G h1 => ∀ p, h1 p = none → ∃ Pv : Nat → List D → HD → Prop, Pv 0 [] (updD h1 p (.lst [])) ∧ (∀ i acc hh, Pv i acc hh → hh p = some (.lst acc) ∧ G hh) ∧
      (∀ i d acc hh, ds[i]? = some d → Pv i acc hh → ∃ is ρ2, (∀ i ∈ is, i ∈ vs) ∧ (∀ X', Blk X scope X' → LG X' tg d (wipeD ρ vs) is fun ρ' => ρ' = ρ2) ∧ ∀ X', Blk X scope X' → LIf X' ifs ρ2 hh fun b h2 =>
        (b = true → ∀ X', Blk X scope X' → LE X' elt ρ2 h2 fun r h3 => acc.length < 100000 ∧ h3 p = some (.lst acc) ∧ Fg (Pv (i + 1) (acc ++ [r])) (updD h3 p (.lst (acc ++ [r])))) ∧ (b = false → Fg (Pv (i + 1) acc) h2)) ∧
      (∀ acc hh, Pv ds.length acc hh → Fg (Q (.ref p)) hh)
theorem tlc_ok {elt : Expr} {ifs : List Expr} {scope : Scope} {vs : List Nat} {Q : D → HD → Prop} {wi : TI} {K : Sl → Hp → VK}
    (hi : ∀ σ H RR, DenS H σ ρ → RelH h H → (∀ J H1 ds G h1, CompW X elt tg ifs scope vs ρ Q ds G h1 → TupS H H1 → RelH h1 H1 → (∃ GH : Hp → Prop, Walk J ds.length GH (YD ds) ∧ ∀ hh HH, G hh → RelH hh HH → TupS H1 HH → GH HH) → RR J H1) → wi σ H RR)
    (hK : ∀ σ H v H', DenS H σ ρ → RelH h H → OQ H Q v H' → K σ H v H') (hs : DenS H σ ρ) (hh : RelH h H) :
    tLc wi (fun v σ H Q => ∀ X', Blk X scope X' → WG X' tg v σ H Q) (fun σ H Q => ∀ X', Blk X scope X' → WIf X' ifs σ H Q) (fun σ H Q => ∀ X', Blk X scope X' → WE X' elt σ H Q) vs σ H (K σ H) := by
  refine hi σ H _ hs hh fun J H1 ds G h1 R t1 r1 ⟨GH, w, gh⟩ p hp => ?_
  obtain ⟨Pv, p0, pG, step, done⟩ := R p (r1.none hp)
  refine lc_it (g := fun v σ H Q => ∀ X', Blk X scope X' → WG X' tg v σ H Q) (tt := fun σ H Q => ∀ X', Blk X scope X' → WIf X' ifs σ H Q) (te := fun σ H Q => ∀ X', Blk X scope X' → WE X' elt σ H Q) (vs := vs) (σ := σ) (Qd := fun H' => K σ H (.ref p) H') w (fun i H' => TupS H1 H' ∧ ∃ acc hh, RelH hh H' ∧ Pv i acc hh) ⟨TupS.new hp, [], _, r1.new (o := .lst []) hp .nil, p0⟩ (fun i H' hi q => ?_) (fun i x H' H2 hi q y => ?_) (fun H' q => ?_)
  · obtain ⟨t, acc, hh', r, q⟩ := q
    exact gh hh' H' (pG i acc hh' q).2 r t
  · obtain ⟨t, acc, hh', r, q⟩ := q
    obtain ⟨t2, r2, d, e2, d2⟩ := y
    obtain ⟨is, ρ2, his, g, f⟩ := step i d acc hh' e2 q
    have ds2 : DenS H2 (L2.wipe σ vs) (wipeD ρ vs) := (hs.mono ((t1.trans t).trans t2)).wipe vs
    intro X1 b1
    refine (g X1 b1 x _ H2 d2 ds2).mono fun σ3 H3 q3 => ?_
    obtain ⟨e3, ww, ρ3, hs3, q3⟩ := q3
    subst e3 q3
    refine ⟨?_, fun X2 b2 => ?_⟩
    · rw [ww vs his]
      have idem : ∀ (vs : List Nat) (σ : Sl), L2.wipe (L2.wipe σ vs) vs = L2.wipe σ vs := by
        intro vs
        induction vs with
        | nil => intro σ; rfl
        | cons v vs ih =>
          intro σ
          show (L2.wipe ((L2.wipe σ vs).set v none) vs).set v none = (L2.wipe σ vs).set v none
          by_cases e : v ∈ vs
          · rw [wipe_set e, ih]
          · have : ∀ (vs : List Nat) (σ : Sl) (x : Option V), v ∉ vs → L2.wipe (σ.set v x) vs = (L2.wipe σ vs).set v x := by
              intro vs
              induction vs with
              | nil => intro σ x _; rfl
              | cons w ws ih =>
                intro σ x hn
                rw [List.mem_cons, not_or] at hn
                show (L2.wipe (σ.set v x) ws).set w none = ((L2.wipe σ ws).set w none).set v x
                rw [ih σ x hn.2, List.set_comm _ _ hn.1]
            rw [this vs _ _ e, ih, List.set_set]
      exact idem vs σ
    · refine WIf.mono (f X2 b2 σ3 H3 hs3 (r2 hh' r)) fun b H4 q4 => ?_
      obtain ⟨t4, h4, r4, qt, qf⟩ := q4
      have t14 := (t.trans t2).trans t4
      cases b with
      | true =>
        refine iteT fun X3 b3 => (qt rfl X3 b3).use (hs3.mono t4) r4 fun v H5 r h5 t5 r5 d5 q5 => ?_
        obtain ⟨hl, e5, h6, sb, q6⟩ := q5
        obtain ⟨ws, e6, d6⟩ := r5.lst e5
        refine ⟨ws, e6, by rw [d6.length, sizeLine_eq]; omega, (t14.trans t5).trans (TupS.set e6 fun _ z => nomatch z), _, h6, RelH.sub ?_ sb, q6⟩
        exact r5.set (o := .lst (acc ++ [r])) e6 (fun _ z => nomatch z) (d6.append (Dens.one d5))
      | false =>
        obtain ⟨h6, sb, q6⟩ := qf rfl
        exact iteF ⟨t14, acc, h6, r4.sub sb, q6⟩
  · obtain ⟨t, acc, hh', r, q⟩ := q
    obtain ⟨h6, sb, q6⟩ := done acc hh' q
    exact hK σ H _ H' hs hh ⟨t1.trans t, .ref p, h6, r.sub sb, .ref p, q6⟩
theorem le_comp {elt : Expr} {ifs : List Expr} {scope : Scope} {own : List (Str × Nat)} {Q : D → HD → Prop} (c : Ctx X T k N sc vt st) (ok : blkC N sc scope own = true) (hi : LI X tg iter ρ h (CompW X elt tg ifs scope (own.map (·.2)) ρ Q))
    (hs : ∀ x, foldedSetIterable iter X.env x = pure x := by intro _; rfl) : LE X (.ListComp elt [⟨tg, iter, ifs, 0⟩] scope pos) ρ h Q := by
  obtain ⟨wi, pi, hi⟩ := hi
  exact le_of (pe_lc (own := own) (g := fun v σ H Q => ∀ X', Blk X scope X' → WG X' tg v σ H Q) (tt := fun σ H Q => ∀ X', Blk X scope X' → WIf X' ifs σ H Q) (te := fun σ H Q => ∀ X', Blk X scope X' → WE X' elt σ H Q) c.calm (by rw [c.hN]; exact c.nd) pi (by rw [c.hN, c.hsc]; exact blkOk_by ok)
    (fun s H C cl fp => ⟨fun pins s σ H v u Q I r h => h _ ⟨_, _, _, _, _, rfl⟩ pins s u I r⟩) (fun s H C cl fp => ⟨fun pins s σ H Q I h => h _ ⟨_, _, _, _, _, rfl⟩ pins s I⟩) (fun s H C cl fp => ⟨fun pins s σ H Q I h => h _ ⟨_, _, _, _, _, rfl⟩ pins s I⟩) hs)
    fun σ H hs hh => tlc_ok (K := fun _ H => OQ H Q) hi (fun _ _ _ _ _ _ q => q) hs hh
/-- y = [..] -/
theorem ls_setLc {elt : Expr} {ifs : List Expr} {scope : Scope} {own : List (Str × Nat)} {y : Str} {py spos : Pos} (i : Nat) (c : Ctx X T k N sc vt st) (ok : blkC N sc scope own = true) (hy : N[i]? = some y) (hyl : sc.names.lookup y = some .local)
    (hsw : swapsWith (.ListComp elt [⟨tg, iter, ifs, 0⟩] scope pos) (some (.Name y py)) spos.line X.env = pure true) (hi : LI X tg iter ρ h (CompW X elt tg ifs scope (own.map (·.2)) ρ fun d h' => E.nx (ρ.set i (some d)) h'))
    (hs : ∀ x, foldedSetIterable iter X.env x = pure x := by intro _; rfl) : LS X (.Assign [.Name y py] (.ListComp elt [⟨tg, iter, ifs, 0⟩] scope pos) spos) ρ h E := by
  obtain ⟨wi, pi, hi⟩ := hi
  exact ls_of (ps_setLc (i := i) (own := own) (g := fun v σ H Q => ∀ X', Blk X scope X' → WG X' tg v σ H Q) (tt := fun σ H Q => ∀ X', Blk X scope X' → WIf X' ifs σ H Q) (te := fun σ H Q => ∀ X', Blk X scope X' → WE X' elt σ H Q) c.calm (by rw [c.hN]; exact c.nd) (by rw [c.hN]; exact hy) (by rw [c.hsc]; exact hyl) hsw pi (by rw [c.hN, c.hsc]; exact blkOk_by ok)
    (fun s H C cl fp => ⟨fun pins s σ H v u Q I r h => h _ ⟨_, _, _, _, _, rfl⟩ pins s u I r⟩) (fun s H C cl fp => ⟨fun pins s σ H Q I h => h _ ⟨_, _, _, _, _, rfl⟩ pins s I⟩) (fun s H C cl fp => ⟨fun pins s σ H Q I h => h _ ⟨_, _, _, _, _, rfl⟩ pins s I⟩) hs)
    fun σ H hs hh => tlc_ok (K := fun σ H v H' => OS H E.nx (σ.set i (some v)) H') hi (fun _ _ v H' hs _ q => by
      obtain ⟨t, d, h', r, e, q⟩ := q
      exact ⟨t, _, h', (hs.mono t).set e i, r, q⟩) hs hh
/-- a comprehension whose element leaves the heap as it is: no tests -/
theorem ll_comp {elt : Expr} {scope : Scope} {own : List (Str × Nat)} {rs : List D} (c : Ctx X T k N sc vt st) (ok : blkC N sc scope own = true) {is : List Nat} (his : ∀ i ∈ is, i ∈ own.map (·.2)) (f : D → Rho)
    (hi : ∀ R : List D → (HD → Prop) → HD → Prop, (∀ G h1, Sub h h1 → (∀ p acc, h1 p = none → G (updD h1 p (.lst acc))) → R ds G h1) → LI X tg iter ρ h R)
    (hl : ds.length = rs.length) (hz : ds.length ≤ 100000)
    (ht : ∀ (i : Nat) (d : D), ds[i]? = some d → ∀ X', Blk X scope X' → LG X' tg d (wipeD ρ (own.map (·.2))) is fun ρ' => ρ' = f d)
    (he : ∀ (i : Nat) (d r : D) hh, ds[i]? = some d → rs[i]? = some r → Sub h hh → ∀ X', Blk X scope X' → LX X' elt (f d) hh r hh)
    (hs : ∀ x, foldedSetIterable iter X.env x = pure x := by intro _; rfl) : LL X (.ListComp elt [⟨tg, iter, [], 0⟩] scope pos) ρ h rs := fun Q q =>
  le_comp c ok (hi _ fun G h1 sb hG p hp => ⟨fun i acc hh => i ≤ rs.length ∧ acc = rs.take i ∧ hh = updD h1 p (.lst acc), ⟨Nat.zero_le _, rfl, rfl⟩, fun i acc hh ⟨_, _, e⟩ => by
      subst e
      exact ⟨updD_same, hG p _ hp⟩, fun i d acc hh hd ⟨hle, e1, e2⟩ => by
      subst e1 e2
      have hlt : i < rs.length := by rw [← hl]; exact (List.getElem?_eq_some_iff.mp hd).1
      have er : rs[i]? = some rs[i] := by simp [hlt]
      refine ⟨is, f d, his, fun X' b => ht i d hd X' b, fun X' b => lif_nil ⟨fun _ X2 b2 => he i d _ _ hd er (sb.trans (Sub.new hp)) X2 b2 _ ⟨by rw [List.length_take]; omega, updD_same, Fg.of ⟨hlt, ?_, ?_⟩⟩, fun z => nomatch z⟩⟩
      · rw [List.take_add_one, er]; rfl
      · rw [updD_updD], fun acc hh ⟨_, e1, e2⟩ => by
      subst e1 e2
      rw [hl, List.take_length]
      exact Fg.to (sb.upd p _) (q p (by cases e : h p with | none => rfl | some o => rw [sb p o e] at hp; cases hp))⟩) hs
end
end Fy
end
section
set_option linter.all false
set_option maxRecDepth 100000
set_option maxHeartbeats 4000000
namespace Fy
open PySem PySem.Spec PyProof.Rows L2
section
variable {X X' : Cx} {T : Tx} {k : Nat} {N : List Str} {sc : Scope} {vt st vt' st' : List Bool} {ρ ρ' : Rho} {h h1 h2 h3 h4 : HD} {H : Hp} {σ : Sl}
variable {e a b tg iter : Expr} {es tgs : List Expr} {d x y z : D} {ds res : List D} {bb : Bool} {pos : Pos} {E : EndsD} {p C : Addr} {is js : List Nat}
/-! ### fields -/
theorem PD.look {H : Hp} {f : Str} {d : D} : ∀ {vs : List (Str × V)} {ds : List (Str × D)}, PD H vs ds → ds.lookup f = some d → ∃ v, vs.lookup f = some v ∧ Den H v d := by
  intro vs ds q
  induction q with
  | nil => intro e; cases e
  | @cons p q vs ds h t ih =>
    obtain ⟨n1, v1⟩ := p
    obtain ⟨n2, d2⟩ := q
    obtain ⟨e1, h⟩ := h
    simp only at e1 h
    subst e1
    intro e
    rw [List.lookup_cons] at e ⊢
    cases q : f == n1 with
    | true => rw [q] at e; cases e; exact ⟨v1, rfl, h⟩
    | false => rw [q] at e; exact ih e
theorem PD.lookN {H : Hp} {f : Str} : ∀ {vs : List (Str × V)} {ds : List (Str × D)}, PD H vs ds → ds.lookup f = none → vs.lookup f = none := by
  intro vs ds q
  induction q with
  | nil => intro _; rfl
  | @cons p q vs ds h t ih =>
    obtain ⟨n1, v1⟩ := p
    obtain ⟨n2, d2⟩ := q
    obtain ⟨e1, h⟩ := h
    simp only at e1 h
    subst e1
    intro e
    rw [List.lookup_cons] at e ⊢
    cases q : f == n1 with
    | true => rw [q] at e; cases e
    | false => rw [q] at e; exact ih e
def putFD (f : Str) (v : D) : List (Str × D) → List (Str × D)
  | [] => [(f, v)]
  | (g, x) :: r => if g = f then (g, v) :: r else (g, x) :: putFD f v r
theorem PD.putF {H : Hp} {f : Str} {v : V} {d : D} (hd : Den H v d) : ∀ {vs : List (Str × V)} {ds : List (Str × D)}, PD H vs ds → PD H (L2.putF f v vs) (putFD f d ds) := by
  intro vs ds q
  induction q with
  | nil => exact .cons ⟨rfl, hd⟩ .nil
  | @cons p q vs ds h t ih =>
    obtain ⟨n1, v1⟩ := p
    obtain ⟨n2, d2⟩ := q
    obtain ⟨e1, h⟩ := h
    simp only at e1 h
    subst e1
    show PD H (if n1 = f then (n1, v) :: vs else (n1, v1) :: L2.putF f v vs) (if n1 = f then (n1, d) :: ds else (n1, d2) :: putFD f d ds)
    by_cases z : n1 = f
    · rw [if_pos z, if_pos z]; exact .cons ⟨rfl, hd⟩ t
    · rw [if_neg z, if_neg z]; exact .cons ⟨rfl, h⟩ ih
theorem lx_fld {fs : List (Str × D)} {f : Str} (c : Ctx X T k N sc vt st) (ha : LX X a ρ h (.ref p) h1) (hp : h1 p = some (.ins C fs)) (cl : Cls T.K C) (n : NoAttr T.K C f) (hl : fs.lookup f = some z) (hb : attributeBase a f X.env (eval a X.env) = eval a X.env := by rfl) : LX X (.Attribute a f pos) ρ h z h1 := fun Q q =>
  le_of (pe_fld pe_we hb) fun σ H hs hh => ha.use hs hh fun v H1 t1 r1 d1 => by
    obtain ⟨dx, ws, e1, pd⟩ := r1.ins hp
    obtain ⟨w, e2, d2⟩ := pd.look hl
    exact ⟨p, C, dx, ws, w, d1.ref_inv, e1, by rw [c.hK]; exact cl, by rw [c.hK]; exact n, e2, oq_of t1 r1 d2 q⟩
theorem ls_fld {f : Str} {value : Expr} {pos' : Pos} (c : Ctx X T k N sc vt st) (hv : LE X value ρ h fun v h1 => ∃ fs, h1 p = some (.ins C fs) ∧ fs.length < 1000 ∧ LX X a ρ h1 (.ref p) h1 ∧ E.nx ρ (updD h1 p (.ins C (putFD f v fs)))) (cl : Cls T.K C) (n : NoAttr T.K C f)
    (hs : swapsWith value (some (.Attribute a f pos')) pos.line X.env = pure false := by rfl) : LS X (.Assign [.Attribute a f pos'] value pos) ρ h E :=
  ls_of (ps_fld pe_we pe_we hs) fun σ H hs hh => hv.use hs hh fun v H1 d h1 t1 r1 d1 ⟨fs, e1, hl, ha, q⟩ => ha.use (hs.mono t1) r1 fun w H2 t2 r2 d2 => by
    obtain ⟨dx, ws, e2, pd⟩ := r2.ins e1
    have t3 : TupS H2 (upd H2 p (.ins C dx (L2.putF f v ws))) := TupS.set e2 fun _ z => nomatch z
    have t := (t1.trans t2).trans t3
    refine ⟨p, C, dx, ws, d2.ref_inv, e2, by rw [c.hK]; exact cl, by rw [c.hK]; exact n, ?_, t, ρ, _, hs.mono t, ?_, q⟩
    · have := Paired.length pd; omega
    · exact r2.set (o := .ins C (putFD f d fs)) e2 (fun _ z => nomatch z) ⟨rfl, pd.putF (d1.mono t2)⟩
/-- a method of the class at C keeps its promise -/
def HasM (T : Tx) (C : Addr) (j : Nat) (m : Str) (ps : List Str) (fs : FS) : Prop :=
  ∃ f fd, Meth T.K C m f ∧ Binds T.K fd ps [] ∧ FnOk T.P T.w T.K T.mg T.base CX0 j f fd ps (Lsp fs)
theorem le_meth {j : Nat} {m : Str} {ps : List Str} {fs : FS} {fl : List (Str × D)} {apos : Pos} {Q : D → HD → Prop} {pl : Sem Bool} (c : Ctx X T k N sc vt st) (g : HasM T C j m ps fs) (hj : j ≤ k) (ho : LX X a ρ h (.ref p) h1) (hp : h1 p = some (.ins C fl)) (cl : Cls T.K C) (hl : fl.lookup m = none)
    (ha : LA X (e :: es) ρ h1 fun ds h2 => fs (.ref p :: ds) h2 Q) (hst : starEach (e :: es) X.env = (false, eval e X.env) :: starEach es X.env := by rfl) (hpl : (backTo pos (starEach es X.env)).any (·.1) = false := by rfl)
    (ht : eval (.Call (.Attribute a m apos) (e :: es) [] pos) X.env = (do
      let ov ← eval a X.env
      standAt apos.atName
      let (f, first) ← holding [ov] (getMethod ov m pl)
      callWith pos f first (backTo pos (starEach (e :: es) X.env)) (backToKw pos (keywordEach [] X.env))) := by rfl) : LE X (.Call (.Attribute a m apos) (e :: es) [] pos) ρ h Q := by
  obtain ⟨f, fd, mm, bi, F⟩ := g
  refine le_of (pe_meth (dvs := []) (E := E0) (pl := pl) pe_we (by rw [c.hK]; exact cl) (by rw [c.hK]; exact mm) (by rw [c.hP, c.hw, c.hK, c.hmg, c.hbase]; exact F) (c.room.mono hj) (by rw [c.hK]; exact bi) .nil pass0 pa_wa hst hpl ht) fun σ H hs hh => ?_
  refine ho.use hs hh fun v H1 t1 r1 d1 => ?_
  obtain ⟨dx, ws, e1, pd⟩ := r1.ins hp
  refine ⟨p, dx, ws, d1.ref_inv, e1, pd.lookN hl, ha.use (hs.mono t1) r1 fun vs H2 ds h2 t2 r2 d2 q => ?_⟩
  refine ⟨.ref p :: ds, h2, Q, .cons (by rw [d1.ref_inv]; exact .ref p) (by rw [List.append_nil]; exact d2), r2, q, fun v H' o => o.mono (t1.trans t2) fun _ _ z => z⟩
theorem lx_meth0 {j : Nat} {m : Str} {ps : List Str} {fs : FS} {fl : List (Str × D)} {apos : Pos} {pl : Sem Bool} (c : Ctx X T k N sc vt st) (g : HasM T C j m ps fs) (hj : j ≤ k) (ho : LX X a ρ h (.ref p) h1) (hp : h1 p = some (.ins C fl)) (cl : Cls T.K C) (hl : fl.lookup m = none)
    (hf : ∀ Q : D → HD → Prop, Q z h2 → fs [.ref p] h1 Q)
    (ht : eval (.Call (.Attribute a m apos) [] [] pos) X.env = (do
      let ov ← eval a X.env
      standAt apos.atName
      let (f, first) ← holding [ov] (getMethod ov m pl)
      callWith pos f first (backTo pos (starEach [] X.env)) (backToKw pos (keywordEach [] X.env))) := by rfl) : LX X (.Call (.Attribute a m apos) [] [] pos) ρ h z h2 := fun Q q => by
  obtain ⟨f, fd, mm, bi, F⟩ := g
  refine le_of (pe_meth0 (dvs := []) (E := E0) (pl := pl) pe_we (by rw [c.hK]; exact cl) (by rw [c.hK]; exact mm) (by rw [c.hP, c.hw, c.hK, c.hmg, c.hbase]; exact F) (c.room.mono hj) (by rw [c.hK]; exact bi) .nil pass0 ht) fun σ H hs hh => ?_
  refine ho.use hs hh fun v H1 t1 r1 d1 => ?_
  obtain ⟨dx, ws, e1, pd⟩ := r1.ins hp
  refine ⟨p, dx, ws, d1.ref_inv, e1, pd.lookN hl, ?_⟩
  exact ⟨[.ref p], h1, Q, .cons (by rw [d1.ref_inv]; exact .ref p) .nil, r1, hf Q q, fun v H' o => o.mono t1 fun _ _ z => z⟩
/-- C(..) by its __init__ -/
def HasI (T : Tx) (C : Addr) (j : Nat) (ps : List Str) (fs : FS) : Prop :=
  ∃ f fd, Mk T.K C f ∧ Binds T.K fd ps [] ∧ FnOk T.P T.w T.K T.mg T.base CX0 j f fd ps (Lsp fs)
theorem le_make {j : Nat} {nm : Str} {ps : List Str} {fs : FS} {p0 : Pos} {Q : D → HD → Prop} (c : Ctx X T k N sc vt st) (g : HasI T C j ps fs) (hj : j + 1 ≤ k) (hg : globB sc nm = true) (hm : T.mg nm = some (.ref C))
    (ha : LA X (e :: es) ρ h fun ds h1 => ∀ x, h1 x = none → fs (.ref x :: ds) (updD h1 x (.ins C [])) fun d h' => d = .non ∧ Q (.ref x) h')
    (hdb : (nm == ("__debug__" : Str)) = false := by decide) (he : starEach (e :: es) X.env = (false, eval e X.env) :: starEach es X.env := by rfl) (hpl : (backTo pos (starEach es X.env)).any (·.1) = false := by rfl) : LE X (.Call (.Name nm p0) (e :: es) [] pos) ρ h Q := by
  obtain ⟨f, fd, mk, bi, F⟩ := g
  refine le_of (pe_make (dvs := []) (E := E0) (by rw [c.hK]; exact mk) (by rw [c.hP, c.hw, c.hK, c.hmg, c.hbase]; exact F) (c.room.mono hj) (c.gl hg) (by rw [c.hmg]; exact hm) (by rw [c.hK]; exact bi) .nil pass0 pa_wa hdb he hpl) fun σ H hs hh => ?_
  refine ha.use hs hh fun vs H1 ds h1 t1 r1 d1 q x dx hx hdx ne => ?_
  have t2 : TupS H1 (upd H1 dx (.own x)) := TupS.new hdx
  have hx2 : (upd H1 dx (.own x)) x = none := by rw [upd_ne (Ne.symm ne)]; exact hx
  have t3 : TupS (upd H1 dx (.own x)) (upd (upd H1 dx (.own x)) x (.ins C dx [])) := TupS.new hx2
  have r3 : RelH (updD h1 x (.ins C [])) (upd (upd H1 dx (.own x)) x (.ins C dx [])) := (r1.skip hdx).new hx2 ⟨rfl, .nil⟩
  have t := (t1.trans t2).trans t3
  refine ⟨.ref x :: ds, _, _, .cons (.ref x) (by rw [List.append_nil]; exact d1.mono (t2.trans t3)), r3, q x (r1.none hx), fun v H' o => ?_⟩
  obtain ⟨t4, d, h', r4, d4, e4, q4⟩ := o
  subst e4
  exact ⟨d4.non_inv, t.trans t4, .ref x, h', r4, .ref x, q4⟩
/-! ### isinstance -/
def D.kind : D → String
  | .non => "NoneType"
  | .bl _ => "bool"
  | .int _ => "int"
  | .str _ => "str"
  | .tup _ => "tuple"
  | .tupF _ => "tuple"
  | _ => ""
theorem den_ty {K : PySem.W.Frag} {v : V} (q : Den H v d) (hk : d.kind ≠ "") : TyX K H v (.type d.kind) := by
  cases q with
  | non => exact .base .non
  | bl b => exact .base (.bl b)
  | int i => exact .base (.int i)
  | str s => exact .base (.str s)
  | tup e _ => exact .base (.tup e)
  | tupF e _ _ => exact .fTuple e
  | ref a => exact absurd rfl hk
  | ty n => exact absurd rfl hk
theorem cb_isi {n : String} {r : Bool} (hk : d.kind ≠ "") (e : kitB d.kind n = some r) : CB X (.builtin "isinstance") [d, .ty n] h (.bl r) h := ⟨_, call_isi, fun H vs K rh q k => by
  obtain ⟨v, w, rfl, dv, dw⟩ := q.two_inv
  exact ⟨v, w, _, .type n, r, rfl, by rw [dw.ty_inv]; exact .ty n, den_ty dv hk, kit_ty e, k _ H (TupS.refl H) rh (.bl r)⟩⟩
theorem lx_blt {nm : Str} {n : String} (c : Ctx X T k N sc vt st) (hg : globB sc nm = true) (hm : T.mg nm = none) (hv : bootBuiltins nm = some (.type n)) (hn : nm ≠ "__name__" := by decide) (hd : (nm == ("__debug__" : Str)) = false := by decide) : LX X (.Name nm pos) ρ h (.ty n) h :=
  fun Q q => le_of (pe_bltn (v := .ty n) (c.gl hg) (by rw [c.hmg]; exact hm) hv rfl hn hd) fun σ H hs hh => oq_of (TupS.refl H) hh (.ty n) q
/-! ### equality of data -/
mutual
def D.pure : D → Bool
  | .non => true
  | .int _ => true
  | .str x => PyData.strOk x
  | .tup ds => D.pures ds
  | .tupF ds => D.pures ds
  | _ => false
def D.pures : List D → Bool
  | [] => true
  | d :: r => D.pure d && D.pures r
end
mutual
def D.toP : D → PyData
  | .int i => .int i
  | .str x => .str x
  | .tup ds => .tuple (D.toPs ds)
  | .tupF ds => .tuple (D.toPs ds)
  | .bl b => .bool b
  | _ => .none
def D.toPs : List D → List PyData
  | [] => []
  | d :: r => D.toP d :: D.toPs r
end
mutual
def D.eqb : D → D → Bool
  | .non, .non => true
  | .int i, .int j => i == j
  | .str x, .str y => x == y
  | .tup a, .tup b => D.eqbs a b
  | .tupF a, .tup b => D.eqbs a b
  | .tup a, .tupF b => D.eqbs a b
  | .tupF a, .tupF b => D.eqbs a b
  | _, _ => false
def D.eqbs : List D → List D → Bool
  | [], [] => true
  | a :: r, b :: s => D.eqb a b && D.eqbs r s
  | _, _ => false
end
mutual
theorem eqb_eqv : ∀ {d e : D}, d.pure = true → e.pure = true → PyData.eqv d.toP e.toP = D.eqb d e
  | .non, .non, _, _ => by simp [D.toP, PyData.eqv, D.eqb]
  | .non, .int _, _, _ => by simp [D.toP, PyData.eqv, D.eqb]
  | .non, .str _, _, _ => by simp [D.toP, PyData.eqv, D.eqb]
  | .non, .tup _, _, _ => by simp [D.toP, PyData.eqv, D.eqb]
  | .int _, .non, _, _ => by simp [D.toP, PyData.eqv, D.eqb]
  | .int _, .int _, _, _ => by simp [D.toP, PyData.eqv, D.eqb]
  | .int _, .str _, _, _ => by simp [D.toP, PyData.eqv, D.eqb]
  | .int _, .tup _, _, _ => by simp [D.toP, PyData.eqv, D.eqb]
  | .str _, .non, _, _ => by simp [D.toP, PyData.eqv, D.eqb]
  | .str _, .int _, _, _ => by simp [D.toP, PyData.eqv, D.eqb]
  | .str _, .str _, _, _ => by simp [D.toP, PyData.eqv, D.eqb]
  | .str _, .tup _, _, _ => by simp [D.toP, PyData.eqv, D.eqb]
  | .tup _, .non, _, _ => by simp [D.toP, PyData.eqv, D.eqb]
  | .tup _, .int _, _, _ => by simp [D.toP, PyData.eqv, D.eqb]
  | .tup _, .str _, _, _ => by simp [D.toP, PyData.eqv, D.eqb]
  | .tup a, .tup b, h1, h2 => by
    simp only [D.toP, PyData.eqv, D.eqb]
    exact eqbs_eqv (by simpa [D.pure] using h1) (by simpa [D.pure] using h2)
  | .non, .tupF _, _, _ => by simp [D.toP, PyData.eqv, D.eqb]
  | .tupF _, .non, _, _ => by simp [D.toP, PyData.eqv, D.eqb]
  | .int _, .tupF _, _, _ => by simp [D.toP, PyData.eqv, D.eqb]
  | .tupF _, .int _, _, _ => by simp [D.toP, PyData.eqv, D.eqb]
  | .str _, .tupF _, _, _ => by simp [D.toP, PyData.eqv, D.eqb]
  | .tupF _, .str _, _, _ => by simp [D.toP, PyData.eqv, D.eqb]
  | .tupF a, .tup b, h1, h2 => by
    simp only [D.toP, PyData.eqv, D.eqb]
    exact eqbs_eqv (by simpa [D.pure] using h1) (by simpa [D.pure] using h2)
  | .tup a, .tupF b, h1, h2 => by
    simp only [D.toP, PyData.eqv, D.eqb]
    exact eqbs_eqv (by simpa [D.pure] using h1) (by simpa [D.pure] using h2)
  | .tupF a, .tupF b, h1, h2 => by
    simp only [D.toP, PyData.eqv, D.eqb]
    exact eqbs_eqv (by simpa [D.pure] using h1) (by simpa [D.pure] using h2)
  | .tupF _, .bl _, _, h1 => by simp [D.pure] at h1
  | .tupF _, .ref _, _, h1 => by simp [D.pure] at h1
  | .tupF _, .ty _, _, h1 => by simp [D.pure] at h1
  | .bl _, _, h1, _ => by simp [D.pure] at h1
  | .ref _, _, h1, _ => by simp [D.pure] at h1
  | .ty _, _, h1, _ => by simp [D.pure] at h1
  | .non, .bl _, _, h1 => by simp [D.pure] at h1
  | .non, .ref _, _, h1 => by simp [D.pure] at h1
  | .non, .ty _, _, h1 => by simp [D.pure] at h1
  | .int _, .bl _, _, h1 => by simp [D.pure] at h1
  | .int _, .ref _, _, h1 => by simp [D.pure] at h1
  | .int _, .ty _, _, h1 => by simp [D.pure] at h1
  | .str _, .bl _, _, h1 => by simp [D.pure] at h1
  | .str _, .ref _, _, h1 => by simp [D.pure] at h1
  | .str _, .ty _, _, h1 => by simp [D.pure] at h1
  | .tup _, .bl _, _, h1 => by simp [D.pure] at h1
  | .tup _, .ref _, _, h1 => by simp [D.pure] at h1
  | .tup _, .ty _, _, h1 => by simp [D.pure] at h1
theorem eqbs_eqv : ∀ {d e : List D}, D.pures d = true → D.pures e = true → PyData.eqvAll (D.toPs d) (D.toPs e) = D.eqbs d e
  | [], [], _, _ => by simp [D.toPs, PyData.eqvAll, D.eqbs]
  | [], _ :: _, _, _ => by simp [D.toPs, PyData.eqvAll, D.eqbs]
  | _ :: _, [], _, _ => by simp [D.toPs, PyData.eqvAll, D.eqbs]
  | a :: r, b :: s, h1, h2 => by
    have h1 : a.pure = true ∧ D.pures r = true := by simpa [D.pures] using h1
    have h2 : b.pure = true ∧ D.pures s = true := by simpa [D.pures] using h2
    simp only [D.toPs, PyData.eqvAll, D.eqbs]
    rw [eqb_eqv h1.1 h2.1, eqbs_eqv h1.2 h2.2]
end
mutual
theorem lay_pure : ∀ {d : D}, d.pure = true → d.toP.canLay0 = true
  | .non, _ => by simp [D.toP, PyData.canLay0]
  | .int _, _ => by simp [D.toP, PyData.canLay0]
  | .str _, h => by simpa [D.toP, PyData.canLay0, D.pure] using h
  | .tup ds, h => by
    simp only [D.toP, PyData.canLay0]
    exact lays_pure (by simpa [D.pure] using h)
  | .tupF ds, h => by
    simp only [D.toP, PyData.canLay0]
    exact lays_pure (by simpa [D.pure] using h)
  | .bl _, h1 => by simp [D.pure] at h1
  | .ref _, h1 => by simp [D.pure] at h1
  | .ty _, h1 => by simp [D.pure] at h1
theorem lays_pure : ∀ {d : List D}, D.pures d = true → PyData.canLayAll0 (D.toPs d) = true
  | [], _ => by simp [D.toPs, PyData.canLayAll0]
  | a :: r, h => by
    have h : a.pure = true ∧ D.pures r = true := by simpa [D.pures] using h
    simp [D.toPs, PyData.canLayAll0, lay_pure h.1, lays_pure h.2]
end
mutual
theorem dp_of {K : PySem.W.Frag} {H : Hp} : ∀ {v : V} {d : D}, Den H v d → d.pure = true → Dp K H v d.toP
  | _, _, .non, _ => .non
  | _, _, .int i, _ => .int i
  | _, _, .str x, _ => .str x
  | _, _, .tup e hs, h => by
    rw [D.toP]
    exact .tup (SqT.of e) (dpAll_of hs (by simpa [D.pure] using h))
  | _, _, .tupF e _ hs, h => by
    rw [D.toP]
    exact .tup (.inl (.inr ⟨_, e⟩)) (dpAll_of hs (by simpa [D.pure] using h))
  | _, _, .bl _, h1 => by simp [D.pure] at h1
  | _, _, .ref _, h1 => by simp [D.pure] at h1
  | _, _, .ty _, h1 => by simp [D.pure] at h1
theorem dpAll_of {K : PySem.W.Frag} {H : Hp} : ∀ {vs : List V} {ds : List D}, Dens H vs ds → D.pures ds = true → DpAll K H vs (D.toPs ds)
  | _, _, .nil, _ => by rw [D.toPs]; exact .nil
  | _, _, .cons a b, h => by
    rw [D.pures, Bool.and_eq_true] at h
    rw [D.toPs]
    exact .cons (dp_of a h.1) (dpAll_of b h.2)
end
/-- data that == may compare: pure, not nested deeper than 60 -/
def D.ok (d : D) : Bool := d.pure && decide (d.toP.depth ≤ 60)
theorem ok_shaped (h : d.ok = true) : d.pure = true ∧ SeqAt.shaped d.toP = true := by
  unfold D.ok at h
  rw [Bool.and_eq_true, decide_eq_true_eq] at h
  exact ⟨h.1, by unfold SeqAt.shaped; rw [lay_pure h.1, Bool.true_and, decide_eq_true_eq]; omega⟩
theorem f2_eqD (c : Ctx X T k N sc vt st) (hx : x.ok = true) (hy : y.ok = true) : F2 X (compareOp .Eq) x y h (.bl (D.eqb x y)) := ⟨_, op_eqD c.hu64, fun H u v K r a b q => by
  obtain ⟨p1, s1⟩ := ok_shaped hx
  obtain ⟨p2, s2⟩ := ok_shaped hy
  exact ⟨_, _, dp_of a p1, dp_of b p2, s1, s2, by rw [eqb_eqv p1 p2]; exact q _ H (TupS.refl H) r (.bl _)⟩⟩
theorem f2_neD (c : Ctx X T k N sc vt st) (hx : x.ok = true) (hy : y.ok = true) : F2 X (compareOp .NotEq) x y h (.bl (!D.eqb x y)) := ⟨_, op_neD c.hu64, fun H u v K r a b q => by
  obtain ⟨p1, s1⟩ := ok_shaped hx
  obtain ⟨p2, s2⟩ := ok_shaped hy
  exact ⟨_, _, dp_of a p1, dp_of b p2, s1, s2, by rw [eqb_eqv p1 p2]; exact q _ H (TupS.refl H) r (.bl _)⟩⟩
/-- two lists of such data -/
theorem f2_neL {p' : Addr} (c : Ctx X T k N sc vt st) (hp : h p = some (.lst ds)) (hp' : h p' = some (.lst res)) (hx : (D.tup ds).ok = true) (hy : (D.tup res).ok = true) : F2 X (compareOp .NotEq) (.ref p) (.ref p') h (.bl (!D.eqbs ds res)) := ⟨_, op_neD c.hu64, fun H u v K r a b q => by
  obtain ⟨p1, s1⟩ := ok_shaped hx
  obtain ⟨p2, s2⟩ := ok_shaped hy
  obtain ⟨vs, e1, d1⟩ := r.lst hp
  obtain ⟨ws, e2, d2⟩ := r.lst hp'
  rw [D.pure] at p1 p2
  have z1 : SeqAt.shaped (.list (D.toPs ds)) = true := by
    unfold SeqAt.shaped at s1 ⊢
    simpa [D.toP, PyData.canLay0, PyData.depth] using s1
  have z2 : SeqAt.shaped (.list (D.toPs res)) = true := by
    unfold SeqAt.shaped at s2 ⊢
    simpa [D.toP, PyData.canLay0, PyData.depth] using s2
  refine ⟨.list (D.toPs ds), .list (D.toPs res), by rw [a.ref_inv]; exact .lst (SqL.of e1) (dpAll_of d1 p1), by rw [b.ref_inv]; exact .lst (SqL.of e2) (dpAll_of d2 p2), z1, z2, ?_⟩
  rw [PyData.eqv, eqbs_eqv p1 p2]
  exact q _ H (TupS.refl H) r (.bl _)⟩
mutual
theorem eqb_refl : ∀ {d : D}, d.pure = true → D.eqb d d = true
  | .non, _ => by simp [D.eqb]
  | .int _, _ => by simp [D.eqb]
  | .str _, _ => by simp [D.eqb]
  | .tup ds, h => by
    simp only [D.eqb]
    exact eqbs_refl (by simpa [D.pure] using h)
  | .tupF ds, h => by
    simp only [D.eqb]
    exact eqbs_refl (by simpa [D.pure] using h)
  | .bl _, h1 => by simp [D.pure] at h1
  | .ref _, h1 => by simp [D.pure] at h1
  | .ty _, h1 => by simp [D.pure] at h1
theorem eqbs_refl : ∀ {d : List D}, D.pures d = true → D.eqbs d d = true
  | [], _ => by simp [D.eqbs]
  | a :: r, h => by
    have h : a.pure = true ∧ D.pures r = true := by simpa [D.pures] using h
    simp [D.eqbs, eqb_refl h.1, eqbs_refl h.2]
end
theorem eqbs_ints : ∀ {r s : List Int}, D.eqbs (r.map .int) (s.map .int) = decide (r = s)
  | [], [] => by simp [D.eqbs]
  | [], _ :: _ => by simp [D.eqbs]
  | _ :: _, [] => by simp [D.eqbs]
  | a :: r, b :: s => by
    have ih := @eqbs_ints r s
    simp only [List.map_cons, D.eqbs, ih, D.eqb]
    by_cases z : a = b <;> simp [z]
theorem pures_ints : ∀ {r : List Int}, D.pures (r.map .int) = true
  | [] => by simp [D.pures]
  | a :: r => by simp [D.pures, D.pure, @pures_ints r]
theorem depths_ints : ∀ {r : List Int}, PyData.depthAll (D.toPs (r.map .int)) = 0
  | [] => by simp [D.toPs, PyData.depthAll]
  | a :: r => by simp [D.toPs, PyData.depthAll, D.toP, PyData.depth, @depths_ints r]
theorem ok_ints {r : List Int} : (D.tup (r.map .int)).ok = true := by simp [D.ok, D.pure, pures_ints, D.toP, PyData.depth, depths_ints]
/-! ### in a written pair -/
theorem cb_any_true : True := trivial
theorem f2_inT2 {i m n : Int} : F2 X (compareOp .In) (.int i) (.tup [.int m, .int n]) h (.bl (decide (i = m) || decide (i = n))) := ⟨_, op_in_seq, fun H u v K r a b q => by
  obtain ⟨p, vs, rfl, e1, d1⟩ := b.tup_inv
  obtain ⟨v1, v2, rfl, dv, dw⟩ := d1.two_inv
  rw [dv.int_inv, dw.int_inv] at e1
  refine ⟨p, _, rfl, .inr (SqT.of e1), by rw [a.int_inv]; rfl, rfl, ?_⟩
  rw [a.int_inv]
  have : inV (.int i) [.int m, .int n] = (decide (i = m) || decide (i = n)) := by
    show ((m == i) || ((n == i) || false)) = _
    by_cases z : m = i
    · subst z; simp
    · have z2 : ¬ i = m := fun w => z w.symm
      by_cases z3 : n = i
      · subst z3; simp
      · have z4 : ¬ i = n := fun w => z3 w.symm
        simp [z, z2, z3, z4]
  show K (.bl (if false = true then !inV (.int i) [.int m, .int n] else inV (.int i) [.int m, .int n])) H
  rw [if_neg Bool.false_ne_true, this]
  exact q _ H (TupS.refl H) r (.bl _)⟩
/-- not in a list or tuple of ints -/
theorem inV_ints {i : Int} : ∀ {ns : List Int}, inV (.int i) (ns.map V.int) = decide (i ∈ ns)
  | [] => by simp [inV]
  | n :: r => by
    have ih := @inV_ints i r
    unfold inV at ih ⊢
    rw [List.map_cons, List.any_cons, ih]
    show ((n == i) || decide (i ∈ r)) = _
    by_cases z : n = i
    · subst z; simp
    · have z2 : ¬ i = n := fun w => z w.symm
      simp [z, z2]
theorem f2_notinL {i : Int} {ns : List Int} (hp : h p = some (.lst (ns.map .int))) : F2 X (compareOp .NotIn) (.int i) (.ref p) h (.bl (!decide (i ∈ ns))) := ⟨_, op_notIn_seq, fun H u v K r a b q => by
  obtain ⟨vs, e1, d1⟩ := r.lst hp
  have e2 := d1.ints
  subst e2
  refine ⟨p, _, by rw [b.ref_inv], .inl (SqL.of e1), by rw [a.int_inv]; rfl, List.all_eq_true.mpr fun v hv => by obtain ⟨n, _, rfl⟩ := List.mem_map.mp hv; rfl, ?_⟩
  rw [a.int_inv, if_pos rfl, inV_ints]
  exact q _ H (TupS.refl H) r (.bl _)⟩
theorem f2_notinT {i : Int} {ns : List Int} : F2 X (compareOp .NotIn) (.int i) (.tup (ns.map .int)) h (.bl (!decide (i ∈ ns))) := ⟨_, op_notIn_seq, fun H u v K r a b q => by
  obtain ⟨p, vs, rfl, e1, d1⟩ := b.tup_inv
  have e2 := d1.ints
  subst e2
  refine ⟨p, _, rfl, .inr (SqT.of e1), by rw [a.int_inv]; rfl, List.all_eq_true.mpr fun v hv => by obtain ⟨n, _, rfl⟩ := List.mem_map.mp hv; rfl, ?_⟩
  rw [a.int_inv, if_pos rfl, inV_ints]
  exact q _ H (TupS.refl H) r (.bl _)⟩
/-! ### a op1 b op2 c op3 .. -/
def LCh (X : Cx) (x : D) (ops : List CmpOp) (es : List Expr) (ρ : Rho) (h : HD) (z : D) : Prop :=
  ∀ (pos : Pos) (pins : List (Addr × Obj)) (s : Shared) (σ : Sl) (H : Hp) (u : V) (v : Value), Inv X pins σ H s → DenS H σ ρ → RelH h H → Den H u x → RelV u v →
    wpAny (model X.prog X.w) X.A (compareChain pos v ops (evalEach es X.env)) (EP X pins σ fun w H' => TupS H H' ∧ RelH h H' ∧ Den H' w z) X.xe s
theorem ch_last {op : CmpOp} (hb : LX X b ρ h y h) (ho : F2 X (compareOp op) x y h z) : LCh X x [op] [b] ρ h z := fun pos pins s σ H u v I hs hh hd rv => by
  obtain ⟨r, o, hr⟩ := ho
  refine chain_last (thn ((hb.use (K := fun w H1 => TupS H H1 ∧ RelH h H1 ∧ Den H1 w y) hs hh fun w H1 t1 r1 d1 => ⟨t1, r1, d1⟩) pins s I) fun w s1 ⟨wv, H1, I1, rw', t1, r1, d1⟩ => ?_)
  exact o pins s1 σ H1 u wv v w _ I1 rv rw' (hr H1 u wv _ r1 (hd.mono t1) d1 fun w' H' t2 r2 d2 => ⟨t1.trans t2, r2, d2⟩)
theorem ch_link {op op' : CmpOp} {ops : List CmpOp} {e' : Expr} {es : List Expr} {b1 b2 : Bool} (hb : LX X b ρ h y h) (ho : F2 X (compareOp op) x y h (.bl b1)) (hr : b1 = true → LCh X y (op' :: ops) (e' :: es) ρ h (.bl b2)) : LCh X x (op :: op' :: ops) (b :: e' :: es) ρ h (.bl (b1 && b2)) := fun pos pins s σ H u v I hs hh hd rv => by
  obtain ⟨r, o, hro⟩ := ho
  refine chain_link (thn ((hb.use (K := fun w H1 => TupS H H1 ∧ RelH h H1 ∧ Den H1 w y) hs hh fun w H1 t1 r1 d1 => ⟨t1, r1, d1⟩) pins s I) fun w s1 ⟨wv, H1, I1, rw', t1, r1, d1⟩ => ?_)
  refine thn (o pins s1 σ H1 u wv v w _ I1 rv rw' (hro H1 u wv (fun c H' => TupS H1 H' ∧ RelH h H' ∧ Den H' c (.bl b1)) r1 (hd.mono t1) d1 fun w' H' t2 r2 d2 => ⟨t2, r2, d2⟩)) fun cv s2 ⟨c, H2, I2, rc, t2, r2, d2⟩ => ?_
  rw [d2.bl_inv] at rc
  cases rc
  refine wpAny_truthy_bool ?_
  cases b1 with
  | true =>
    refine ite_tt (thn (hr rfl pos pins s2 σ H2 wv w I2 (hs.mono (t1.trans t2)) r2 (d1.mono t2) rw') fun z s3 ⟨zv, H3, I3, rz, t3, r3, d3⟩ => ⟨zv, H3, I3, rz, (t1.trans t2).trans t3, r3, d3⟩)
  | false => exact ite_ff ⟨.bl false, H2, I2, rfl, t1.trans t2, r2, .bl false⟩
theorem lx_chainN {o1 o2 : CmpOp} {ops : List CmpOp} {e1 e2 : Expr} {es : List Expr} (ha : LX X a ρ h x h) (hc : LCh X x (o1 :: o2 :: ops) (e1 :: e2 :: es) ρ h z) (hm : lastMarks (o1 :: o2 :: ops) (e1 :: e2 :: es) = false := by with_unfolding_all rfl) :
    LX X (.Compare a (o1 :: o2 :: ops) (e1 :: e2 :: es) pos) ρ h z h := fun Q q σ H hs hh pins s I => by
  refine Compare_chain (thn ((ha.use (K := fun w H1 => TupS H H1 ∧ RelH h H1 ∧ Den H1 w x) hs hh fun w H1 t1 r1 d1 => ⟨t1, r1, d1⟩) pins s I) fun w s1 ⟨wv, H1, I1, rw', t1, r1, d1⟩ => ?_) hm
  exact thn (hc pos pins s1 σ H1 wv w I1 (hs.mono t1) r1 d1 rw') fun z' s2 ⟨zv, H2, I2, rz, t2, r2, d2⟩ => ⟨zv, H2, I2, rz, oq_of (t1.trans t2) r2 d2 q⟩
end
end Fy
end
section
set_option linter.all false
set_option maxRecDepth 100000
set_option maxHeartbeats 4000000
namespace Fy
open PySem PySem.Spec PyProof.Rows L2
/-- new pairs of the i-th of xs and of ys, while G holds -/
def ItP (n : Nat) (G : Hp → Prop) (xs ys : Nat → Option V) : It :=
  ⟨fun i H => i < n ∧ G H, fun i H v H' => ∃ Tt x y, v = .ref Tt ∧ H Tt = none ∧ H' = upd H Tt (.tup [x, y]) ∧ xs i = some x ∧ ys i = some y, fun i H => i = n ∧ G H⟩
/-- an iterator of new pairs, by the library's GoesN at each turn -/
theorem turn_pairs {P : Program} {w : World} {K : PySem.W.Frag} {elts : List Expr} {kk : Nat} {tpos : Pos} {n : Nat} {G : Hp → Prop} {xs ys : Nat → Option V} {fp wr : List Addr} {it : Addr} {tn : Nat → Heap → Prop}
    (mem : it ∈ fp) (wsub : ∀ b ∈ wr, b ∈ fp) (obj : ∀ i h, tn i h → ∀ b ∈ fp, ∃ o, h.get? b = some o ∧ ∀ v, o.data ≠ .cell v)
    (keep : ∀ i h h', tn i h → (∀ b ∈ fp, ∀ o, h.get? b = some o → h'.get? b = some o) → tn i h')
    (run : ∀ (X : Cx), X.prog = P → X.w = w → X.K = K → X.calm = true → ∀ (i : Nat) (pins : List (Addr × Obj)) (s : Shared) (σ : Sl) (H : Hp), Inv X pins σ H s → (∀ b ∈ fp, FpOk X pins H b) → tn i s.heap → G H → i ≤ n →
      ∃ fp' Y St, GoesN P w X.A (.Tuple elts kk tpos) it fp' wr n Y St ∧ St i s.heap ∧ (∀ j h', St j h' → tn j h') ∧ ∀ v h', Y i s.heap v h' → ∃ Tt x y u u', v = .ref Tt ∧ s.heap.objs.size ≤ Tt ∧ h'.IsTuple Tt #[u, u'] ∧ xs i = some x ∧ ys i = some y ∧ RelV x u ∧ RelV y u')
    (self : ∀ (A : Around) (i : Nat) (s : Shared) (Q : Value → Shared → Prop) (E : Value → Shared → Prop), tn i s.heap → Q (.ref it) s → wpAny (model P w) A (pyIter (.ref it)) Q E s) :
    Turn P w K (.Tuple elts kk tpos) (ItP n G xs ys) fp it tn where
  mem := mem
  obj := obj
  keep := keep
  item := by
    intro X hP hw hK hc i pins s σ H E I hf st hg
    obtain ⟨hi, hg⟩ := hg
    obtain ⟨fp', Y, St, W, s1, t1, y1⟩ := run X hP hw hK hc i pins s σ H I hf st hg (Nat.le_of_lt hi)
    subst hP hw hK
    refine W.goes i s (fun v s2 => ∃ x H', Inv X pins σ H' s2 ∧ RelV x v ∧ (ItP n G xs ys).yld i H x H' ∧ tn (i + 1) s2.heap ∧ ∀ b ∈ fp, H' b = none) E hi s1 fun v h' tk hY hst hk htk => ?_
    obtain ⟨Tt, x, y, u, u', rfl, hT, ht, hx, hy, rx, ry⟩ := y1 v h' hY
    have new : ObjOk X.prog X.w (upd H Tt (.tup [x, y])) h' Tt (.tup [x, y]) := ⟨by show 2 ≤ sizeLine; decide, [u, u'], .cons rx (.cons ry .nil), ht⟩
    have I1 : Inv X pins σ (upd H Tt (.tup [x, y])) { s with heap := h', toks := tk } := I.turnedNew (t' := tk) (ch := wr) hk (fun b hb => hf b (wsub b hb)) hT new
    refine ⟨.ref Tt, _, I1, rfl, ⟨Tt, x, y, rfl, I.hok.fresh hT, rfl, hx, hy⟩, t1 _ _ hst, fun b hb => ?_⟩
    obtain ⟨o, ho, _⟩ := obj i s.heap st b hb
    rw [upd_ne (Nat.ne_of_lt (Nat.lt_of_lt_of_le (Heap.lt_size ho) hT))]
    exact (hf b hb).1
  done := by
    intro X hP hw hK hc i pins s σ H E I hf st hg
    obtain ⟨hi, hg⟩ := hg
    subst hi
    obtain ⟨fp', Y, St, W, s1, t1, y1⟩ := run X hP hw hK hc i pins s σ H I hf st hg (Nat.le_refl _)
    subst hP hw hK
    exact W.stops s (fun s1 => Inv X pins σ H s1) E s1 fun h' tk hk _ => I.turnedL (t' := tk) (ch := wr) hk fun b hb => hf b (wsub b hb)
  self := self
theorem walk_pairs {n : Nat} {G : Hp → Prop} {xs ys : Nat → Option V} : Walk (ItP n G xs ys) n G fun i H v H' => ∃ Tt x y, v = .ref Tt ∧ H Tt = none ∧ H' = upd H Tt (.tup [x, y]) ∧ xs i = some x ∧ ys i = some y :=
  ⟨fun i H hi g => ⟨hi, g⟩, fun H g => ⟨rfl, g⟩, fun i H x H' _ _ y => y⟩
/-- told of data: xs, ys denote ds, es since H1 -/
theorem walk_pairsD {n : Nat} {G G' : Hp → Prop} {xs ys : Nat → Option V} {dx dy : Nat → Option D} {H1 : Hp} {ps : List D} (hn : ps.length = n) (gg : ∀ H, G' H → G H) (gt : ∀ H, G' H → TupS H1 H)
    (hx : ∀ i x, i < n → xs i = some x → ∃ d, dx i = some d ∧ Den H1 x d) (hy : ∀ i y, i < n → ys i = some y → ∃ d, dy i = some d ∧ Den H1 y d)
    (hp : ∀ i d e, i < n → dx i = some d → dy i = some e → ps[i]? = some (.tup [d, e])) : Walk (ItP n G xs ys) ps.length G' (YD ps) := by
  rw [hn]
  refine walk_pairs.mono gg fun i H v H' hi g y => ?_
  obtain ⟨Tt, x, y, rfl, hT, rfl, e1, e2⟩ := y
  obtain ⟨d, h1, d1⟩ := hx i x hi e1
  obtain ⟨e, h2, d2⟩ := hy i y hi e2
  have t := TupS.new (o := .tup [x, y]) hT
  have tt := (gt H g).trans t
  exact ⟨t, fun _ r => r.skip hT, _, hp i d e hi h1 h2, .tup upd_same (.cons (d1.mono tt) (.cons (d2.mono tt) .nil))⟩
section
variable {X : Cx} {T : Tx} {k : Nat} {N : List Str} {sc : Scope} {vt st : List Bool} {ρ : Rho} {h h1 h2 : HD} {H : Hp} {σ : Sl} {a b : Expr} {ds es : List D} {pos : Pos} {p : Addr}
def zipD (ds es : List D) : List D := (ds.zip es).map fun p => .tup [p.1, p.2]
theorem zipD_len {ds es : List D} : (zipD ds es).length = min ds.length es.length := by unfold zipD; rw [List.length_map, List.length_zip]
theorem zipD_get {ds es : List D} {i : Nat} {d e : D} (h1 : ds[i]? = some d) (h2 : es[i]? = some e) : (zipD ds es)[i]? = some (.tup [d, e]) := by
  unfold zipD
  rw [List.getElem?_map]
  have : (ds.zip es)[i]? = some (d, e) := by rw [List.getElem?_zip_eq_some]; exact ⟨h1, h2⟩
  rw [this]; rfl
/-- zip of two tuples -/
theorem li_zipT {R : List D → (HD → Prop) → HD → Prop} {elts : List Expr} {kk : Nat} {tpos p0 : Pos} (c : Ctx X T k N sc vt st) (ha : LX X a ρ h (.tup ds) h1) (hb : LX X b ρ h1 (.tup es) h2) (hg : globB sc "zip" = true) (hm : T.mg "zip" = none) (q : R (zipD ds es) (fun _ => True) h2)
    (hs : starEach [a, b] X.env = (false, eval a X.env) :: starEach [b] X.env := by rfl) (hs2 : starEach [b] X.env = (false, eval b X.env) :: starEach [] X.env := by rfl) (hpl : (backTo pos (starEach [b] X.env)).any (·.1) = false := by rfl) : LI X (.Tuple elts kk tpos) (.Call (.Name "zip" p0) [a, b] [] pos) ρ h R :=
  ⟨_, RZ.pi_zipA (c.gl hg) (by rw [c.hmg]; exact hm) (pa_cons pe_we (pa_cons pe_we pa_nil hs2) hs) hs hpl, fun σ H RR hs hh k => ha.use hs hh fun v H1 t1 r1 d1 => hb.use (hs.mono t1) r1 fun w H2 t2 r2 d2 => by
    obtain ⟨pa, vs, rfl, e1, dv⟩ := (d1.mono t2).tup_inv
    obtain ⟨pb, ws, rfl, e2, dw⟩ := d2.tup_inv
    refine ⟨pa, pb, vs, ws, rfl, .inr ⟨SqT.of e1, SqT.of e2, k _ H2 _ _ h2 q (t1.trans t2) r2 ⟨fun HH => TupS H2 HH, ?_, fun _ _ _ _ t => t⟩⟩⟩
    refine ⟨fun i HH hi t => ?_, fun HH t => ?_, fun i HH x H' hi t y => ?_⟩
    · rw [zipD_len, ← dv.length, ← dw.length] at hi
      exact ⟨vs, ws, vs[i], ws[i], SqT.of (t _ _ e1), SqT.of (t _ _ e2), by simp [show i < vs.length by omega], by simp [show i < ws.length by omega]⟩
    · rw [zipD_len, ← dv.length, ← dw.length]
      exact ⟨vs, ws, SqT.of (t _ _ e1), SqT.of (t _ _ e2), by omega⟩
    · obtain ⟨Tt, x, y, rfl, hT, rfl, hx, hy⟩ := y
      have hx := hx vs (SqT.of (t _ _ e1))
      have hy := hy ws (SqT.of (t _ _ e2))
      obtain ⟨d, g1, q1⟩ := dv.get' hx
      obtain ⟨e, g2, q2⟩ := dw.get' hy
      have t3 := TupS.new (o := .tup [x, y]) hT
      have tt := t.trans t3
      exact ⟨t3, fun _ r => r.skip hT, _, zipD_get g1 g2, .tup upd_same (.cons (q1.mono tt) (.cons (q2.mono tt) .nil))⟩⟩
/-! ### zip of a tuple and a list -/
theorem ptup {h : Heap} {a : Addr} {xs : Array Value} (x : IsTup h a xs) : h.IsTuple a xs := x
/-- a zip's turn over a tuple at pa and a list at pb -/
theorem turn_zipTL {P : Program} {w : World} {K : PySem.W.Frag} {elts : List Expr} {kk : Nat} {tpos : Pos} {z TI TO i1 i2 pa pb : Addr} {vs ws : List V} (S : ZipSep2 z TI TO i1 i2 [i1, pa] [i2, pb]) (n1 : pa ≠ i1) (n2 : pb ≠ i2) :
    Turn P w K (.Tuple elts kk tpos) (ItP (min vs.length ws.length) (fun H => SqT K H pa vs ∧ SqL K H pb ws) (fun i => vs[i]?) (fun i => ws[i]?)) [z, TI, TO, i1, i2] z
      (fun i h => IsZip h z TI TO .none ∧ IsTupOf2 h TI (.ref i1) (.ref i2) ∧ (∃ a1 a2, IsTupOf2 h TO a1 a2) ∧ h.IsTupleIter i1 pa i ∧ h.IsListIter i2 pb i) := by
  refine turn_pairs (wr := [z, TO, i1, i2]) (by simp) (fun b hb => by simp at hb ⊢; rcases hb with r | r | r | r <;> simp [r]) (fun i h st c hc => ?_) (fun i h h' st k => ?_) (fun X hP hw hK hc i pins s σ H I hf st g hi => ?_) fun A i s Q E st h => wpAny_pyIter_zip st.1 h
  · obtain ⟨hz, hTI, ⟨x, y, hTO⟩, ⟨o1, e1, _, d1⟩, ⟨o2, e2, _, d2⟩⟩ := st
    have e' : c = z ∨ c = TI ∨ c = TO ∨ c = i1 ∨ c = i2 := by simpa using hc
    rcases e' with q | q | q | q | q
    · rw [q]; exact ⟨_, hz, fun v q => nomatch q⟩
    · rw [q]; exact ⟨_, hTI, fun v q => nomatch q⟩
    · rw [q]; exact ⟨_, hTO, fun v q => nomatch q⟩
    · rw [q]; exact ⟨o1, e1, fun v q => by rw [d1] at q; cases q⟩
    · rw [q]; exact ⟨o2, e2, fun v q => by rw [d2] at q; cases q⟩
  · obtain ⟨hz, hTI, ⟨x, y, hTO⟩, h1, h2⟩ := st
    exact ⟨k z (by simp) _ hz, k TI (by simp) _ hTI, ⟨x, y, k TO (by simp) _ hTO⟩, h1.at fun o q => k i1 (by simp) o q, h2.at fun o q => k i2 (by simp) o q⟩
  · subst hP hw hK
    obtain ⟨hz, hTI, hTO, h1, h2⟩ := st
    obtain ⟨its, rv, p1, _⟩ := I.tuple g.1
    obtain ⟨its2, rv2, p2, _⟩ := I.list g.2
    have hh : X.A.in1.handled = none := I.ok.hd hc
    have D1 := Draws.tuple (prog := X.prog) (w := X.w) hh i1 pa n1 its.toArray
    have D2 := Draws.list (prog := X.prog) (w := X.w) hh i2 pb n2 its2.toArray
    have W := GoesN.zip2 (elts := elts) (x1 := kk) (pos := tpos) S D1 D2
    have e1 : its.toArray.size = vs.length := by rw [List.size_toArray]; exact rv.length.symm
    have e2 : its2.toArray.size = ws.length := by rw [List.size_toArray]; exact rv2.length.symm
    rw [e1, e2] at W
    refine ⟨_, _, _, W, ⟨hz, hTI, hTO, ⟨h1, ptup p1⟩, ⟨h2, p2.isList⟩⟩, fun j h' ⟨a, b, c, d, e⟩ => ⟨a, b, c, d.1, e.1⟩, fun v h' hY => ?_⟩
    obtain ⟨Tt, x, y, rfl, hT, hx, hy, ht⟩ := hY
    have hx : its[i]? = some x := by simpa using hx
    have hy : its2[i]? = some y := by simpa using hy
    have g1 : ∀ {vs : List V} {us : List Value} {i : Nat} {u : Value}, Vals vs us → us[i]? = some u → ∃ x, vs[i]? = some x ∧ RelV x u := fun {vs us i u} r e => by
      cases q : vs[i]? with
      | none => rw [r.none_of q] at e; cases e
      | some x =>
        obtain ⟨u', e', r'⟩ := r.get q
        rw [e] at e'; cases e'
        exact ⟨x, rfl, r'⟩
    obtain ⟨xv, q1, r1⟩ := g1 rv hx
    obtain ⟨yv, q2, r2⟩ := g1 rv2 hy
    exact ⟨Tt, xv, yv, x, y, rfl, hT, ht, q1, q2, r1, r2⟩
theorem vget {vs : List V} {us : List Value} {i : Nat} {u : Value} (r : Vals vs us) (e : us[i]? = some u) : ∃ x, vs[i]? = some x ∧ RelV x u := by
  cases q : vs[i]? with
  | none => rw [r.none_of q] at e; cases e
  | some x =>
    obtain ⟨u', e', r'⟩ := r.get q
    rw [e] at e'; cases e'
    exact ⟨x, rfl, r'⟩
def iZipTL (K : PySem.W.Frag) (ta : TA) : TI := fun σ H R => ta σ H fun vs H1 => ∃ a b xs ys, vs = [.ref a, .ref b] ∧ SqT K H1 a xs ∧ SqL K H1 b ys ∧ R (ItP (min xs.length ys.length) (fun H => SqT K H a xs ∧ SqL K H b ys) (fun i => xs[i]?) (fun i => ys[i]?)) H1
theorem pi_zipTL {e e2 : Expr} {ta : TA} {p pos tpos : Pos} {elts : List Expr} {kk : Nat} (hg : Gl X "zip") (hm : X.mg "zip" = none) (ha : PA X [e, e2] ta)
    (hs : starEach [e, e2] X.env = (false, eval e X.env) :: starEach [e2] X.env := by rfl) (hpl : (backTo pos (starEach [e2] X.env)).any (·.1) = false := by rfl) :
    PI X (.Tuple elts kk tpos) (.Call (.Name "zip" p) [e, e2] [] pos) (iZipTL X.K ta) := by
  refine ⟨fun pins s σ H R I h => ?_⟩
  refine Call_ (ld_blt I hg hm PyProof.Rows.boot_zip (PyProof.Rows.callWith_type1 (thn (ha.run pos pins s σ H _ I h) fun us s1 ⟨vs, H1, I1, r1, q1⟩ => ?_) hs hpl))
  obtain ⟨a, b, xs, ys, rfl, hqx, hqy, q⟩ := q1
  obtain ⟨u1, u2, rfl, ra, rb⟩ := r1.two
  cases (show u1 = Value.ref a from ra)
  cases (show u2 = Value.ref b from rb)
  obtain ⟨its, rv, p1, _⟩ := I1.tuple hqx
  obtain ⟨its2, rv2, p2, _⟩ := I1.list hqy
  have la : a < s1.heap.objs.size := p1.lt
  have lb : b < s1.heap.objs.size := p2.lt
  refine zip_begins2 (begins_tuple a its.toArray) (begins_list b its2.toArray) (ptup p1) p2.isList fun h' hz hTI hTO h1 h2 hsz hk => wpAny_pyIter_zip hz ?_
  have I2 : Inv X pins σ H1 { s1 with heap := h' } := I1.kept (t' := s1.toks) hk
  have S := zip_sep2 (N := s1.heap.objs.size) (fp1 := [a]) (fp2 := [b]) (by simpa using la) (by simpa using lb)
  refine ⟨s1.heap.objs.size + 4, [s1.heap.objs.size + 4, s1.heap.objs.size + 2, s1.heap.objs.size + 3, s1.heap.objs.size, s1.heap.objs.size + 1], _, _, H1, rfl, I2, turn_zipTL (vs := xs) (ws := ys) S (Nat.ne_of_lt la) (Nat.ne_of_lt (Nat.lt_succ_of_lt lb)), ⟨hz, hTI, ⟨_, _, hTO⟩, ⟨_, h1, rfl, rfl⟩, ⟨_, h2, rfl, rfl⟩⟩, fun c hcm => ?_, q⟩
  have e' : c = s1.heap.objs.size + 4 ∨ c = s1.heap.objs.size + 2 ∨ c = s1.heap.objs.size + 3 ∨ c = s1.heap.objs.size ∨ c = s1.heap.objs.size + 1 := by simpa using hcm
  have hle : s1.heap.objs.size ≤ c := by
    rcases e' with z | z | z | z | z
    · rw [z]; exact Nat.le_add_right _ _
    · rw [z]; exact Nat.le_add_right _ _
    · rw [z]; exact Nat.le_add_right _ _
    · rw [z]; exact Nat.le_refl _
    · rw [z]; exact Nat.le_add_right _ _
  exact I1.fpOk hle (I1.hok.fresh hle)
def D.flat : D → Bool
  | .tup _ => false
  | .tupF _ => false
  | _ => true
theorem flat_eq {H H' : Hp} {v w : V} {d : D} (f : d.flat = true) (a : Den H v d) (b : Den H' w d) : v = w := by
  cases a <;> first | (cases b; rfl) | cases f
theorem flats_eq {H H' : Hp} : ∀ {vs ws : List V} {ds : List D}, ds.all D.flat = true → Dens H vs ds → Dens H' ws ds → vs = ws
  | _, _, _, _, .nil, .nil => rfl
  | _, _, _, f, .cons a s, .cons b t => by
    rw [List.all_cons, Bool.and_eq_true] at f
    rw [flat_eq f.1 a b, flats_eq f.2 s t]
theorem li_zipTL {R : List D → (HD → Prop) → HD → Prop} {elts : List Expr} {kk : Nat} {tpos p0 : Pos} (c : Ctx X T k N sc vt st) (ha : LX X a ρ h (.tup ds) h1) (hb : LX X b ρ h1 (.ref p) h2) (hp : h2 p = some (.lst es)) (hf : es.all D.flat = true) (hg : globB sc "zip" = true) (hm : T.mg "zip" = none)
    (q : R (zipD ds es) (fun hh => hh p = some (.lst es)) h2) (hs : starEach [a, b] X.env = (false, eval a X.env) :: starEach [b] X.env := by rfl) (hs2 : starEach [b] X.env = (false, eval b X.env) :: starEach [] X.env := by rfl) (hpl : (backTo pos (starEach [b] X.env)).any (·.1) = false := by rfl) :
    LI X (.Tuple elts kk tpos) (.Call (.Name "zip" p0) [a, b] [] pos) ρ h R :=
  ⟨_, pi_zipTL (c.gl hg) (by rw [c.hmg]; exact hm) (pa_cons pe_we (pa_cons pe_we pa_nil hs2) hs) hs hpl, fun σ H RR hs hh k => ha.use hs hh fun v H1 t1 r1 d1 => hb.use (hs.mono t1) r1 fun w H2 t2 r2 d2 => by
    obtain ⟨pa, vs, rfl, e1, dv⟩ := (d1.mono t2).tup_inv
    obtain ⟨ws, e2, dw⟩ := r2.lst hp
    refine ⟨pa, p, vs, ws, by rw [d2.ref_inv], SqT.of e1, SqL.of e2, k _ H2 _ _ h2 q (t1.trans t2) r2 ⟨fun HH => (SqT X.K HH pa vs ∧ SqL X.K HH p ws) ∧ TupS H2 HH, ?_, fun hh HH g r t => ?_⟩⟩
    · exact walk_pairsD (H1 := H2) (dx := fun i => ds[i]?) (dy := fun i => es[i]?) (by rw [zipD_len, dv.length, dw.length]) (fun _ g => g.1) (fun _ g => g.2) (fun i x _ e => dv.get' e) (fun i x _ e => dw.get' e) (fun i d e _ e1 e2 => zipD_get e1 e2)
    · obtain ⟨ws', e3, dw'⟩ := r.lst g
      rw [flats_eq hf dw' dw] at e3
      exact ⟨⟨SqT.of (t _ _ e1), SqL.of e3⟩, t⟩⟩
end
end Fy
end
section
set_option linter.all false
set_option maxRecDepth 100000
set_option maxHeartbeats 4000000
namespace PySem
open Sem (wp)
theorem fy_enum_newB {v : Value} {o : Obj} {H : Heap → Prop} (B : Begins v o H) :
    Meets (Builtin.«enumerate.__new__» ⟨[.type "enumerate", v], []⟩) (fun _ R s => H s.heap ∧
      R (.ok (.ret (.ref (s.heap.push o).objs.size))) { s with heap := (s.heap.push o).push { cls := .type "enumerate", data := .fields #[.none, .bool false, .ref s.heap.objs.size, rawInt 0, .none, .none] } }) :=
  .of_wp fun prog w A R s h => by
    obtain ⟨hp, g, d, tk, os⟩ := s; obtain ⟨h1, h⟩ := h
    have hsub := sub_enumerate
    have q1 : ∀ {A' : Around} {E : Value → Shared → Prop} {Q : Value → Shared → Prop}, Q (.ref hp.objs.size) ⟨hp.push o, g, d, tk, os⟩ → wpAny (model prog w) A' (pyIter v) Q E ⟨hp, g, d, tk, os⟩ :=
      fun q => B.iter prog w _ _ ⟨hp, g, d, tk, os⟩ _ h1 q
    wp_walk using q1
    refine wpAny_stack_any fun st => wpAny_pure ?_
    split
    · rename_i c _ _ _ _ _
      cases (c == Value.type "enumerate")
      · wp_walk using q1
        exact ⟨_, rfl, h⟩
      · wp_walk using q1
        exact ⟨_, rfl, h⟩
    · wp_walk using q1
      exact ⟨_, rfl, h⟩
section
variable {prog : Program} {w : World} {A : Around} {E : Value → Shared → Prop} {s : Shared}
theorem fy_enum_begins {v : Value} {o : Obj} {H : Heap → Prop} {Q : Value → Shared → Prop} (B : Begins v o H) (h1 : H s.heap)
    (h : ∀ h', IsEnum h' (s.heap.objs.size + 1) s.heap.objs.size 0 .none → h'.get? s.heap.objs.size = some o → h'.objs.size = s.heap.objs.size + 2 →
      (∀ b o, s.heap.get? b = some o → h'.get? b = some o) → Q (.ref (s.heap.objs.size + 1)) { s with heap := h' }) :
    wpAny (model prog w) A (call (.type "enumerate") [v]) Q E s := by
  refine callType_new F.called_enumerate (by decide) (F.typeCall_enumerate_1 _) (F.newCall_enumerate_1 _) (fun obj => F.args_object_init_2 obj _) F.entry_enumerate_new
    (fy_enum_newB B) ⟨h1, ?_⟩
  have hz : (s.heap.push o).objs.size = s.heap.objs.size + 1 := Heap.size_push ..
  show _ ∧ _
  rw [hz]
  have he : IsEnum ((s.heap.push o).push { cls := .type "enumerate", data := .fields #[.none, .bool false, .ref s.heap.objs.size, rawInt 0, .none, .none] }) (s.heap.objs.size + 1) s.heap.objs.size 0 .none := by
    have := Heap.get?_push_size (s.heap.push o) (o := { cls := .type "enumerate", data := .fields #[.none, .bool false, .ref s.heap.objs.size, rawInt 0, .none, .none] }) rfl
    rw [hz] at this; exact this
  refine ⟨⟨_, he, rfl⟩, h _ he (Heap.get?_push_of_some _ (Heap.get?_push_size _ B.free)) (by rw [Heap.size_push, hz]) fun b o x => Heap.get?_push_of_some _ (Heap.get?_push_of_some _ x)⟩
end
end PySem
namespace Fy
open PySem PySem.Spec PyProof.Rows L2
/-! ### enumerate of a tuple -/
theorem turn_enumT {P : Program} {w : World} {K : PySem.W.Frag} {elts : List Expr} {kk : Nat} {tpos : Pos} {e it pa : Addr} {vs : List V} (hne : e ≠ it) (hea : e ≠ pa) (hia : it ≠ pa) :
    Turn P w K (.Tuple elts kk tpos) (ItP vs.length (fun H => SqT K H pa vs) (fun i => some (.int (i : Nat))) (fun i => vs[i]?)) [e, it] e
      (fun i h => (∃ old, IsEnum h e it (0 + (i : Int)) old) ∧ h.IsTupleIter it pa i) := by
  refine turn_pairs (wr := [e, it]) (by simp) (fun b hb => hb) (fun i h st c hc => ?_) (fun i h h' st k => ?_) (fun X hP hw hK hc i pins s σ H I hf st g hi => ?_) fun A i s Q E st h => let ⟨⟨_, he⟩, _⟩ := st; wpAny_pyIter_enum he h
  · obtain ⟨⟨old, he⟩, o2, e2, _, d2⟩ := st
    have e' : c = e ∨ c = it := by simpa using hc
    rcases e' with q | q
    · rw [q]; exact ⟨_, he, fun v q => nomatch q⟩
    · rw [q]; exact ⟨o2, e2, fun v q => by rw [d2] at q; cases q⟩
  · obtain ⟨⟨old, he⟩, h2⟩ := st
    exact ⟨⟨old, k e (by simp) _ he⟩, h2.at fun o q => k it (by simp) o q⟩
  · subst hP hw hK
    obtain ⟨he, h1⟩ := st
    obtain ⟨its, rv, p1, _⟩ := I.tuple g
    have hh : X.A.in1.handled = none := I.ok.hd hc
    have D1 := Draws.tuple (prog := X.prog) (w := X.w) hh it pa (Ne.symm hia) its.toArray
    have W := GoesN.enumFrom (elts := elts) (x1 := kk) (pos := tpos) 0 D1 e hne (by simp [hne, hea]) (by simp)
    have e1 : its.toArray.size = vs.length := by rw [List.size_toArray]; exact rv.length.symm
    rw [e1] at W
    refine ⟨_, _, _, W, ⟨he, ⟨h1, ptup p1⟩⟩, fun j h' ⟨a, b⟩ => ⟨a, b.1⟩, fun v h' hY => ?_⟩
    obtain ⟨Tt, t, x, rfl, hT, hx, ht⟩ := hY
    have hx : its[i]? = some x := by simpa using hx
    obtain ⟨xv, q1, r1⟩ := vget rv hx
    exact ⟨Tt, _, xv, _, x, rfl, hT, ht, rfl, q1, ⟨t, by rw [Int.zero_add]⟩, r1⟩
def iEnumT (K : PySem.W.Frag) (ta : TA) : TI := fun σ H R => ta σ H fun vs H1 => ∃ a xs, vs = [.ref a] ∧ SqT K H1 a xs ∧ R (ItP xs.length (fun H => SqT K H a xs) (fun i => some (.int (i : Nat))) (fun i => xs[i]?)) H1
theorem pi_enumT {X : Cx} {e : Expr} {ta : TA} {p pos tpos : Pos} {elts : List Expr} {kk : Nat} (hg : Gl X "enumerate") (hm : X.mg "enumerate" = none) (ha : PA X [e] ta) (hs : starEach [e] X.env = [(false, eval e X.env)] := by rfl) :
    PI X (.Tuple elts kk tpos) (.Call (.Name "enumerate" p) [e] [] pos) (iEnumT X.K ta) := by
  refine ⟨fun pins s σ H R I h => ?_⟩
  refine Call_ (ld_blt I hg hm boot_enumerate (PyProof.Rows.callWith_type1 (thn (ha.run pos pins s σ H _ I h) fun us s1 ⟨vs, H1, I1, r1, q1⟩ => ?_) hs rfl))
  obtain ⟨a, xs, rfl, hq, q⟩ := q1
  cases r1 with
  | cons r rr =>
    cases rr
    cases r
    obtain ⟨its, rv, p1, hz⟩ := I1.tuple hq
    have la : a < s1.heap.objs.size := p1.lt
    refine fy_enum_begins (begins_tuple a its.toArray) (ptup p1) fun h' he hit hsz hk => wpAny_pyIter_enum he ?_
    have I2 : Inv X pins σ H1 { s1 with heap := h' } := I1.kept (t' := s1.toks) hk
    refine ⟨s1.heap.objs.size + 1, [s1.heap.objs.size + 1, s1.heap.objs.size], _, _, H1, rfl, I2, turn_enumT (vs := xs) (pa := a) (e := s1.heap.objs.size + 1) (it := s1.heap.objs.size) (Nat.succ_ne_self _) (Nat.ne_of_gt (Nat.lt_succ_of_lt la)) (Nat.ne_of_gt la), ⟨⟨.none, he⟩, ⟨_, hit, rfl, rfl⟩⟩, fun b hb => ?_, q⟩
    have e' : b = s1.heap.objs.size + 1 ∨ b = s1.heap.objs.size := by simpa using hb
    have hle : s1.heap.objs.size ≤ b := by
      rcases e' with z | z
      · rw [z]; exact Nat.le_add_right _ _
      · rw [z]; exact Nat.le_refl _
    exact I1.fpOk hle (I1.hok.fresh hle)
section
variable {X : Cx} {T : Tx} {k : Nat} {N : List Str} {sc : Scope} {vt st : List Bool} {ρ : Rho} {h h1 h2 : HD} {H : Hp} {σ : Sl} {a b : Expr} {ds es : List D} {pos : Pos} {p : Addr}
def enD (ds : List D) : List D := ds.zipIdx.map fun p => .tup [.int (p.2 : Nat), p.1]
theorem enD_len {ds : List D} : (enD ds).length = ds.length := by unfold enD; rw [List.length_map, List.length_zipIdx]
theorem enD_get {ds : List D} {i : Nat} : (enD ds)[i]? = (ds[i]?).map fun d => .tup [.int (i : Nat), d] := by
  unfold enD
  rw [List.getElem?_map, List.getElem?_zipIdx, Nat.zero_add]
  cases ds[i]? <;> rfl
theorem li_enumT {R : List D → (HD → Prop) → HD → Prop} {elts : List Expr} {kk : Nat} {tpos p0 : Pos} (c : Ctx X T k N sc vt st) (ha : LX X a ρ h (.tup ds) h1) (hg : globB sc "enumerate" = true) (hm : T.mg "enumerate" = none)
    (q : R (enD ds) (fun _ => True) h1) (hs : starEach [a] X.env = [(false, eval a X.env)] := by rfl) :
    LI X (.Tuple elts kk tpos) (.Call (.Name "enumerate" p0) [a] [] pos) ρ h R :=
  ⟨_, pi_enumT (c.gl hg) (by rw [c.hmg]; exact hm) (pa_cons pe_we pa_nil hs) hs, fun σ H RR hs hh k => ha.use hs hh fun v H1 t1 r1 d1 => by
    obtain ⟨pa, vs, rfl, e1, dv⟩ := d1.tup_inv
    refine ⟨pa, vs, rfl, SqT.of e1, k _ H1 _ _ h1 q t1 r1 ⟨fun HH => SqT X.K HH pa vs ∧ TupS H1 HH, ?_, fun hh HH g r t => ⟨SqT.of (t _ _ e1), t⟩⟩⟩
    exact walk_pairsD (H1 := H1) (dx := fun i => some (.int (i : Nat))) (dy := fun i => ds[i]?) (by rw [enD_len, dv.length]) (fun _ g => g.1) (fun _ g => g.2) (fun i x _ e => by cases e; exact ⟨_, rfl, .int _⟩) (fun i x _ e => dv.get' e) (fun i d e _ e1 e2 => by cases e1; rw [enD_get, e2]; rfl)⟩
/-- enumerate of a list of flat data -/
theorem li_enumL {R : List D → (HD → Prop) → HD → Prop} {elts : List Expr} {kk : Nat} {tpos p0 : Pos} (c : Ctx X T k N sc vt st) (ha : LX X a ρ h (.ref p) h1) (hp : h1 p = some (.lst ds)) (hg : globB sc "enumerate" = true) (hm : T.mg "enumerate" = none)
    (q : R (enD ds) (fun hh => hh p = some (.lst ds)) h1) (hs : starEach [a] X.env = [(false, eval a X.env)] := by rfl) :
    LI X (.Tuple elts kk tpos) (.Call (.Name "enumerate" p0) [a] [] pos) ρ h R :=
  ⟨_, pi_enum (c.gl hg) (by rw [c.hmg]; exact hm) (pa_cons pe_we pa_nil hs) hs, fun σ H RR hs hh k => ha.use hs hh fun v H1 t1 r1 d1 => by
    obtain ⟨vs, e1, dv⟩ := r1.lst hp
    refine ⟨p, vs, by rw [d1.ref_inv], SqL.of e1, k _ H1 _ _ h1 q t1 r1 ⟨fun HH => ∃ hh, RelH hh HH ∧ hh p = some (.lst ds), ?_, fun hh HH g r t => ⟨hh, r, g⟩⟩⟩
    refine ⟨fun i HH hi g => ?_, fun HH g => ?_, fun i HH x H' hi g y => ?_⟩
    · obtain ⟨hh, r, e⟩ := g
      obtain ⟨vs, e1, dv⟩ := r.lst e
      have hl : i < vs.length := by rw [dv.length, ← enD_len]; exact hi
      exact ⟨vs, vs[i], SqL.of e1, by simp [hl]⟩
    · obtain ⟨hh, r, e⟩ := g
      obtain ⟨vs, e1, dv⟩ := r.lst e
      exact ⟨vs, SqL.of e1, by rw [dv.length, enD_len]; exact Nat.le_refl _⟩
    · obtain ⟨hh, r, e⟩ := g
      obtain ⟨vs, e1, dv⟩ := r.lst e
      obtain ⟨Tt, x, rfl, hT, rfl, y⟩ := y
      obtain ⟨d, e2, d2⟩ := dv.get' (y vs (SqL.of e1))
      have t := TupS.new (o := .tup [.int (i : Nat), x]) hT
      exact ⟨t, fun _ r => r.skip hT, _, by rw [enD_get, e2]; rfl, .tup upd_same (.cons (.int _) (.cons (d2.mono t) .nil))⟩⟩
theorem li_enumLL {R : List D → (HD → Prop) → HD → Prop} {elts : List Expr} {kk : Nat} {tpos p0 : Pos} (c : Ctx X T k N sc vt st) (ha : LL X a ρ h ds) (hg : globB sc "enumerate" = true) (hm : T.mg "enumerate" = none)
    (q : ∀ p, h p = none → R (enD ds) (fun hh => hh p = some (.lst ds)) (updD h p (.lst ds))) (hs : starEach [a] X.env = [(false, eval a X.env)] := by rfl) :
    LI X (.Tuple elts kk tpos) (.Call (.Name "enumerate" p0) [a] [] pos) ρ h R :=
  ⟨_, pi_enum (c.gl hg) (by rw [c.hmg]; exact hm) (pa_cons pe_we pa_nil hs) hs, fun σ H RR hs hh k => (ha (fun d h' => ∃ b, h b = none ∧ d = .ref b ∧ h' = updD h b (.lst ds)) fun b hb => ⟨b, hb, rfl, rfl⟩).use hs hh fun v H1 d h1 t1 r1 d1 ⟨p, hb, e2, e3⟩ => by
    subst e2 e3
    obtain ⟨vs, e1, dv⟩ := r1.lst (a := p) updD_same
    refine ⟨p, vs, by rw [d1.ref_inv], SqL.of e1, k _ H1 _ _ _ (q p hb) t1 r1 ⟨fun HH => ∃ hh, RelH hh HH ∧ hh p = some (.lst ds), ?_, fun hh HH g r t => ⟨hh, r, g⟩⟩⟩
    refine ⟨fun i HH hi g => ?_, fun HH g => ?_, fun i HH x H' hi g y => ?_⟩
    · obtain ⟨hh, r, e⟩ := g
      obtain ⟨vs, e1, dv⟩ := r.lst e
      have hl : i < vs.length := by rw [dv.length, ← enD_len]; exact hi
      exact ⟨vs, vs[i], SqL.of e1, by simp [hl]⟩
    · obtain ⟨hh, r, e⟩ := g
      obtain ⟨vs, e1, dv⟩ := r.lst e
      exact ⟨vs, SqL.of e1, by rw [dv.length, enD_len]; exact Nat.le_refl _⟩
    · obtain ⟨hh, r, e⟩ := g
      obtain ⟨vs, e1, dv⟩ := r.lst e
      obtain ⟨Tt, x, rfl, hT, rfl, y⟩ := y
      obtain ⟨d, e2, d2⟩ := dv.get' (y vs (SqL.of e1))
      have t := TupS.new (o := .tup [.int (i : Nat), x]) hT
      exact ⟨t, fun _ r => r.skip hT, _, by rw [enD_get, e2]; rfl, .tup upd_same (.cons (.int _) (.cons (d2.mono t) .nil))⟩⟩
end
end Fy
end
section
set_option linter.all false
set_option maxRecDepth 100000
set_option maxHeartbeats 4000000
namespace PySem
open Sem (wp)
section
variable {prog : Program} {w : World} {A : Around} {E : Value → Shared → Prop} {s : Shared} {z TI TO i1 i2 : Addr} {fp1 fp2 : List Addr} {n1 n2 i : Nat} {P1 P2 : Nat → Value → Prop} {St1 St2 : Nat → Heap → Prop} {a1 a2 : Value}
theorem fy_zip_item_held {T : Addr} {f : Bool} {oT : Obj} {Q : Value → Shared → Prop} (S : ZipSep2 z TI TO i1 i2 fp1 fp2) (D1 : Draws prog w A i1 fp1 n1 P1 St1) (D2 : Draws prog w A i2 fp2 n2 P2 St2)
    (hz : IsZipHeld s.heap z TI TO T f) (hT : s.heap.get? T = some oT) (hTI : IsTupOf2 s.heap TI (.ref i1) (.ref i2)) (st1 : St1 i s.heap) (st2 : St2 i s.heap) (hlt1 : i < n1) (hlt2 : i < n2)
    (hQ : ∀ x1 x2 h' tk, P1 i x1 → P2 i x2 → IsZipHeld h' z TI TO T true → St1 (i + 1) h' → St2 (i + 1) h' → IsTupOf2 h' s.heap.objs.size x1 x2 → h'.objs.size = s.heap.objs.size + 1 →
      (∀ c o, c ≠ z → c ≠ i1 → c ≠ i2 → s.heap.get? c = some o → h'.get? c = some o) → Q (.ref s.heap.objs.size) { s with heap := h', toks := tk }) :
    wpAny (model prog w) A (Builtin.«zip.__next__» ⟨[.ref z], []⟩) (fun fin s' => ∃ v, fin = .done (.ret v) ∧ Q v s') E s := by
  obtain ⟨hp, g, d, tk0, os⟩ := s
  show wpAny _ _ (field (.ref z) 2 >>= _) _ _ _
  refine wpAny_bind (wpAny_field hz rfl (x := .bool false) rfl ?_)
  show wpAny _ _ (field (.ref z) 3 >>= _) _ _ _
  refine wpAny_bind (wpAny_field hz rfl (x := .ref TI) rfl ?_)
  refine wpAny_bind (wpAny_seqItems hTI rfl ?_)
  show wpAny _ _ (Builtin.SmallTypes.ownedTupleIsFree (.ref z) >>= _) _ _ _
  refine wpAny_bind (wpAny_tupleHeld_zip hz hT fun h₁ hz₁ hs₁ => ?_)
  replace hs₁ : Heap.SameBut z hp h₁ := hs₁
  simp only [Bool.false_eq_true, if_false]
  refine wpAny_bind ?_
  rw [← Array.forIn_toList]
  simp only [List.forIn_cons, List.forIn_nil]
  refine wpAny_bind (wpAny_bind (wpAny_holding ?_))
  show wpAny _ _ (Builtin.SmallTypes.nextOf (.ref i1) >>= _) _ _ ⟨h₁, g, d, tk0, os⟩
  refine wpAny_bind (D1.item i _ _ _ hlt1 (D1.over st1 hs₁ S.zf1) fun x1 p1 tk1 hx1 sn1 hp1 => wpAny_pure ?_)
  replace hp1 : Heap.SameBut i1 h₁ p1 := hp1
  refine wpAny_pure ?_
  refine wpAny_bind (wpAny_bind (wpAny_holding ?_))
  show wpAny _ _ (Builtin.SmallTypes.nextOf (.ref i2) >>= _) _ _ ⟨p1, g, d, tk1, os⟩
  refine wpAny_bind (D2.item i _ _ _ hlt2 (D2.over (D2.over st2 hs₁ S.zf2) hp1 S.sep1_2) fun x2 p2 tk2 hx2 sn2 hp2 => wpAny_pure ?_)
  replace hp2 : Heap.SameBut i2 p1 p2 := hp2
  refine wpAny_pure (wpAny_pure ?_)
  show wpAny _ _ (newTuple [x1, x2] >>= _) _ _ ⟨p2, g, d, tk2, os⟩
  refine wpAny_bind (wpAny_newTuple ?_)
  have hsz : p2.objs.size = hp.objs.size := by rw [hp2.1, hp1.1, hs₁.1]
  have hz₃ : IsZipHeld p2 z TI TO T true := hp2.extBut _ _ S.zi2 (hp1.extBut _ _ S.zi1 hz₁)
  have hk : ∀ c o, c ≠ z → c ≠ i1 → c ≠ i2 → hp.get? c = some o → p2.get? c = some o := fun c o c1 c2 c3 e => hp2.extBut _ _ c3 (hp1.extBut _ _ c2 (hs₁.extBut _ _ c1 e))
  have hj1 : St1 (i + 1) p2 := D1.over sn1 hp2 S.sep2_1
  refine wpAny_pure ⟨_, rfl, ?_⟩
  show Q (.ref p2.objs.size) _
  have hp : IsTupOf2 (p2.push { cls := .type "tuple", data := .seq #[x1, x2] }) p2.objs.size x1 x2 := Heap.get?_push_size _ rfl
  have hz4 : (p2.push { cls := .type "tuple", data := .seq #[x1, x2] }).objs.size = p2.objs.size + 1 := Heap.size_push ..
  rw [hsz] at hp hz4 ⊢
  exact hQ x1 x2 _ tk2 hx1 hx2 (Heap.get?_push_of_some _ hz₃) (D1.frame _ _ _ hj1 fun b _ o e => Heap.get?_push_of_some _ e) (D2.frame _ _ _ sn2 fun b _ o e => Heap.get?_push_of_some _ e) hp hz4 fun c o c1 c2 c3 e => Heap.get?_push_of_some _ (hk c o c1 c2 c3 e)
theorem fy_zip_end_held {T : Addr} {f : Bool} {oT : Obj} {Q : Fin → Shared → Prop} (S : ZipSep2 z TI TO i1 i2 fp1 fp2) (D1 : Draws prog w A i1 fp1 n1 P1 St1) (D2 : Draws prog w A i2 fp2 n2 P2 St2)
    (hz : IsZipHeld s.heap z TI TO T f) (hT : s.heap.get? T = some oT) (hTI : IsTupOf2 s.heap TI (.ref i1) (.ref i2)) (st1 : St1 i s.heap) (st2 : St2 i s.heap) (hle1 : i ≤ n1) (hle2 : i ≤ n2) (hend : i = n1 ∨ i = n2)
    (hE : ∀ h' tk e, (∀ c o, c ≠ z → c ≠ i1 → c ≠ i2 → s.heap.get? c = some o → h'.get? c = some o) → (∃ o, h'.get? e = some o ∧ o.cls = .type "StopIteration") → E (.ref e) { s with heap := h', toks := tk }) :
    wpAny (model prog w) A (Builtin.«zip.__next__» ⟨[.ref z], []⟩) Q E s := by
  obtain ⟨hp, g, d, tk0, os⟩ := s
  show wpAny _ _ (field (.ref z) 2 >>= _) _ _ _
  refine wpAny_bind (wpAny_field hz rfl (x := .bool false) rfl ?_)
  show wpAny _ _ (field (.ref z) 3 >>= _) _ _ _
  refine wpAny_bind (wpAny_field hz rfl (x := .ref TI) rfl ?_)
  refine wpAny_bind (wpAny_seqItems hTI rfl ?_)
  show wpAny _ _ (Builtin.SmallTypes.ownedTupleIsFree (.ref z) >>= _) _ _ _
  refine wpAny_bind (wpAny_tupleHeld_zip hz hT fun h₁ hz₁ hs₁ => ?_)
  replace hs₁ : Heap.SameBut z hp h₁ := hs₁
  simp only [Bool.false_eq_true, if_false]
  refine wpAny_bind ?_
  rw [← Array.forIn_toList]
  simp only [List.forIn_cons, List.forIn_nil]
  refine wpAny_bind (wpAny_bind (wpAny_holding ?_))
  show wpAny _ _ (Builtin.SmallTypes.nextOf (.ref i1) >>= _) _ _ ⟨h₁, g, d, tk0, os⟩
  by_cases hlt1 : i < n1
  · refine wpAny_bind (D1.item i _ _ _ hlt1 (D1.over st1 hs₁ S.zf1) fun x1 p1 tk1 hx1 sn1 hp1 => wpAny_pure ?_)
    replace hp1 : Heap.SameBut i1 h₁ p1 := hp1
    refine wpAny_pure ?_
    have hi2 : i = n2 := by omega
    refine wpAny_bind (wpAny_bind (wpAny_holding ?_))
    show wpAny _ _ (Builtin.SmallTypes.nextOf (.ref i2) >>= _) _ _ ⟨p1, g, d, tk1, os⟩
    refine wpAny_bind (D2.done ⟨p1, g, d, tk1, os⟩ _ _ (by rw [← hi2]; exact D2.over (D2.over st2 hs₁ S.zf2) hp1 S.sep1_2) fun q e hq he => ?_)
    replace hq : Heap.ExtBut i2 p1 q := hq
    exact hE q tk1 e (fun c o c1 c2 c3 x => hq _ _ c3 (hp1.extBut _ _ c2 (hs₁.extBut _ _ c1 x))) he
  · have hi1 : i = n1 := by omega
    refine wpAny_bind (D1.done ⟨h₁, g, d, tk0, os⟩ _ _ (by rw [← hi1]; exact D1.over st1 hs₁ S.zf1) fun q e hq he => ?_)
    replace hq : Heap.ExtBut i1 h₁ q := hq
    exact hE q tk0 e (fun c o c1 c2 c3 x => hq _ _ c2 (hs₁.extBut _ _ c1 x)) he
/-- a zip's cell -/
abbrev FyC (h : Heap) (z TI TO : Addr) (x0 : Value) (f : Bool) : Prop :=
  h.get? z = some { cls := .type "zip", dict := none, data := .fields #[x0, .bool f, .bool false, .ref TI, .ref TO], slots := #[] }
theorem fy_zip_item_free {x0 : Value} {f : Bool} {Q : Value → Shared → Prop} (S : ZipSep2 z TI TO i1 i2 fp1 fp2) (D1 : Draws prog w A i1 fp1 n1 P1 St1) (D2 : Draws prog w A i2 fp2 n2 P2 St2)
    (hz : FyC s.heap z TI TO x0 f) (hfree : ∀ (Q' : Bool → Shared → Prop) E', Q' true s → wpAny (model prog w) A (Builtin.SmallTypes.ownedTupleIsFree (.ref z)) Q' E' s) (hTI : IsTupOf2 s.heap TI (.ref i1) (.ref i2)) (hTO : IsTupOf2 s.heap TO a1 a2) (st1 : St1 i s.heap) (st2 : St2 i s.heap) (hlt1 : i < n1) (hlt2 : i < n2)
    (hQ : ∀ x1 x2 h' tk, P1 i x1 → P2 i x2 → FyC h' z TI TO (rawInt s.heap.objs.size) false → IsTupOf2 h' TO x1 x2 → St1 (i + 1) h' → St2 (i + 1) h' → IsTupOf2 h' s.heap.objs.size x1 x2 → h'.objs.size = s.heap.objs.size + 1 →
      (∀ c o, c ≠ z → c ≠ TO → c ≠ i1 → c ≠ i2 → s.heap.get? c = some o → h'.get? c = some o) → Q (.ref s.heap.objs.size) { s with heap := h', toks := tk }) :
    wpAny (model prog w) A (Builtin.«zip.__next__» ⟨[.ref z], []⟩) (fun fin s' => ∃ v, fin = .done (.ret v) ∧ Q v s') E s := by
  obtain ⟨hp, g, d, tk0, os⟩ := s
  show wpAny _ _ (field (.ref z) 2 >>= _) _ _ _
  refine wpAny_bind (wpAny_field hz rfl (x := .bool false) rfl ?_)
  show wpAny _ _ (field (.ref z) 3 >>= _) _ _ _
  refine wpAny_bind (wpAny_field hz rfl (x := .ref TI) rfl ?_)
  refine wpAny_bind (wpAny_seqItems hTI rfl ?_)
  show wpAny _ _ (Builtin.SmallTypes.ownedTupleIsFree (.ref z) >>= _) _ _ _
  refine wpAny_bind (hfree _ _ ?_)
  simp only [if_true]
  refine wpAny_bind (wpAny_rule ?_)
  refine wpAny_bind (wpAny_field hz rfl (x := .ref TO) rfl ?_)
  refine wpAny_bind (wpAny_setField_rec hz (by simp) fun g0 hz0 hs0 => ?_)
  replace hz0 : FyC g0 z TI TO .ellipsis f := hz0
  replace hs0 : Heap.SameBut z hp g0 := hs0
  refine wpAny_bind ?_
  simp only [List.zipIdx_cons, List.zipIdx_nil, List.forIn_cons, List.forIn_nil]
  refine wpAny_bind (wpAny_bind (wpAny_onRaise ?_))
  show wpAny _ _ (Builtin.SmallTypes.nextOf (.ref i1) >>= _) _ _ ⟨g0, g, d, tk0, os⟩
  refine wpAny_bind (D1.item i _ _ _ hlt1 (D1.over st1 hs0 S.zf1) fun x1 p1 tk1 hx1 sn1 hp1 => wpAny_pure ?_)
  replace hp1 : Heap.SameBut i1 g0 p1 := hp1
  have hU1 : IsTupOf2 p1 TO a1 a2 := hp1.extBut _ _ S.Ti1 (hs0.extBut _ _ S.TOz hTO)
  refine wpAny_bind (wpAny_seqItems (s := ⟨p1, g, d, tk1, os⟩) hU1 rfl ?_)
  refine wpAny_bind (updateSeq_IsTupOf2 (s := ⟨p1, g, d, tk1, os⟩) hU1 fun g1 hT1 hs1 => ?_)
  replace hT1 : IsTupOf2 g1 TO x1 a2 := hT1
  replace hs1 : Heap.SameBut TO p1 g1 := hs1
  refine wpAny_bind (wpAny_letGo (wpAny_pure ?_))
  refine wpAny_bind (wpAny_bind (wpAny_onRaise ?_))
  show wpAny _ _ (Builtin.SmallTypes.nextOf (.ref i2) >>= _) _ _ ⟨g1, g, d, tk1, os⟩
  refine wpAny_bind (D2.item i _ _ _ hlt2 (D2.over (D2.over (D2.over st2 hs0 S.zf2) hp1 S.sep1_2) hs1 S.Tf2) fun x2 p2 tk2 hx2 sn2 hp2 => wpAny_pure ?_)
  replace hp2 : Heap.SameBut i2 g1 p2 := hp2
  have hU2 : IsTupOf2 p2 TO x1 a2 := hp2.extBut _ _ S.Ti2 hT1
  refine wpAny_bind (wpAny_seqItems (s := ⟨p2, g, d, tk2, os⟩) hU2 rfl ?_)
  refine wpAny_bind (updateSeq_IsTupOf2 (s := ⟨p2, g, d, tk2, os⟩) hU2 fun g2 hT2 hs2 => ?_)
  replace hT2 : IsTupOf2 g2 TO x1 x2 := hT2
  replace hs2 : Heap.SameBut TO p2 g2 := hs2
  refine wpAny_bind (wpAny_letGo (wpAny_pure (wpAny_pure ?_)))
  refine wpAny_bind (wpAny_seqItems (s := ⟨g2, g, d, tk2, os⟩) hT2 rfl ?_)
  refine wpAny_bind (wpAny_newTuple ?_)
  have hsz : g2.objs.size = hp.objs.size := by rw [hs2.1, hp2.1, hs1.1, hp1.1, hs0.1]
  have hzz : FyC g2 z TI TO .ellipsis f := (hs2.extBut _ _ S.TOz.symm (hp2.extBut _ _ S.zi2 (hs1.extBut _ _ S.TOz.symm (hp1.extBut _ _ S.zi1 hz0))))
  have hkk : ∀ c o, c ≠ z → c ≠ TO → c ≠ i1 → c ≠ i2 → hp.get? c = some o → g2.get? c = some o := fun c o cz cT c1 c2 e =>
    (hs2.extBut _ _ cT (hp2.extBut _ _ c2 (hs1.extBut _ _ cT (hp1.extBut _ _ c1 (hs0.extBut _ _ cz e)))))
  have hj1 : St1 (i + 1) g2 := (D1.over (D1.over (D1.over sn1 hs1 S.Tf1) hp2 S.sep2_1) hs2 S.Tf1)
  have hj2 : St2 (i + 1) g2 := (D2.over sn2 hs2 S.Tf2)
  have hzlt : z < g2.objs.size := Heap.lt_size hzz
  show wpAny _ _ (Builtin.SmallTypes.ownedTupleHandOut (.ref z) (.ref g2.objs.size) >>= _) _ _ ⟨g2.push { cls := .type "tuple", data := .seq #[x1, x2] }, g, d, tk2, os⟩
  refine wpAny_bind ?_
  unfold Builtin.SmallTypes.ownedTupleHandOut
  have hz₆ : FyC (g2.push { cls := .type "tuple", data := .seq #[x1, x2] }) z TI TO .ellipsis f := Heap.get?_push_of_some _ hzz
  refine wpAny_bind (wpAny_setField_rec hz₆ (by simp) fun h₇ hz₇ hs₇ => ?_)
  replace hz₇ : FyC h₇ z TI TO (rawInt g2.objs.size) f := hz₇
  refine wpAny_setField_rec hz₇ (by simp) fun h₈ hz₈ hs₈ => ?_
  replace hz₈ : FyC h₈ z TI TO (rawInt g2.objs.size) false := hz₈
  replace hs₇ : Heap.SameBut z (g2.push { cls := .type "tuple", data := .seq #[x1, x2] }) h₇ := hs₇
  replace hs₈ : Heap.SameBut z h₇ h₈ := hs₈
  have up : ∀ c o, c ≠ z → g2.get? c = some o → h₈.get? c = some o := fun c o c1 e => hs₈.extBut _ _ c1 (hs₇.extBut _ _ c1 (Heap.get?_push_of_some _ e))
  have hT₈ : IsTupOf2 h₈ g2.objs.size x1 x2 := hs₈.extBut _ _ (Nat.ne_of_gt hzlt) (hs₇.extBut _ _ (Nat.ne_of_gt hzlt) (Heap.get?_push_size _ rfl))
  have hz8 : h₈.objs.size = g2.objs.size + 1 := by rw [hs₈.1, hs₇.1, Heap.size_push]
  rw [hsz] at hz₈ hT₈ hz8
  refine wpAny_pure ⟨_, rfl, ?_⟩
  show Q (.ref g2.objs.size) ⟨h₈, g, d, tk2, os⟩
  rw [hsz]
  exact hQ x1 x2 h₈ tk2 hx1 hx2 hz₈ (up _ _ S.TOz hT2) (D1.frame _ _ _ hj1 fun b hb o e => up b o (fun q => S.zf1 (q ▸ hb)) e) (D2.frame _ _ _ hj2 fun b hb o e => up b o (fun q => S.zf2 (q ▸ hb)) e) hT₈ hz8 fun c o cz cT c1 c2 e => up c o cz (hkk c o cz cT c1 c2 e)
theorem fy_zip_end_free {x0 : Value} {f : Bool} {Q : Fin → Shared → Prop} (S : ZipSep2 z TI TO i1 i2 fp1 fp2) (D1 : Draws prog w A i1 fp1 n1 P1 St1) (D2 : Draws prog w A i2 fp2 n2 P2 St2)
    (hz : FyC s.heap z TI TO x0 f) (hfree : ∀ (Q' : Bool → Shared → Prop) E', Q' true s → wpAny (model prog w) A (Builtin.SmallTypes.ownedTupleIsFree (.ref z)) Q' E' s) (hTI : IsTupOf2 s.heap TI (.ref i1) (.ref i2)) (hTO : IsTupOf2 s.heap TO a1 a2) (st1 : St1 i s.heap) (st2 : St2 i s.heap) (hle1 : i ≤ n1) (hle2 : i ≤ n2) (hend : i = n1 ∨ i = n2)
    (hE : ∀ h' tk e, (∀ c o, c ≠ z → c ≠ TO → c ≠ i1 → c ≠ i2 → s.heap.get? c = some o → h'.get? c = some o) → (∃ o, h'.get? e = some o ∧ o.cls = .type "StopIteration") → E (.ref e) { s with heap := h', toks := tk }) :
    wpAny (model prog w) A (Builtin.«zip.__next__» ⟨[.ref z], []⟩) Q E s := by
  obtain ⟨hp, g, d, tk0, os⟩ := s
  show wpAny _ _ (field (.ref z) 2 >>= _) _ _ _
  refine wpAny_bind (wpAny_field hz rfl (x := .bool false) rfl ?_)
  show wpAny _ _ (field (.ref z) 3 >>= _) _ _ _
  refine wpAny_bind (wpAny_field hz rfl (x := .ref TI) rfl ?_)
  refine wpAny_bind (wpAny_seqItems hTI rfl ?_)
  show wpAny _ _ (Builtin.SmallTypes.ownedTupleIsFree (.ref z) >>= _) _ _ _
  refine wpAny_bind (hfree _ _ ?_)
  simp only [if_true]
  refine wpAny_bind (wpAny_rule ?_)
  refine wpAny_bind (wpAny_field hz rfl (x := .ref TO) rfl ?_)
  refine wpAny_bind (wpAny_setField_rec hz (by simp) fun g0 hz0 hs0 => ?_)
  replace hz0 : FyC g0 z TI TO .ellipsis f := hz0
  replace hs0 : Heap.SameBut z hp g0 := hs0
  refine wpAny_bind ?_
  simp only [List.zipIdx_cons, List.zipIdx_nil, List.forIn_cons, List.forIn_nil]
  refine wpAny_bind (wpAny_bind (wpAny_onRaise ?_))
  show wpAny _ _ (Builtin.SmallTypes.nextOf (.ref i1) >>= _) _ _ ⟨g0, g, d, tk0, os⟩
  by_cases hlt1 : i < n1
  · refine wpAny_bind (D1.item i _ _ _ hlt1 (D1.over st1 hs0 S.zf1) fun x1 p1 tk1 hx1 sn1 hp1 => wpAny_pure ?_)
    replace hp1 : Heap.SameBut i1 g0 p1 := hp1
    have hU1 : IsTupOf2 p1 TO a1 a2 := hp1.extBut _ _ S.Ti1 (hs0.extBut _ _ S.TOz hTO)
    refine wpAny_bind (wpAny_seqItems (s := ⟨p1, g, d, tk1, os⟩) hU1 rfl ?_)
    refine wpAny_bind (updateSeq_IsTupOf2 (s := ⟨p1, g, d, tk1, os⟩) hU1 fun g1 hT1 hs1 => ?_)
    replace hT1 : IsTupOf2 g1 TO x1 a2 := hT1
    replace hs1 : Heap.SameBut TO p1 g1 := hs1
    refine wpAny_bind (wpAny_letGo (wpAny_pure ?_))
    have hi2 : i = n2 := by omega
    refine wpAny_bind (wpAny_bind (wpAny_onRaise ?_))
    show wpAny _ _ (Builtin.SmallTypes.nextOf (.ref i2) >>= _) _ _ ⟨g1, g, d, tk1, os⟩
    refine wpAny_bind (D2.done ⟨g1, g, d, tk1, os⟩ _ _ (by rw [← hi2]; exact (D2.over (D2.over (D2.over st2 hs0 S.zf2) hp1 S.sep1_2) hs1 S.Tf2)) fun q e hq he => ?_)
    replace hq : Heap.ExtBut i2 g1 q := hq
    obtain ⟨oe, hoe, hce⟩ := he
    replace hoe : q.get? e = some oe := hoe
    have hzq : FyC q z TI TO .ellipsis f := hq _ _ S.zi2 (hs1.extBut _ _ S.TOz.symm (hp1.extBut _ _ S.zi1 hz0))
    have hez : e ≠ z := fun x => by subst x; rw [hzq] at hoe; cases hoe; simp at hce
    refine wpAny_setField_rec (s := ⟨q, g, d, tk1, os⟩) hzq (by simp) fun q' _ hq' => ?_
    replace hq' : Heap.SameBut z q q' := hq'
    exact hE q' tk1 e (fun c o cz cT c1 c2 x => hq'.extBut _ _ cz (hq _ _ c2 (hs1.extBut _ _ cT (hp1.extBut _ _ c1 (hs0.extBut _ _ cz x))))) ⟨oe, hq'.extBut _ _ hez hoe, hce⟩
  · have hi1 : i = n1 := by omega
    refine wpAny_bind (D1.done ⟨g0, g, d, tk0, os⟩ _ _ (by rw [← hi1]; exact (D1.over st1 hs0 S.zf1)) fun q e hq he => ?_)
    replace hq : Heap.ExtBut i1 g0 q := hq
    obtain ⟨oe, hoe, hce⟩ := he
    replace hoe : q.get? e = some oe := hoe
    have hzq : FyC q z TI TO .ellipsis f := hq _ _ S.zi1 hz0
    have hez : e ≠ z := fun x => by subst x; rw [hzq] at hoe; cases hoe; simp at hce
    refine wpAny_setField_rec (s := ⟨q, g, d, tk0, os⟩) hzq (by simp) fun q' _ hq' => ?_
    replace hq' : Heap.SameBut z q q' := hq'
    exact hE q' tk0 e (fun c o cz cT c1 c2 x => hq'.extBut _ _ cz (hq _ _ c1 (hs0.extBut _ _ cz x))) ⟨oe, hq'.extBut _ _ hez hoe, hce⟩
/-- the zip's tuple is with it, or out, or gone -/
def FyZ (h : Heap) (z TI TO : Addr) : Prop := ∃ x0 f a1 a2, FyC h z TI TO x0 f ∧ (x0 = .none ∨ ∃ T : Nat, x0 = rawInt T) ∧ IsTupOf2 h TO a1 a2
theorem FyZ.keep {h h' : Heap} (hz : FyZ h z TI TO) (k : ∀ c o, c = z ∨ c = TO → h.get? c = some o → h'.get? c = some o) : FyZ h' z TI TO := by
  obtain ⟨x0, f, a1, a2, hz, hx, hTO⟩ := hz
  exact ⟨x0, f, a1, a2, k _ _ (.inl rfl) hz, hx, k _ _ (.inr rfl) hTO⟩
theorem fy_dead {a : Addr} {Q : Option Obj → Shared → Prop} (ho : s.heap.get? a = none) (h : Q none s) : wpAny (model prog w) A (loadIfAlive a) Q E s := by
  have h' : Q (s.heap.get? a) s := by rw [ho]; exact h
  exact fun _ _ _ => h'
/-- free, or held -/
theorem fy_free {x0 : Value} {f : Bool} {C : Prop} (hz : FyC s.heap z TI TO x0 f) (hx : x0 = .none ∨ ∃ T : Nat, x0 = rawInt T) (c1 : (∀ (A : Around) (Q' : Bool → Shared → Prop) E', Q' true s → wpAny (model prog w) A (Builtin.SmallTypes.ownedTupleIsFree (.ref z)) Q' E' s) → C)
    (c2 : ∀ (T : Addr) oT, x0 = rawInt (T : Nat) → s.heap.get? T = some oT → C) : C := by
  rcases hx with rfl | ⟨T, rfl⟩
  · refine c1 fun A Q' E' q => ?_
    unfold Builtin.SmallTypes.ownedTupleIsFree
    exact wpAny_bind (wpAny_field hz rfl (x := .none) rfl (wpAny_pure q))
  · cases e : s.heap.get? T with
    | some oT => exact c2 T oT rfl e
    | none =>
      refine c1 fun A Q' E' q => ?_
      unfold Builtin.SmallTypes.ownedTupleIsFree
      refine wpAny_bind (wpAny_field hz rfl (x := rawInt T) rfl ?_)
      show wpAny _ _ (loadIfAlive ((T : Int).toNat) >>= _) _ _ _
      rw [Int.toNat_natCast]
      refine wpAny_bind (fy_dead e ?_)
      simp only [Option.isNone_none, if_true]
      exact wpAny_pure q
theorem fy_nextOf_zip_item {Q : Value → Shared → Prop} (S : ZipSep2 z TI TO i1 i2 fp1 fp2) (D1 : Draws prog w A.in1 i1 fp1 n1 P1 St1) (D2 : Draws prog w A.in1 i2 fp2 n2 P2 St2)
    (hz : FyZ s.heap z TI TO) (hTI : IsTupOf2 s.heap TI (.ref i1) (.ref i2)) (st1 : St1 i s.heap) (st2 : St2 i s.heap) (hlt1 : i < n1) (hlt2 : i < n2)
    (hQ : ∀ x1 x2 h' tk, P1 i x1 → P2 i x2 → FyZ h' z TI TO → IsTupOf2 h' TI (.ref i1) (.ref i2) → St1 (i + 1) h' → St2 (i + 1) h' → IsTupOf2 h' s.heap.objs.size x1 x2 → h'.objs.size = s.heap.objs.size + 1 →
      (∀ c o, c ≠ z → c ≠ TO → c ≠ i1 → c ≠ i2 → s.heap.get? c = some o → h'.get? c = some o) → Q (.ref s.heap.objs.size) { s with heap := h', toks := tk }) :
    wpAny (model prog w) A (Builtin.SmallTypes.nextOf (.ref z)) Q E s := by
  obtain ⟨x0, f, a1, a2, hz, hx, hTO⟩ := hz
  have hT : s.TypeIs (.ref z) "zip" := ⟨_, hz, rfl⟩
  unfold Builtin.SmallTypes.nextOf
  refine wpAny_bind (wpAny_callSpecial?_slot (name := Str.ofString "__next__") hT F.slot_zip_next (wpAny_call_entry F.slot_zip_next hT F.entry_zip_next ?_ (F.args_zip_next_1 _)))
  refine fy_free (prog := prog) (w := w) hz hx (fun hfree => ?_) fun T oT e hT => ?_
  · refine fy_zip_item_free S D1 D2 hz (hfree _) hTI hTO st1 st2 hlt1 hlt2 fun x1 x2 h' tk y1 y2 b1 b2 d1 d2 b5 b6 b7 => wpAny_pure (hQ x1 x2 h' tk y1 y2 ?_ (b7 _ _ S.TIz S.TITO S.TIi1 S.TIi2 hTI) d1 d2 b5 b6 b7)
    exact ⟨_, false, _, _, b1, .inr ⟨_, rfl⟩, b2⟩
  · subst e
    refine fy_zip_item_held S D1 D2 hz hT hTI st1 st2 hlt1 hlt2 fun x1 x2 h' tk y1 y2 b1 d1 d2 b5 b6 b7 => wpAny_pure (hQ x1 x2 h' tk y1 y2 ?_ (b7 _ _ S.TIz S.TIi1 S.TIi2 hTI) d1 d2 b5 b6 fun c o cz _ c1 c2 e => b7 c o cz c1 c2 e)
    exact ⟨_, true, _, _, b1, .inr ⟨_, rfl⟩, b7 _ _ S.TOz S.Ti1 S.Ti2 hTO⟩
theorem fy_nextOf_zip_end {Q : Value → Shared → Prop} (S : ZipSep2 z TI TO i1 i2 fp1 fp2) (D1 : Draws prog w A.in1 i1 fp1 n1 P1 St1) (D2 : Draws prog w A.in1 i2 fp2 n2 P2 St2)
    (hz : FyZ s.heap z TI TO) (hTI : IsTupOf2 s.heap TI (.ref i1) (.ref i2)) (st1 : St1 i s.heap) (st2 : St2 i s.heap) (hle1 : i ≤ n1) (hle2 : i ≤ n2) (hend : i = n1 ∨ i = n2)
    (hE : ∀ h' tk e, (∀ c o, c ≠ z → c ≠ TO → c ≠ i1 → c ≠ i2 → s.heap.get? c = some o → h'.get? c = some o) → (∃ o, h'.get? e = some o ∧ o.cls = .type "StopIteration") → E (.ref e) { s with heap := h', toks := tk }) :
    wpAny (model prog w) A (Builtin.SmallTypes.nextOf (.ref z)) Q E s := by
  obtain ⟨x0, f, a1, a2, hz, hx, hTO⟩ := hz
  have hT : s.TypeIs (.ref z) "zip" := ⟨_, hz, rfl⟩
  unfold Builtin.SmallTypes.nextOf
  refine wpAny_bind (wpAny_callSpecial?_slot (name := Str.ofString "__next__") hT F.slot_zip_next (wpAny_call_entry F.slot_zip_next hT F.entry_zip_next ?_ (F.args_zip_next_1 _)))
  refine fy_free (prog := prog) (w := w) hz hx (fun hfree => ?_) fun T oT e hT => ?_
  · exact fy_zip_end_free S D1 D2 hz (hfree _) hTI hTO st1 st2 hle1 hle2 hend hE
  · subst e
    exact fy_zip_end_held S D1 D2 hz hT hTI st1 st2 hle1 hle2 hend fun h' tk e k => hE h' tk e fun c o cz _ c1 c2 x => k c o cz c1 c2 x
end
section
variable {prog : Program} {w : World} {A : Around} {E : Value → Shared → Prop} {s : Shared}
/-- enumerate's next over any source that lays new things -/
theorem fy_enum_item {e it : Addr} {c : Int} {old : Value} {R : Value → Heap → Prop} {Q : Value → Shared → Prop} (he : IsEnum s.heap e it c old)
    (hn : ∀ (Q' : Value → Shared → Prop) E', (∀ x h₁ tk, R x h₁ → IsEnum h₁ e it c old → Q' x { s with heap := h₁, toks := tk }) → wpAny (model prog w) A (Builtin.SmallTypes.nextOf (.ref it)) Q' E' s)
    (hQ : ∀ x h₁ h' tk, R x h₁ → IsEnum h₁ e it c old → IsEnumOut h' e it (c + 1) x h₁.objs.size →
      h'.get? h₁.objs.size = some { cls := .type "tuple", data := .seq #[.int c tk, x] } → h'.objs.size = h₁.objs.size + 1 →
      (∀ b o, b ≠ e → h₁.get? b = some o → h'.get? b = some o) → Q (.ref h₁.objs.size) { s with heap := h', toks := tk + 1 }) :
    wpAny (model prog w) A (Builtin.«enumerate.__next__» ⟨[.ref e], []⟩) (fun fin s' => ∃ v, fin = .done (.ret v) ∧ Q v s') E s := by
  obtain ⟨hp, g, d, tk₀, os⟩ := s
  show wpAny _ _ (field (.ref e) 2 >>= _) _ _ _
  refine wpAny_bind (wpAny_field he rfl (x := .ref it) rfl ?_)
  refine wpAny_bind (hn _ _ fun x h₁ tk hR he₁ => ?_)
  have hel : e < h₁.objs.size := Heap.lt_size he₁
  show wpAny _ _ (field (.ref e) 3 >>= _) _ _ ⟨h₁, g, d, tk, os⟩
  refine wpAny_bind (wpAny_field he₁ rfl (x := rawInt c) rfl ?_)
  show wpAny _ _ (field (.ref e) 4 >>= _) _ _ ⟨h₁, g, d, tk, os⟩
  refine wpAny_bind (wpAny_field he₁ rfl (x := .none) rfl ?_)
  show wpAny _ _ (mkInt c >>= _) _ _ ⟨h₁, g, d, tk, os⟩
  refine wpAny_bind (wpAny_mkInt ?_)
  show wpAny _ _ (setField (.ref e) 3 (rawInt (c + 1)) >>= _) _ _ ⟨h₁, g, d, tk + 1, os⟩
  refine wpAny_bind (wpAny_setField_rec he₁ (by simp) fun h₂ he₂ hs₂ => ?_)
  replace hs₂ : Heap.SameBut e h₁ h₂ := hs₂
  replace he₂ : IsEnum h₂ e it (c + 1) old := he₂
  show wpAny _ _ (setField (.ref e) 4 .none >>= _) _ _ ⟨h₂, g, d, tk + 1, os⟩
  refine wpAny_bind (wpAny_setField_rec he₂ (by simp) fun h₃ he₃ hs₃ => ?_)
  replace hs₃ : Heap.SameBut e h₂ h₃ := hs₃
  replace he₃ : IsEnum h₃ e it (c + 1) old := he₃
  show wpAny _ _ (newTuple [.int c tk, x] >>= _) _ _ ⟨h₃, g, d, tk + 1, os⟩
  refine wpAny_bind (wpAny_newTuple ?_)
  have he₄ : IsEnum (h₃.push { cls := .type "tuple", data := .seq #[.int c tk, x] }) e it (c + 1) old := Heap.get?_push_of_some _ he₃
  generalize hh₄ : h₃.push { cls := .type "tuple", data := .seq #[.int c tk, x] } = h₄ at he₄
  have hsz : h₃.objs.size = h₁.objs.size := by rw [hs₃.1, hs₂.1]
  have ht₄ : h₄.get? h₁.objs.size = some { cls := .type "tuple", data := .seq #[.int c tk, x] } := by rw [← hh₄, ← hsz]; exact Heap.get?_push_size _ rfl
  have hz₄ : h₄.objs.size = h₁.objs.size + 1 := by rw [← hh₄, Heap.size_push, hsz]
  have hk₄ : ∀ b o, b ≠ e → h₁.get? b = some o → h₄.get? b = some o := fun b o hbe hb => by
    rw [← hh₄]; exact Heap.get?_push_of_some _ (hs₃.extBut b o hbe (hs₂.extBut b o hbe hb))
  show wpAny _ _ (Builtin.SmallTypes.ownedTupleIsFree (.ref e) >>= _) _ _ ⟨h₄, g, d, tk + 1, os⟩
  rw [hsz]
  refine wpAny_bind ?_
  · unfold Builtin.SmallTypes.ownedTupleIsFree
    refine wpAny_bind (wpAny_field he₄ rfl (x := .none) rfl (wpAny_pure ?_))
    simp only [if_true]
    refine wpAny_bind (wpAny_rule ?_)
    refine wpAny_bind (wpAny_field he₄ rfl (x := old) rfl ?_)
    refine wpAny_bind (wpAny_setField_rec he₄ (by simp) fun h₅ he₅ hs₅ => ?_)
    replace hs₅ : Heap.SameBut e h₄ h₅ := hs₅
    replace he₅ : IsEnum h₅ e it (c + 1) x := he₅
    show wpAny _ _ (Builtin.SmallTypes.ownedTupleHandOut (.ref e) (.ref h₁.objs.size) >>= _) _ _ ⟨h₅, g, d, tk + 1, os⟩
    refine wpAny_bind ?_
    · unfold Builtin.SmallTypes.ownedTupleHandOut
      refine wpAny_bind (wpAny_setField_rec he₅ (by simp) fun h₆ he₆ hs₆ => ?_)
      replace hs₆ : Heap.SameBut e h₅ h₆ := hs₆
      replace he₆ : IsEnumOut h₆ e it (c + 1) x h₁.objs.size := he₆
      refine wpAny_setField_rec he₆ (by simp) fun h₇ he₇ hs₇ => ?_
      replace hs₇ : Heap.SameBut e h₆ h₇ := hs₇
      replace he₇ : IsEnumOut h₇ e it (c + 1) x h₁.objs.size := he₇
      refine wpAny_bind (wpAny_letGo (wpAny_pure ⟨_, rfl, hQ x h₁ h₇ tk hR he₁ he₇ ?_ ?_ ?_⟩))
      · exact hs₇.extBut _ _ (Nat.ne_of_gt hel) (hs₆.extBut _ _ (Nat.ne_of_gt hel) (hs₅.extBut _ _ (Nat.ne_of_gt hel) ht₄))
      · rw [hs₇.1, hs₆.1, hs₅.1, hz₄]
      · exact fun b o hbe hb => hs₇.extBut b o hbe (hs₆.extBut b o hbe (hs₅.extBut b o hbe (hk₄ b o hbe hb)))
theorem fy_pyNext_enum {e it : Addr} {c : Int} {old : Value} {R : Value → Heap → Prop} {Q : Option Value → Shared → Prop} (he : IsEnum s.heap e it c old)
    (hn : ∀ (Q' : Value → Shared → Prop) E', (∀ x h₁ tk, R x h₁ → IsEnum h₁ e it c old → Q' x { s with heap := h₁, toks := tk }) → wpAny (model prog w) A.in1 (Builtin.SmallTypes.nextOf (.ref it)) Q' E' s)
    (hQ : ∀ x h₁ h' tk, R x h₁ → IsEnum h₁ e it c old → IsEnumOut h' e it (c + 1) x h₁.objs.size →
      h'.get? h₁.objs.size = some { cls := .type "tuple", data := .seq #[.int c tk, x] } → h'.objs.size = h₁.objs.size + 1 →
      (∀ b o, b ≠ e → h₁.get? b = some o → h'.get? b = some o) → Q (some (.ref h₁.objs.size)) { s with heap := h', toks := tk + 1 }) :
    wpAny (model prog w) A (pyNext (.ref e)) Q E s := by
  have hT : s.TypeIs (.ref e) "enumerate" := ⟨_, he, rfl⟩
  unfold pyNext
  exact wpAny_bind (wpAny_attempt (wpAny_callSpecial?_slot (name := Str.ofString "__next__") hT F.slot_enumerate_next
    (wpAny_call_entry F.slot_enumerate_next hT F.entry_enumerate_next
      (fy_enum_item he hn fun x h₁ h' tk a b c d k q => wpAny_pure (hQ x h₁ h' tk a b c d k q)) (F.args_enumerate_next_1 _))))
theorem fy_pyNext_enum_end {e it : Addr} {c : Int} {old : Value} {Q : Option Value → Shared → Prop} (he : IsEnum s.heap e it c old)
    (hn : ∀ (Q' : Value → Shared → Prop) (E' : Value → Shared → Prop), (∀ h' tk x, (∃ o, h'.get? x = some o ∧ o.cls = .type "StopIteration") → Q none { s with heap := h', toks := tk } → E' (.ref x) { s with heap := h', toks := tk }) → wpAny (model prog w) A.in1 (Builtin.SmallTypes.nextOf (.ref it)) Q' E' s) :
    wpAny (model prog w) A (pyNext (.ref e)) Q E s := by
  have hTy : s.TypeIs (.ref e) "enumerate" := ⟨_, he, rfl⟩
  unfold pyNext
  refine wpAny_bind (wpAny_attempt (wpAny_callSpecial?_slot (name := Str.ofString "__next__") hTy F.slot_enumerate_next
    (wpAny_call_entry F.slot_enumerate_next hTy F.entry_enumerate_next ?_ (F.args_enumerate_next_1 _))))
  show wpAny _ _ (field (.ref e) 2 >>= _) _ _ _
  refine wpAny_bind (wpAny_field he rfl (x := .ref it) rfl ?_)
  refine wpAny_bind (hn _ _ fun h' tk x hx' q => ?_)
  obtain ⟨o, ho, hc⟩ := hx'
  refine wpAny_bind (wpAny_isInstance (T := "StopIteration") (b := true) ⟨o, ho, hc⟩ isSubtype_stop ?_)
  exact wpAny_pure q
end
theorem fy_enum_newZ (z TI TO : Addr) :
    Meets (Builtin.«enumerate.__new__» ⟨[.type "enumerate", .ref z], []⟩) (fun _ R s => IsZip s.heap z TI TO .none ∧
      R (.ok (.ret (.ref s.heap.objs.size))) { s with heap := s.heap.push { cls := .type "enumerate", data := .fields #[.none, .bool false, .ref z, rawInt 0, .none, .none] } }) :=
  .of_wp fun prog w A R s h => by
    obtain ⟨hp, g, d, tk, os⟩ := s; obtain ⟨h1, h⟩ := h
    have hsub := sub_enumerate
    have q1 : ∀ {A' : Around} {E : Value → Shared → Prop} {Q : Value → Shared → Prop}, Q (.ref z) ⟨hp, g, d, tk, os⟩ → wpAny (model prog w) A' (pyIter (.ref z)) Q E ⟨hp, g, d, tk, os⟩ :=
      fun q => wpAny_pyIter_zip (s := ⟨hp, g, d, tk, os⟩) h1 q
    wp_walk using q1, wpAny_loadPart' h1
    refine wpAny_stack_any fun st => wpAny_pure ?_
    split
    · rename_i c _ _ _ _ _
      cases (c == Value.type "enumerate")
      · wp_walk using q1, wpAny_loadPart' h1
        exact ⟨_, rfl, h⟩
      · wp_walk using q1, wpAny_loadPart' h1
        exact ⟨_, rfl, h⟩
    · wp_walk using q1, wpAny_loadPart' h1
      exact ⟨_, rfl, h⟩
section
variable {prog : Program} {w : World} {A : Around} {E : Value → Shared → Prop} {s : Shared}
theorem fy_enum_zip {z TI TO : Addr} {Q : Value → Shared → Prop} (h1 : IsZip s.heap z TI TO .none)
    (h : ∀ h', IsEnum h' s.heap.objs.size z 0 .none → h'.objs.size = s.heap.objs.size + 1 →
      (∀ b o, s.heap.get? b = some o → h'.get? b = some o) → Q (.ref s.heap.objs.size) { s with heap := h' }) :
    wpAny (model prog w) A (call (.type "enumerate") [.ref z]) Q E s := by
  refine callType_new F.called_enumerate (by decide) (F.typeCall_enumerate_1 _) (F.newCall_enumerate_1 _) (fun obj => F.args_object_init_2 obj _) F.entry_enumerate_new
    (fy_enum_newZ z TI TO) ⟨h1, ?_⟩
  have he : IsEnum (s.heap.push { cls := .type "enumerate", data := .fields #[.none, .bool false, .ref z, rawInt 0, .none, .none] }) s.heap.objs.size z 0 .none := Heap.get?_push_size _ rfl
  exact ⟨⟨_, he, rfl⟩, h _ he (by rw [Heap.size_push]) fun b o x => Heap.get?_push_of_some _ x⟩
end
end PySem
end
section
set_option linter.all false
set_option maxRecDepth 100000
set_option maxHeartbeats 4000000
namespace Fy
open PySem PySem.Spec PyProof.Rows L2
/-! ### enumerate(zip(tuple, tuple)) -/
def ItEZ (K : PySem.W.Frag) (a b : Addr) (xs ys : List V) : It :=
  ⟨fun i H => i < min xs.length ys.length ∧ SqT K H a xs ∧ SqT K H b ys,
   fun i H v H' => ∃ Tt Z x y, v = .ref Tt ∧ H Z = none ∧ upd H Z (.tup [x, y]) Tt = none ∧ H' = upd (upd H Z (.tup [x, y])) Tt (.tup [.int (i : Nat), .ref Z]) ∧ xs[i]? = some x ∧ ys[i]? = some y,
   fun i H => i = min xs.length ys.length ∧ SqT K H a xs ∧ SqT K H b ys⟩
theorem vgetN {vs : List V} {us : List Value} {i : Nat} (r : Vals vs us) : us.length = vs.length := r.length.symm
theorem turn_ez {P : Program} {w : World} {K : PySem.W.Frag} {elts : List Expr} {kk : Nat} {tpos : Pos} {e z TI TO i1 i2 pa pb : Addr} {xs ys : List V} (S : ZipSep2 z TI TO i1 i2 [i1, pa] [i2, pb]) (n1 : pa ≠ i1) (n2 : pb ≠ i2)
    (ez : e ≠ z) (eTI : e ≠ TI) (eTO : e ≠ TO) (e1 : e ≠ i1) (e2 : e ≠ i2) :
    Turn P w K (.Tuple elts kk tpos) (ItEZ K pa pb xs ys) [e, z, TI, TO, i1, i2] e
      (fun i h => (∃ old, IsEnum h e z (0 + (i : Int)) old) ∧ FyZ h z TI TO ∧ IsTupOf2 h TI (.ref i1) (.ref i2) ∧ h.IsTupleIter i1 pa i ∧ h.IsTupleIter i2 pb i) where
  mem := by simp
  obj := fun i h st c hc => by
    obtain ⟨⟨old, he⟩, ⟨x0, f, a1, a2, hz, _, hTO⟩, hTI, ⟨o1, q1, _, d1⟩, ⟨o2, q2, _, d2⟩⟩ := st
    have e' : c = e ∨ c = z ∨ c = TI ∨ c = TO ∨ c = i1 ∨ c = i2 := by simpa using hc
    rcases e' with q | q | q | q | q | q
    · rw [q]; exact ⟨_, he, fun v q => nomatch q⟩
    · rw [q]; exact ⟨_, hz, fun v q => nomatch q⟩
    · rw [q]; exact ⟨_, hTI, fun v q => nomatch q⟩
    · rw [q]; exact ⟨_, hTO, fun v q => nomatch q⟩
    · rw [q]; exact ⟨o1, q1, fun v q => by rw [d1] at q; cases q⟩
    · rw [q]; exact ⟨o2, q2, fun v q => by rw [d2] at q; cases q⟩
  keep := fun i h h' st k => by
    obtain ⟨⟨old, he⟩, hz, hTI, h1, h2⟩ := st
    exact ⟨⟨old, k e (by simp) _ he⟩, hz.keep fun c o hc x => k c (by rcases hc with r | r <;> simp [r]) o x, k TI (by simp) _ hTI, h1.at fun o q => k i1 (by simp) o q, h2.at fun o q => k i2 (by simp) o q⟩
  item := by
    intro X hP hw hK hc i pins s σ H E I hf st hg
    subst hP hw hK
    obtain ⟨⟨old, he⟩, hz, hTI, h1, h2⟩ := st
    obtain ⟨hi, hqx, hqy⟩ := hg
    obtain ⟨its, rv, p, _⟩ := I.tuple hqx
    obtain ⟨its2, rv2, p2, _⟩ := I.tuple hqy
    have l1 := rv.length
    have l2 := rv2.length
    have hh : X.A.in1.in1.handled = none := I.ok.hd hc
    have D1 := Draws.tuple (prog := X.prog) (w := X.w) hh i1 pa n1 its.toArray
    have D2 := Draws.tuple (prog := X.prog) (w := X.w) hh i2 pb n2 its2.toArray
    have hlt : ∀ b ∈ [e, z, TI, TO, i1, i2], b < s.heap.objs.size := fun c hcm => by
      have e' : c = e ∨ c = z ∨ c = TI ∨ c = TO ∨ c = i1 ∨ c = i2 := by simpa using hcm
      obtain ⟨x0, f, a1, a2, hz, _, hTO⟩ := hz
      rcases e' with q | q | q | q | q | q
      · rw [q]; exact Heap.lt_size he
      · rw [q]; exact Heap.lt_size hz
      · rw [q]; exact Heap.lt_size hTI
      · rw [q]; exact Heap.lt_size hTO
      · rw [q]; obtain ⟨_, e1, _⟩ := h1; exact Heap.lt_size e1
      · rw [q]; obtain ⟨_, e2, _⟩ := h2; exact Heap.lt_size e2
    refine fy_pyNext_enum (R := fun x h₁ => ∃ x1 x2, x = .ref s.heap.objs.size ∧ its[i]? = some x1 ∧ its2[i]? = some x2 ∧ FyZ h₁ z TI TO ∧ IsTupOf2 h₁ TI (.ref i1) (.ref i2) ∧ h₁.IsTupleIter i1 pa (i + 1) ∧ h₁.IsTupleIter i2 pb (i + 1) ∧ IsTupOf2 h₁ s.heap.objs.size x1 x2 ∧ h₁.objs.size = s.heap.objs.size + 1 ∧
      (∀ c o, c ≠ z → c ≠ TO → c ≠ i1 → c ≠ i2 → s.heap.get? c = some o → h₁.get? c = some o)) he (fun Q' E' q => ?_) (fun x h₁ h' tk hR he₁ ho hT hsz hk => ?_)
    · refine fy_nextOf_zip_item S D1 D2 hz hTI ⟨h1, ptup p⟩ ⟨h2, ptup p2⟩ (by rw [List.size_toArray]; omega) (by rw [List.size_toArray]; omega) fun x1 x2 h' tk y1 y2 b1 b2 b3 b4 b5 b6 b7 => ?_
      exact q _ h' tk ⟨x1, x2, rfl, by simpa using y1, by simpa using y2, b1, b2, b3.1, b4.1, b5, b6, b7⟩ (b7 e _ ez eTO e1 e2 he)
    · obtain ⟨x1, x2, rfl, hx, hy, hz', hTI', h1', h2', hZ, hsz1, hk1⟩ := hR
      obtain ⟨xv, g1, r1⟩ := vget rv hx
      obtain ⟨yv, g2, r2⟩ := vget rv2 hy
      refine ⟨_, rfl, wpAny_letOwnedTupleGo_enum (s := { s with heap := h', toks := tk + 1 }) ho fun h'' he' sb => ?_⟩
      have hel : e < h₁.objs.size := Heap.lt_size he₁
      have k2 : ∀ b o, b ≠ e → h₁.get? b = some o → h''.get? b = some o := fun b o hb q => (sb.2 b hb).trans (hk b o hb q)
      have nZ : ObjOk X.prog X.w (upd H s.heap.objs.size (.tup [xv, yv])) h₁ s.heap.objs.size (.tup [xv, yv]) := ⟨by show 2 ≤ sizeLine; decide, [x1, x2], .cons r1 (.cons r2 .nil), ⟨_, hZ, rfl, _, rfl⟩⟩
      have I1 : Inv X pins σ (upd H s.heap.objs.size (.tup [xv, yv])) { s with heap := h₁, toks := tk } :=
        I.turnedNew (t' := tk) (ch := [e, z, TI, TO, i1, i2]) (fun c o hb q => hk1 c o (fun q' => hb (by simp [q'])) (fun q' => hb (by simp [q'])) (fun q' => hb (by simp [q'])) (fun q' => hb (by simp [q'])) q) hf (Nat.le_refl _) nZ
      have hf1 : ∀ b ∈ [e, z, TI, TO, i1, i2], FpOk X pins (upd H s.heap.objs.size (.tup [xv, yv])) b := fun b hb => by
        obtain ⟨f0, fr⟩ := hf b hb
        exact ⟨by rw [upd_ne (Nat.ne_of_lt (hlt b hb))]; exact f0, fr⟩
      have hT2 : h''.get? h₁.objs.size = some { cls := .type "tuple", data := .seq #[.int (0 + (i : Int)) tk, .ref s.heap.objs.size] } := (sb.2 _ (Nat.ne_of_gt hel)).trans hT
      have nT : ObjOk X.prog X.w (upd (upd H s.heap.objs.size (.tup [xv, yv])) h₁.objs.size (.tup [.int (i : Nat), .ref s.heap.objs.size])) h'' h₁.objs.size (.tup [.int (i : Nat), .ref s.heap.objs.size]) :=
        ⟨by show 2 ≤ sizeLine; decide, [.int (0 + (i : Int)) tk, .ref s.heap.objs.size], .cons ⟨tk, by rw [Int.zero_add]⟩ (.cons rfl .nil), ⟨_, hT2, rfl, _, rfl⟩⟩
      have I2 : Inv X pins σ (upd (upd H s.heap.objs.size (.tup [xv, yv])) h₁.objs.size (.tup [.int (i : Nat), .ref s.heap.objs.size])) { s with heap := h'', toks := tk + 1 } :=
        I1.turnedNew (t' := tk + 1) (ch := [e, z, TI, TO, i1, i2]) (fun c o hb q => k2 c o (fun q' => hb (by simp [q'])) q) hf1 (Nat.le_refl _) nT
      refine ⟨.ref h₁.objs.size, _, I2, rfl, ⟨h₁.objs.size, s.heap.objs.size, xv, yv, rfl, I.hok.fresh (Nat.le_refl _), I1.hok.fresh (Nat.le_refl _), rfl, g1, g2⟩, ⟨⟨.ref s.heap.objs.size, ?_⟩, ?_, ?_, ?_, ?_⟩, fun b hb => ?_⟩
      · rw [show (0 : Int) + ((i + 1 : Nat) : Int) = 0 + (i : Int) + 1 by omega]; exact he'
      · exact hz'.keep fun c o hc q => k2 c o (by rcases hc with r | r <;> (subst r; first | exact Ne.symm ez | exact Ne.symm eTO)) q
      · exact k2 _ _ (Ne.symm eTI) hTI'
      · exact h1'.at fun o q => k2 _ o (Ne.symm e1) q
      · exact h2'.at fun o q => k2 _ o (Ne.symm e2) q
      · rw [upd_ne (Nat.ne_of_lt (by rw [hsz1]; exact Nat.lt_succ_of_lt (hlt b hb)))]
        exact (hf1 b hb).1
  done := by
    intro X hP hw hK hc i pins s σ H E I hf st hg
    subst hP hw hK
    obtain ⟨⟨old, he⟩, hz, hTI, h1, h2⟩ := st
    obtain ⟨hi, hqx, hqy⟩ := hg
    obtain ⟨its, rv, p, _⟩ := I.tuple hqx
    obtain ⟨its2, rv2, p2, _⟩ := I.tuple hqy
    have l1 := rv.length
    have l2 := rv2.length
    have hh : X.A.in1.in1.handled = none := I.ok.hd hc
    have D1 := Draws.tuple (prog := X.prog) (w := X.w) hh i1 pa n1 its.toArray
    have D2 := Draws.tuple (prog := X.prog) (w := X.w) hh i2 pb n2 its2.toArray
    refine fy_pyNext_enum_end he fun Q' E' q => ?_
    refine fy_nextOf_zip_end S D1 D2 hz hTI ⟨h1, ptup p⟩ ⟨h2, ptup p2⟩ (by rw [List.size_toArray]; omega) (by rw [List.size_toArray]; omega) (by rw [List.size_toArray, List.size_toArray]; omega) fun h' tk x k hx => ?_
    exact q h' tk x hx ⟨rfl, I.turnedL (t' := tk) (ch := [e, z, TI, TO, i1, i2]) (fun c o hb q => k c o (fun q' => hb (by simp [q'])) (fun q' => hb (by simp [q'])) (fun q' => hb (by simp [q'])) (fun q' => hb (by simp [q'])) q) hf⟩
  self := fun A i s Q E st h => let ⟨⟨_, he⟩, _⟩ := st; wpAny_pyIter_enum he h
def iEZ (K : PySem.W.Frag) (ta : TA) : TI := fun σ H R => ta σ H fun vs H1 => ∃ a b xs ys, vs = [.ref a, .ref b] ∧ SqT K H1 a xs ∧ SqT K H1 b ys ∧ R (ItEZ K a b xs ys) H1
theorem pi_ez {X : Cx} {e e2 : Expr} {ta : TA} {p p2 pos pos2 tpos : Pos} {elts : List Expr} {kk : Nat} (hg : Gl X "zip") (hm : X.mg "zip" = none) (hg2 : Gl X "enumerate") (hm2 : X.mg "enumerate" = none) (ha : PA X [e, e2] ta)
    (hs : starEach [e, e2] X.env = (false, eval e X.env) :: starEach [e2] X.env := by rfl) (hpl : (backTo pos (starEach [e2] X.env)).any (·.1) = false := by rfl) (hs2 : starEach [.Call (.Name "zip" p) [e, e2] [] pos] X.env = (false, eval (.Call (.Name "zip" p) [e, e2] [] pos) X.env) :: starEach [] X.env := by rfl) :
    PI X (.Tuple elts kk tpos) (.Call (.Name "enumerate" p2) [.Call (.Name "zip" p) [e, e2] [] pos] [] pos2) (iEZ X.K ta) := by
  refine ⟨fun pins s σ H R I h => ?_⟩
  refine Call_ (ld_blt I hg2 hm2 boot_enumerate (PyProof.Rows.callWith_type1 ?_ hs2 rfl))
  rw [hs2]
  show wpAny _ _ (spliced ((false, eval (.Call (.Name "zip" p) [e, e2] [] pos) X.env) :: [])) _ _ s
  refine Calls.spliced_cons (Call_ (ld_blt I hg hm PyProof.Rows.boot_zip (PyProof.Rows.callWith_type1 (thn (ha.run pos pins s σ H _ I h) fun us s1 ⟨vs, H1, I1, r1, q1⟩ => ?_) hs hpl)))
  obtain ⟨a, b, xs, ys, rfl, hqx, hqy, q⟩ := q1
  obtain ⟨u1, u2, rfl, ra, rb⟩ := r1.two
  cases (show u1 = Value.ref a from ra)
  cases (show u2 = Value.ref b from rb)
  obtain ⟨its, rv, p1, _⟩ := I1.tuple hqx
  obtain ⟨its2, rv2, p2, _⟩ := I1.tuple hqy
  have la : a < s1.heap.objs.size := p1.lt
  have lb : b < s1.heap.objs.size := p2.lt
  refine zip_begins2 (begins_tuple a its.toArray) (begins_tuple b its2.toArray) (ptup p1) (ptup p2) fun h' hz hTI hTO h1 h2 hsz hk => ?_
  refine wpAny_pure ?_
  have I2 : Inv X pins σ H1 { s1 with heap := h' } := I1.kept (t' := s1.toks) hk
  refine fy_enum_zip (s := { s1 with heap := h' }) hz fun h'' he hsz2 hk2 => wpAny_pyIter_enum he ?_
  have I3 : Inv X pins σ H1 { s1 with heap := h'' } := I2.kept (t' := s1.toks) hk2
  have S := zip_sep2 (N := s1.heap.objs.size) (fp1 := [a]) (fp2 := [b]) (by simpa using la) (by simpa using lb)
  have hsz' : h'.objs.size = s1.heap.objs.size + 5 := hsz
  have he : IsEnum h'' (s1.heap.objs.size + 5) (s1.heap.objs.size + 4) 0 .none := by rw [← hsz']; exact he
  show PIE X pins σ _ R (.ref h'.objs.size) _
  rw [hsz']
  refine ⟨s1.heap.objs.size + 5, [s1.heap.objs.size + 5, s1.heap.objs.size + 4, s1.heap.objs.size + 2, s1.heap.objs.size + 3, s1.heap.objs.size, s1.heap.objs.size + 1], _, _, H1, rfl, I3,
    turn_ez (xs := xs) (ys := ys) S (Nat.ne_of_lt la) (Nat.ne_of_lt (Nat.lt_succ_of_lt lb)) (Nat.succ_ne_self _) (Nat.ne_of_gt (Nat.add_lt_add_left (by decide : 2 < 5) _)) (Nat.ne_of_gt (Nat.add_lt_add_left (by decide : 3 < 5) _)) (Nat.ne_of_gt (Nat.lt_add_of_pos_right (by decide : 0 < 5))) (Nat.ne_of_gt (Nat.add_lt_add_left (by decide : 1 < 5) _)),
    ⟨⟨_, he⟩, ⟨_, _, _, _, hk2 _ _ hz, .inl rfl, hk2 _ _ hTO⟩, hk2 _ _ hTI, ⟨_, hk2 _ _ h1, rfl, rfl⟩, ⟨_, hk2 _ _ h2, rfl, rfl⟩⟩, fun c hcm => ?_, q⟩
  have e' : c = s1.heap.objs.size + 5 ∨ c = s1.heap.objs.size + 4 ∨ c = s1.heap.objs.size + 2 ∨ c = s1.heap.objs.size + 3 ∨ c = s1.heap.objs.size ∨ c = s1.heap.objs.size + 1 := by simpa using hcm
  have hle : s1.heap.objs.size ≤ c := by
    rcases e' with z | z | z | z | z | z
    · rw [z]; exact Nat.le_add_right _ _
    · rw [z]; exact Nat.le_add_right _ _
    · rw [z]; exact Nat.le_add_right _ _
    · rw [z]; exact Nat.le_add_right _ _
    · rw [z]; exact Nat.le_refl _
    · rw [z]; exact Nat.le_add_right _ _
  exact I1.fpOk hle (I1.hok.fresh hle)
section
variable {X : Cx} {T : Tx} {k : Nat} {N : List Str} {sc : Scope} {vt st : List Bool} {ρ : Rho} {h h1 h2 : HD} {H : Hp} {σ : Sl} {a b : Expr} {ds es : List D} {pos : Pos} {p : Addr}
theorem li_ez {R : List D → (HD → Prop) → HD → Prop} {elts : List Expr} {kk : Nat} {tpos p0 p1 pos2 : Pos} (c : Ctx X T k N sc vt st) (ha : LX X a ρ h (.tup ds) h1) (hb : LX X b ρ h1 (.tup es) h2) (hg : globB sc "zip" = true) (hm : T.mg "zip" = none) (hg2 : globB sc "enumerate" = true) (hm2 : T.mg "enumerate" = none)
    (q : R (enD (zipD ds es)) (fun _ => True) h2) (hs : starEach [a, b] X.env = (false, eval a X.env) :: starEach [b] X.env := by rfl) (hs2 : starEach [b] X.env = (false, eval b X.env) :: starEach [] X.env := by rfl) (hpl : (backTo pos (starEach [b] X.env)).any (·.1) = false := by rfl)
    (hs3 : starEach [.Call (.Name "zip" p0) [a, b] [] pos] X.env = (false, eval (.Call (.Name "zip" p0) [a, b] [] pos) X.env) :: starEach [] X.env := by rfl) :
    LI X (.Tuple elts kk tpos) (.Call (.Name "enumerate" p1) [.Call (.Name "zip" p0) [a, b] [] pos] [] pos2) ρ h R :=
  ⟨_, pi_ez (c.gl hg) (by rw [c.hmg]; exact hm) (c.gl hg2) (by rw [c.hmg]; exact hm2) (pa_cons pe_we (pa_cons pe_we pa_nil hs2) hs) hs hpl hs3, fun σ H RR hs hh k => ha.use hs hh fun v H1 t1 r1 d1 => hb.use (hs.mono t1) r1 fun w H2 t2 r2 d2 => by
    obtain ⟨pa, vs, rfl, e1, dv⟩ := (d1.mono t2).tup_inv
    obtain ⟨pb, ws, rfl, e2, dw⟩ := d2.tup_inv
    have hl : (enD (zipD ds es)).length = min vs.length ws.length := by rw [enD_len, zipD_len, dv.length, dw.length]
    refine ⟨pa, pb, vs, ws, rfl, SqT.of e1, SqT.of e2, k _ H2 _ _ h2 q (t1.trans t2) r2 ⟨fun HH => TupS H2 HH, ?_, fun hh HH g r t => t⟩⟩
    rw [hl]
    refine ⟨fun i HH hi t => ⟨hi, SqT.of (t _ _ e1), SqT.of (t _ _ e2)⟩, fun HH t => ⟨rfl, SqT.of (t _ _ e1), SqT.of (t _ _ e2)⟩, fun i HH x H' hi t y => ?_⟩
    obtain ⟨Tt, Z, x, y, rfl, hZ, hT, rfl, hx, hy⟩ := y
    obtain ⟨d, g1, q1⟩ := dv.get' hx
    obtain ⟨e, g2, q2⟩ := dw.get' hy
    have t3 := TupS.new (o := .tup [x, y]) hZ
    have t4 := TupS.new (o := .tup [.int (i : Nat), .ref Z]) hT
    have tt := (t.trans t3).trans t4
    refine ⟨t3.trans t4, fun _ r => (r.skip hZ).skip hT, _, by rw [enD_get, zipD_get g1 g2]; rfl, .tup upd_same (.cons (.int _) (.cons (.tup (t4 _ _ upd_same) (.cons (q1.mono tt) (.cons (q2.mono tt) .nil))) .nil))⟩⟩
end
end Fy
end
section
set_option linter.all false
set_option maxRecDepth 100000
set_option maxHeartbeats 4000000
namespace L2
open PySem PySem.Spec PyProof.Rows
section
variable {prog : Program} {w : World} {A : Around} {E : Value → Shared → Prop} {s : Shared}
theorem fy_setItem_slice {l b sl : Addr} {items new : Array Value} {n n2 : Nat} {vl vu : Value} {lo hi : Option Int} {a c : Nat} {Q : Unit → Shared → Prop}
    (e : s.heap.get? l = some { cls := .type "list", data := .seq items n }) (e2 : s.heap.get? b = some { cls := .type "list", data := .seq new n2 }) (hne : l ≠ b)
    (hs : s.heap.IsSliceOf sl vl vu .none) (pl : IsPart vl lo) (pu : IsPart vu hi) (hac : a ≤ c) (hb : sliceBounds lo hi none items.size = ((a : Int), (c : Int), 1))
    (hsz : items.size + new.size ≤ sizeLine) (h : Q () { s with heap := s.heap.update l (Obj.mapSeq fun xs => xs.extract 0 a ++ new ++ xs.extract c xs.size) }) :
    wpAny (model prog w) A (setItem (.ref l) (.ref sl) (.ref b)) Q E s := by
  have hl : s.heap.IsList l items := PySem.IsL.isList e
  have hb' : s.heap.IsList b new := PySem.IsL.isList e2
  obtain ⟨os, hos, hcs, hds⟩ := id hs
  have hTs : s.TypeIs (.ref sl) "slice" := ⟨os, hos, hcs⟩
  have hstep : ¬ ((rawPart none == rawInt 0) = true) := Bool.false_ne_true
  have hsame : Builtin.List.listSameRef (.ref l) (.ref b) = false := by
    unfold Builtin.List.listSameRef
    exact beq_eq_false_iff_ne.mpr hne
  have hmax : (max (a : Int) (c : Int)).toNat = c := by omega
  have hz' : ((fun xs : Array Value => xs.extract 0 a ++ new ++ xs.extract c xs.size) items).size ≤ sizeLine + 1 := by
    simp only [Array.size_append, Array.size_extract]
    omega
  unfold setItem
  try with_reducible refine wpAny_holding ?_
  first | refine wpAny_bind (wpAny_pure ?_) | skip
  refine wpAny_bind (wpAny_sequenceKey hl.typeIs (by decide) ?_)
  refine wpAny_bind (wpAny_callSpecial?_slot (name := Str.ofString "__setitem__") hl.typeIs slot_list_setitem
    (wpAny_call_entry slot_list_setitem hl.typeIs entry_list_setitem ?_ (args_list_setitem _ _ _)))
  show wpAny _ _ (Builtin.List.listSubscript? (.ref sl) >>= _) _ _ s
  refine wpAny_bind ?_
  unfold Builtin.List.listSubscript?
  refine wpAny_bind (wpAny_specialOf hTs slice_no_index ?_)
  simp only [Option.isNone_none, if_true]
  refine wpAny_pure ?_
  show wpAny _ _ (typeOf (.ref sl) >>= _) _ _ s
  refine wpAny_bind (wpAny_typeOf hTs ?_)
  first
    | rw [if_neg (by decide)]
    | refine PySem.W.KFB.if_not (by decide) ?_
  rw [listSliceParts_eq]
  refine wpAny_bind (wpAny_bind (wpAny_field hos hds (x := .none) rfl (wpAny_bind (wpAny_listPart .none ?_))))
  rw [if_neg hstep]
  refine wpAny_bind (wpAny_field hos hds (x := vl) rfl (wpAny_bind (wpAny_listPart pl ?_)))
  refine wpAny_bind (wpAny_field hos hds (x := vu) rfl (wpAny_bind (wpAny_listPart pu (wpAny_pure ?_))))
  first
    | simp only [hsame, Bool.false_eq_true, if_false]
    | refine PySem.W.KFB.if_not hsame ?_
    | (dsimp only
       rw [if_neg (by rw [hsame]; exact Bool.false_ne_true)])
  refine wpAny_bind (m := Builtin.List.listAllItems (.ref b) "must assign iterable to extended slice") ?_
  unfold Builtin.List.listAllItems
  refine wpAny_bind (wpAny_typeOf hb'.typeIs ?_)
  first
    | refine PySem.W.KFB.if_so (by decide) ?_
    | rw [if_pos (by decide)]
    | simp only [beq_self_eq_true, Bool.true_or, if_true]
  unfold Builtin.List.listItems
  refine wpAny_bind (wpAny_seqItems e2 rfl (wpAny_pure ?_))
  refine wpAny_bind (wpAny_bind (wpAny_seqItems e rfl (wpAny_pure ?_)))
  refine wpAny_bind (wpAny_of_eq ((sliceIndices_raw lo hi none items.size (by simp)).trans (congrArg (pure : Int × Int × Int → Sem (Int × Int × Int)) hb)) ?_)
  show wpAny _ _ (if ((1 : Int) == 1) = true then _ else _) _ _ s
  rw [if_pos (by decide)]
  refine wpAny_bind (wpAny_rule ?_)
  first
    | simp only [notLongL hsz, Bool.false_eq_true, if_false]
    | refine PySem.W.KFB.if_not (notLongL hsz) ?_
  first | refine wpAny_bind (wpAny_pure ?_) | skip
  show wpAny _ _ (updateSeq l (fun xs => xs.extract 0 ((a : Int)).toNat ++ new ++ xs.extract (max (a : Int) (c : Int)).toNat xs.size) >>= _) _ _ s
  rw [hmax, Int.toNat_natCast]
  refine wpAny_bind (wpAny_updateSeq (hz := Nat.le_trans (Nat.le_add_right _ _) hsz) (_hz' := hz') e rfl ?_)
  refine wpAny_bind (wpAny_letGo ?_)
  first
    | exact wpAny_bind (wpAny_pure (wpAny_pure ⟨.none, rfl, wpAny_pure h⟩))
    | exact wpAny_pure ⟨.none, rfl, wpAny_pure h⟩
end
section
variable {X : Cx}
theorem fy_set_slice {pins : List (Addr × Obj)} {s : Shared} {σ : St} {H : Hp} {l b sl : Addr} {xs ys : List V} {lo hi : Option Int} {a c : Nat} {vl vu : Value} {Q : Unit → Shared → Prop} (I : Inv X pins σ H s)
    (hH : H l = some (.lst xs)) (hB : H b = some (.lst ys)) (hne : l ≠ b) (hs : s.heap.IsSliceOf sl vl vu .none) (pl : IsPart vl lo) (pu : IsPart vu hi) (hac : a ≤ c) (hb : sliceBounds lo hi none xs.length = ((a : Int), (c : Int), 1))
    (hz : xs.length + ys.length ≤ sizeLine) (hc : c ≤ xs.length) (h : ∀ s', Inv X pins σ (upd H l (.lst (xs.take a ++ ys ++ xs.drop c))) s' → Q () s') :
    wpAny (model X.prog X.w) X.A (setItem (.ref l) (.ref sl) (.ref b)) Q X.xe s := by
  obtain ⟨z, its, n, r, hl, e⟩ := I.lstM hH
  obtain ⟨z2, its2, n2, r2, hl2, e2⟩ := I.lstM hB
  have hl1 := r.length
  have hl2 := r2.length
  refine fy_setItem_slice (a := a) (c := c) e e2 hne hs pl pu hac (by rw [List.size_toArray, ← hl1]; exact hb) (by rw [List.size_toArray, List.size_toArray]; omega) (h _ ?_)
  refine I.lset (its' := its.take a ++ its2 ++ its.drop c) (t' := s.toks) hH e ?_ (Vals.append (Vals.append (r.take _) r2) (r.drop _)) ?_
  · exact splice_eq its its2 a c
  · rw [List.length_append, List.length_append, List.length_take, List.length_drop]
    omega
/-- xs[lo:hi] = ys -/
def sSlPut (te to : TE) (tl th : TO) : TS := fun D σ H => te σ H fun y H1 => to σ H1 fun x H2 => tl σ H2 fun lo H3 => th σ H3 fun hi H4 => ∃ l b xs ys, ∃ a c : Nat, x = .ref l ∧ y = .ref b ∧ H4 l = some (.lst xs) ∧ H4 b = some (.lst ys) ∧ l ≠ b ∧ a ≤ c ∧ c ≤ xs.length ∧
  sliceBounds lo hi none xs.length = ((a : Int), (c : Int), 1) ∧ xs.length + ys.length ≤ sizeLine ∧ D.nx σ (upd H4 l (.lst (xs.take a ++ ys ++ xs.drop c)))
theorem ps_slput {o value : Expr} {lo hi : Option Expr} {p2 pos pos' : Pos} {te to : TE} {tl th : TO} (hv : PE X value te) (ho : PE X o to) (hl : PO X lo tl) (hu : PO X hi th) (hs : swapsWith value (some (.Subscript o (.Slice lo hi none p2) pos')) pos.line X.env = pure false) :
    PS X (.Assign [.Subscript o (.Slice lo hi none p2) pos'] value pos) (sSlPut te to tl th) := by
  refine ⟨fun pins s σ H D I h => ?_⟩
  refine wpAny_Assign_Subscript (thn (hv.run pins s σ H _ I h) fun r s1 ⟨v, H1, I1, rv, q1⟩ => thn (ho.run pins s1 σ H1 _ I1 q1) fun u s2 ⟨x, H2, I2, rx, q2⟩ => ?_) hs
  refine wpAny_Slice (thn (hl.run pins s2 σ H2 _ I2 q2) fun vl s3 ⟨l, H3, I3, pl, q3⟩ => thn (hu.run pins s3 σ H3 _ I3 q3) fun vu s4 ⟨u', H4, I4, pu, q4⟩ => ?_)
  rw [evalPart_none]
  refine wpAny_pure ?_
  have I5 : Inv X pins σ H4 { s4 with heap := s4.heap.push { cls := .type "slice", data := .fields #[vl, vu, .none] } } := I4.kept (t' := s4.toks) fun b ob q => Heap.get?_push_of_some _ q
  obtain ⟨la, b, xs, ys, a, c, rfl, rfl, e1, e2, ne, hac, hc, hb, hz, q⟩ := q4
  obtain rfl : u = Value.ref la := rx
  obtain rfl : r = Value.ref b := rv
  exact fy_set_slice I5 e1 e2 ne (Heap.IsSliceOf.new ..) pl pu hac hb hz hc fun s' I' => ⟨σ, _, I', q⟩
end
end L2
namespace Fy
open PySem PySem.Spec PyProof.Rows L2
section
variable {X X' : Cx} {T : Tx} {k : Nat} {N : List Str} {sc : Scope} {vt st vt' st' : List Bool} {ρ ρ' : Rho} {h h1 h2 h3 h4 : HD} {H : Hp} {σ : Sl}
variable {e a b tg iter : Expr} {es tgs : List Expr} {d x y z : D} {ds res : List D} {bb : Bool} {pos : Pos} {E : EndsD} {p C : Addr} {is js : List Nat}
def WO (X : Cx) (e : Option Expr) : TO := fun σ H Q => ∀ (pins : List (Addr × Obj)) (s : Shared), Inv X pins σ H s → wpAny (model X.prog X.w) X.A (evalPart e X.env) (fun u s' => ∃ o H', Inv X pins σ H' s' ∧ IsPart u o ∧ Q o H') X.xe s
theorem po_wo {e : Option Expr} : PO X e (WO X e) := ⟨fun pins s σ H Q I h => h pins s I⟩
theorem LO.use {e : Option Expr} {o : Option Int} (l : LO X e ρ h o h1) (a : DenS H σ ρ) (b : RelH h H) {K : Option Int → Hp → Prop} (k : ∀ H', TupS H H' → RelH h1 H' → K o H') : WO X e σ H K := by
  obtain ⟨t, p, q⟩ := l
  exact fun pins s I => p.run pins s σ H K I (q σ H K a b k)
/-- a[lo:hi] = e, e a new list -/
theorem ls_slput {value : Expr} {lo hi : Option Expr} {p2 pos' : Pos} {l u : Option Int} {i j : Nat} (hv : LL X value ρ h res) (ho : ∀ hh, LX X a ρ hh (.ref p) hh) (hl : ∀ hh, LO X lo ρ hh l hh) (hu : ∀ hh, LO X hi ρ hh u hh) (hp : h p = some (.lst ds)) (hij : i ≤ j) (hj : j ≤ ds.length)
    (hb : sliceBounds l u none ds.length = ((i : Int), (j : Int), 1)) (hz : ds.length + res.length ≤ 100000) (q : E.nx ρ (updD h p (.lst (ds.take i ++ res ++ ds.drop j))))
    (hs : swapsWith value (some (.Subscript a (.Slice lo hi none p2) pos')) pos.line X.env = pure false := by rfl) :
    LS X (.Assign [.Subscript a (.Slice lo hi none p2) pos'] value pos) ρ h E :=
  ls_of (ps_slput pe_we pe_we po_wo po_wo hs) fun σ H hs' hh => by
    refine (hv (fun d h' => ∃ b, h b = none ∧ d = .ref b ∧ h' = updD h b (.lst res)) fun b hb => ⟨b, hb, rfl, rfl⟩).use hs' hh fun v H1 d h1 t1 r1 d1 ⟨b, hn, e1, e2⟩ => ?_
    subst e1 e2
    refine (ho _).use (hs'.mono t1) r1 fun w H2 t2 r2 d2 => (hl _).use (hs'.mono (t1.trans t2)) r2 fun H3 t3 r3 => (hu _).use (hs'.mono ((t1.trans t2).trans t3)) r3 fun H4 t4 r4 => ?_
    have hpb : p ≠ b := neN hp hn
    obtain ⟨xs, e1, dx⟩ := r4.lst (a := p) (ds := ds) (by rw [updD_ne hpb]; exact hp)
    obtain ⟨ys, e2, dy⟩ := r4.lst (a := b) (ds := res) updD_same
    have t5 : TupS H4 (upd H4 p (.lst (xs.take i ++ ys ++ xs.drop j))) := TupS.set e1 fun _ z => nomatch z
    have t := (((t1.trans t2).trans t3).trans t4).trans t5
    refine ⟨p, b, xs, ys, i, j, d2.ref_inv, d1.ref_inv, e1, e2, hpb, hij, by rw [dx.length]; exact hj, by rw [dx.length]; exact hb, by rw [dx.length, dy.length, sizeLine_eq]; omega, t, ρ, _, hs'.mono t, ?_, q⟩
    exact (r4.sub (Sub.new hn)).set (o := .lst (ds.take i ++ res ++ ds.drop j)) e1 (fun _ z => nomatch z) (((dx.take i).append dy).append (dx.drop j))
theorem bounds_all {n : Nat} : sliceBounds none none none n = (((0 : Nat) : Int), (n : Int), 1) := by
  simp [sliceBounds]
theorem bounds_mid {a c n : Nat} (hac : a ≤ c) (hc : c ≤ n) : sliceBounds (some (a : Int)) (some (c : Int)) none n = ((a : Int), (c : Int), 1) := bounds_run hac hc
end
end Fy
end
section
set_option linter.all false
set_option maxRecDepth 100000
set_option maxHeartbeats 4000000
namespace L2
open PySem PySem.Spec PyProof.Rows
/-! ### set(list of ints) -/
section
variable {P : Program} {w : World} {A : Around} {E : Value → Shared → Prop} {s : Shared}
theorem fy_call_set_listI {l : Addr} {items : Array Value} (ns : List Int) {Q : Value → Shared → Prop} (hh : A.handled = none) (hl : s.heap.IsList l items) (hit : IntsAre items.toList ns) (hb : ns.length + 1 < scanBound)
    (h : ∀ (h' : Heap) (tk c : Nat), SetR w h' s.heap.objs.size (fun j => decide (j ∈ ns)) c → c ≤ ns.length → (∀ b o, s.heap.get? b = some o → h'.get? b = some o) → Q (.ref s.heap.objs.size) { s with heap := h', toks := tk }) :
    wpAny (model P w) A (call (.type "set") [.ref l]) Q E s := by
  have hisz : items.size = ns.length := by
    have q := IntsAre.length hit
    rw [Array.length_toList] at q
    exact q
  obtain ⟨c, tl, hmro⟩ := F.called_set.mro
  have hmade := F.called_set.made
  have hsub := F.called_set.sub
  refine wpAny_call (codeAny_of_tree ?_)
  show wpAny _ _ (callAny (.type "set") _) _ _ _
  refine wpAny_pure ⟨Code.quiet_builtin _ (by decide +kernel), codeAny_builtin F.entry_type_call ?_⟩
  rw [Around.under_plain (weight_type_call_type "set" [.ref l] []) rfl]
  have h1 := F.called_set.notType
  have h2 := F.called_set.canCreate
  have hct := F.typeCall_set_1 (.ref l)
  repeat (any_goals (first | assumption | wp_step))
  refine codeAny_mono (code_set_led1 (.ref l) (E := E) (Q₁ := fun obj s₁ => obj = .ref s.heap.objs.size ∧ s₁ = { s with heap := s.heap.push { cls := .type "set", dict := none, data := .set #[] 0 (.fresh 0 0 (!w.params.followText "set-order")) } }) ⟨rfl, rfl⟩) fun r s₁ hr => ?_
  cases r with
  | error e => exact hr
  | ok fl =>
    cases fl with
    | ret obj =>
      obtain ⟨rfl, rfl⟩ := hr
      have hS : (s.heap.push { cls := .type "set", dict := none, data := .set #[] 0 (.fresh 0 0 (!w.params.followText "set-order")) }).get? s.heap.objs.size = some { cls := .type "set", dict := none, data := .set #[] 0 (.fresh 0 0 (!w.params.followText "set-order")) } := Heap.get?_push_size _ rfl
      have hT : Shared.TypeIs { s with heap := s.heap.push { cls := .type "set", dict := none, data := .set #[] 0 (.fresh 0 0 (!w.params.followText "set-order")) } } (.ref s.heap.objs.size) "set" := ⟨_, hS, rfl⟩
      have hli := F.called_set.init.lookup
      have hbi := F.called_set.init.bind (.ref s.heap.objs.size)
      repeat (any_goals (first | assumption | wp_step))
      refine codeAny_mono (codeAny_call_builtin (R := wants (fun r s₂ => r = .none ∧ ∃ h' tk c, s₂ = { s with heap := h', toks := tk } ∧ SetR w h' s.heap.objs.size (fun j => decide (j ∈ ns)) c ∧ c ≤ ns.length ∧
          (∀ b o, s.heap.get? b = some o → h'.get? b = some o)) E) F.called_set.init.plain F.entry_set_init (check_set_init_1 hT ?_)) fun r₂ s₂ hr₂ => ?_
      · obtain ⟨ol, hol, hcl, nl, hdl⟩ := hl
        obtain ⟨ocls, odict, odata, oslots⟩ := ol
        simp only at hcl hdl
        subst hcl; subst hdl
        have hol' : (s.heap.push { cls := .type "set", dict := none, data := .set #[] 0 (.fresh 0 0 (!w.params.followText "set-order")) }).get? l = some { cls := .type "list", dict := odict, data := .seq items nl, slots := oslots } := Heap.get?_push_of_some _ hol
        have hsls := F.sub_list_set
        have hslf := F.sub_list_frozenset
        have hne : (Value.type "list" == Value.type "dict") = false := by decide
        have hl1 : (s.heap.push { cls := .type "set", dict := none, data := .set #[] 0 (.fresh 0 0 (!w.params.followText "set-order")) }).IsList l items := ⟨_, hol', rfl, nl, rfl⟩
        unfold Builtin.«set.__init__» noKeywords Builtin.Frozenset.updateFrom
        generalize hPI : pyIter = PI
        wp_walk
        subst hPI
        refine wpAny_pyIter_list hl1 ?_
        refine wpAny_bind (wpAny_runValue ?_)
        have hlS : l < s.heap.objs.size := Heap.lt_size hol
        have hh3 : A.in1.in1.in1.handled = none := by simp [hh]
        have hz1 : (s.heap.push { cls := .type "set", dict := none, data := .set #[] 0 (.fresh 0 0 (!w.params.followText "set-order")) }).objs.size = s.heap.objs.size + 1 := Heap.size_push ..
        have hneI : l ≠ (s.heap.push { cls := .type "set", dict := none, data := .set #[] 0 (.fresh 0 0 (!w.params.followText "set-order")) }).objs.size := by
          rw [Heap.size_push]; exact Nat.ne_of_lt (Nat.lt_succ_of_lt hlS)
        have hSf : s.heap.objs.size ∉ [(s.heap.push { cls := .type "set", dict := none, data := .set #[] 0 (.fresh 0 0 (!w.params.followText "set-order")) }).objs.size, l] := by
          rw [Heap.size_push]; simp only [List.mem_cons, List.mem_singleton, List.not_mem_nil, or_false, not_or]
          exact ⟨Nat.ne_of_lt (Nat.lt_succ_self _), Nat.ne_of_gt hlS⟩
        have hval : ∀ (i : Nat) (v : Value), items[i]? = some v → ∃ k t, ns[i]? = some k ∧ v = .int k t := fun i v hv => by
          have hi : i < ns.length := by rw [← hisz]; exact (Array.getElem?_eq_some_iff.mp hv).1
          obtain ⟨t, e⟩ := PyProof.Rows.IntsAre.int_at hit i v (by rw [Array.getElem?_toList]; exact hv)
          refine ⟨ns[i], t, List.getElem?_eq_getElem hi, ?_⟩
          rw [e, List.getD_eq_getElem?_getD, List.getElem?_eq_getElem hi] <;> rfl
        refine set_update_ints ((Walks.list hh3 _ l hneI items).toS) s.heap.objs.size
          hSf ns hisz hb hval (items.size - 0) 0 _ (by omega) (Nat.zero_le _)
          ⟨⟨_, Heap.get?_push_size _ rfl, rfl, rfl⟩, (hl1.push _)⟩ ?hS0 ?hR
        case hS0 =>
          have hget : ((s.heap.push { cls := .type "set", dict := none, data := .set #[] 0 (.fresh 0 0 (!w.params.followText "set-order")) }).push { cls := .type "list_iterator", data := .fields #[.ref l, .int 0 0] }).get? s.heap.objs.size
              = some { cls := .type "set", dict := none, data := .set #[] 0 (.fresh 0 0 (!w.params.followText "set-order")) } := Heap.get?_push_of_some _ hS
          exact ⟨0, Nat.le_refl 0, setR_new_at hget⟩
        case hR =>
          intro s' c' hm hc' hS'
          obtain ⟨h', g2, d', tk', os'⟩ := s'
          have eg : g2 = s.gens := hm.gens
          have ed : d' = s.drawn := hm.drawn
          have eo : os' = s.os := hm.os
          subst eg; subst ed; subst eo
          show wpAny _ _ _ _ _ _
          refine wpAny_pure ?_
          show wpAny _ _ (ret Value.none) _ _ _
          rw [hisz] at hc'
          refine wpAny_pure ⟨rfl, h', tk', c', rfl, hS', hc', fun b o e => ?_⟩
          have hb0 : b < s.heap.objs.size := Heap.lt_size e
          have hb1 : b ≠ s.heap.objs.size := Nat.ne_of_lt hb0
          have hb2 : b ≠ (s.heap.push { cls := .type "set", dict := none, data := .set #[] 0 (.fresh 0 0 (!w.params.followText "set-order")) }).objs.size := by
            rw [Heap.size_push]; exact Nat.ne_of_lt (Nat.lt_succ_of_lt hb0)
          exact hm.heap b o (by simp only [List.mem_cons, List.mem_singleton, List.not_mem_nil, or_false, not_or]; exact ⟨hb1, hb2⟩) (Heap.get?_push_of_some _ (Heap.get?_push_of_some _ e))
      · cases r₂ with
        | error e => exact hr₂
        | ok fl₂ =>
          cases fl₂ with
          | ret r =>
            obtain ⟨rfl, h', tk, c', rfl, hS', hc', hk'⟩ := hr₂
            repeat (any_goals (first | assumption | wp_step))
            exact h _ _ _ hS' hc' hk'
          | _ => exact hr₂.elim
    | _ => exact hr.elim
end
end L2
end
section
set_option linter.all false
set_option maxRecDepth 100000
set_option maxHeartbeats 4000000
namespace L2
open PySem PySem.Spec PyProof.Rows
section
variable {X : Cx}
def rSetLi (K : PySem.W.Frag) (w : World) : List V → Hp → VK → Prop := fun vs H Q => ∃ (a : Addr) (ns : List Int), vs = [V.ref a] ∧ SqL K H a (ns.map V.int) ∧ ns.length < 63 ∧
  ∀ (p : Addr) (c : Nat), c ≤ ns.length → H p = none → Q (.ref p) (upd H p (SetO w p (fun j => decide (j ∈ ns)) c))
theorem cr_setL (hc : X.calm = true) : CallR X (.type "set") (rSetLi X.K X.w) := by
  intro pins s σ H vs us Q I r h
  obtain ⟨a, ns, rfl, hs, h64, q⟩ := h
  obtain ⟨its, rv, hl, _⟩ := I.list hs
  rw [Vals.ref1 r]
  refine fy_call_set_listI ns (I.ok.hd hc) hl.isList (by simpa using intsAre_of rv) (Nat.lt_of_lt_of_le (Nat.succ_lt_succ h64) (by decide : 64 ≤ scanBound)) fun h' tk c R hcn k => ?_
  refine ⟨.ref s.heap.objs.size, upd H s.heap.objs.size (SetO X.w s.heap.objs.size (fun j => decide (j ∈ ns)) c), I.laid (t' := tk) k (Nat.le_refl _) (setO_new R), rfl, q _ c hcn (I.hok.fresh (Nat.le_refl _))⟩
/-! ### a tuple laid bare -/
def tTupF (t : TA) : TE := fun σ H Q => t σ H fun xs H1 => xs.length ≤ sizeLine ∧ ∀ p ob, ob.dict = none → H1 p = none → Q (.ref p) (upd H1 p (.frz ob (.tup xs)))
theorem pe_tupF {es : List Expr} {t : TA} {x1} {pos : Pos} (h : PA X es t) : PE X (.Tuple es x1 pos) (tTupF t) := by
  refine ⟨fun pins s σ H Q I hq => ?_⟩
  refine wpAny_Tuple_spliced (thn (h.run pos pins s σ H _ I hq) fun us s1 ⟨xs, H1, I1, r, z, q⟩ => ⟨by rw [← r.length]; exact z, ?_⟩)
  have hf : H1 s1.heap.objs.size = none := I1.hok.fresh (Nat.le_refl _)
  refine ⟨.ref s1.heap.objs.size, upd H1 s1.heap.objs.size (.frz { cls := .type "tuple", data := .seq us.toArray } (.tup xs)), I1.laid (t' := s1.toks) (fun b u e => Heap.get?_push_of_some _ e) (Nat.le_refl _) ?_, rfl, q _ _ rfl hf⟩
  exact ⟨Heap.get?_push_size _ rfl, z, us, r, ⟨_, Heap.get?_push_size _ rfl, rfl, _, rfl⟩⟩
/-! ### dict(t), t a bare tuple of one pair whose key is a tuple -/
theorem cr_dictT1 (hc : X.calm = true) (hu : X.A.units + 64 < cLine) : CallR X (.type "dict") (fun xs H Q => ∃ (a p b : Addr) (o : Obj) (ks : List Key) (v : V), xs = [.ref a] ∧ o.dict = none ∧ H a = some (.frz o (.tup [.ref p])) ∧ H p = some (.tup [.ref b, v]) ∧ H b = some (.tup (ks.map kV)) ∧
    ∀ q, H q = none → Q (.ref q) (upd H q (.dT [(ks, v)]))) := by
  intro pins s σ H xs us Q I r q
  obtain ⟨a, p, b, o, ks, v, rfl, hd, ha, hp, hb, q⟩ := q
  rw [Vals.ref1 r]
  obtain ⟨ho, hz, its, rv, pt⟩ := (show ObjOk X.prog X.w H s.heap a (.frz o (.tup [.ref p])) from I.hok a _ ha)
  have e1 := Vals.ref1 rv
  subst e1
  obtain ⟨o', ho', hcl, n, hdat⟩ := pt
  rw [ho] at ho'
  cases ho'
  obtain ⟨_, its2, rv2, o2, ho2, hc2, n2, hd2⟩ := (show ObjOk X.prog X.w H s.heap p (.tup [.ref b, v]) from I.hok p _ hp)
  obtain ⟨u1, u2, rfl, ra, rb⟩ := rv2.two
  cases (show u1 = Value.ref b from ra)
  have hk := key_of I.hok hb
  have hps : [(Value.ref b, u2)].length = 1 := rfl
  refine call_dict_pairsH (knd := tupleKind (mixKind X.prog X.w)) (ps := [(ks, b, u2)]) (PairArg.tuple a #[.ref p] (fun _ => p) [(.ref b, u2)]) (I.ok.hd hc) (tupleKind_room_in1 (A := X.A.in1) (by show X.A.units + 1 + 1 < cLine; omega)) ?_ ?_ ?_ (by show 1 ≤ sizeLine; decide) fun h' tk hD hk' => ?_
  · refine ⟨⟨o, n, ho, hcl, hd, hdat⟩, rfl, fun j k v' hj => ?_⟩
    cases j with
    | zero =>
      have e : (Value.ref b, u2) = (k, v') := Option.some.inj hj
      cases e
      exact ⟨rfl, .inl ⟨o2, ho2, hc2, n2, hd2⟩⟩
    | succ j => simp at hj
  · refine ⟨rfl, fun i key v' e => ?_⟩
    cases i with
    | zero =>
      have e : (Value.ref b, u2) = (key, v') := Option.some.inj e
      cases e
      exact ⟨ks, b, rfl, rfl⟩
    | succ j =>
      have e : ([(Value.ref b, u2)] : List (Value × Value))[j + 1]? = some (key, v') := e
      simp at e
  · intro h2 hk2 x hx
    rw [List.mem_singleton.mp hx]
    obtain ⟨ob, itb, nb, h1, h2', h3, h4⟩ := hk
    exact ⟨ob, itb, nb, hk2 b ob (Nat.ne_of_lt (Heap.lt_size h1)) (by simp) h1, h2', h3, h4⟩
  · have hn : H s.heap.objs.size = none := I.hok.fresh (Nat.le_refl _)
    have k : ∀ c o, s.heap.get? c = some o → h'.get? c = some o := fun c o e => hk' c o (by simp) e
    have hm : (s.heap.objs.size == sysModules) = false := beq_eq_false_iff_ne.mpr (Nat.ne_of_gt I.big)
    obtain ⟨od, es, ep, d1, d2, d3, d4, _, d5⟩ := hD
    refine ⟨.ref s.heap.objs.size, upd H s.heap.objs.size (.dT [(ks, v)]), I.laid (t' := tk) k (Nat.le_refl _) (show ObjOk X.prog X.w _ _ _ (.dT [(ks, v)]) from ⟨by show 1 ≤ sizeLine; decide, hm, [(ks, b, u2)], .cons ⟨rfl, ?_, rb⟩ .nil, od, es, ep, d1, d2, d3, d4, d5⟩), rfl, q _ hn⟩
    show upd H s.heap.objs.size (.dT [(ks, v)]) b = some (.tup (ks.map kV))
    rw [upd_ne (ne_of_none hb hn)]
    exact hb
/-- d[k] = v by a comprehension, k a tuple -/
theorem fy_dictSetT {X : Cx} {pins : List (Addr × Obj)} {σ : St} {H : Hp} {s : Shared} {E : Value → Shared → Prop} {D b : Addr} {kvs : List (List Key × V)} {k : List Key} {v : V} {u r : Value} {Q : Unit → Shared → Prop} (hu : X.A.units + 1 < cLine) (I : Inv X pins σ H s) (e : H D = some (.dT kvs)) (l : kvs.length < sizeLine)
    (eb : H b = some (.tup (k.map kV))) (ry : RelV (.ref b) u) (rv : RelV v r) (h : ∀ s', Inv X pins σ (upd H D (.dT (putK kvs k v))) s' → Q () s') : wpAny (model X.prog X.w) X.A (dictSet D u r) Q E s := by
  cases (show u = Value.ref b from ry)
  obtain ⟨z, hd, xs, rel, dd⟩ := dt_of I.hok e
  have hz : xs.length ≤ sizeLine := by rw [← Paired.length rel]; exact z
  have hl : (putK kvs k v).length ≤ sizeLine := by have := length_putK kvs k v; omega
  refine wpAny_dictSet_heap (hsz := hz) (show (tupleKind (mixKind X.prog X.w)).room X.A from Nat.lt_of_succ_lt hu) (key_of I.hok eb) dd fun h' dd' hs => h _ ?_
  obtain ⟨q, es, ep, hq, h2, h3, h4, _, h5⟩ := dd'
  refine d_write I (by rw [e]; exact True.intro) hs ⟨q, hq⟩ ⟨hl, hd, _, (rel.put k eb rv).keeps fun c ys ec => ?_, q, es, ep, hq, h2, h3, h4, h5⟩
  rw [upd_ne (ne_of ec e (fun z => nomatch z))]
  exact ec
def tDcT (wi : TI) (g : TG) (tt : TT) (tk tv : TE) (vs : List Nat) : TE := fun σ H Q => wi σ H fun J H1 => ∀ D, H1 D = none → ∃ W : Nat → Nat → Hp → Prop, (∃ m, W 0 m (upd H1 D (.dT []))) ∧ ∀ i m H, W i m H →
  (J.stop i H ∧ Q (.ref D) H) ∨ (J.go i H ∧ ∃ Nx : Hp → Prop, (∀ H', Nx H' → ∃ m', m' < m ∧ W (i + 1) m' H') ∧ ∀ x H', J.yld i H x H' → g x (wipe σ vs) H' fun σ2 H2 => wipe σ2 vs = wipe σ vs ∧ tt σ2 H2 fun b H3 =>
    if b = true then tk σ2 H3 fun y H4 => tv σ2 H4 fun z H5 => ∃ kvs k b, y = .ref b ∧ H5 b = some (.tup (k.map kV)) ∧ H5 D = some (.dT kvs) ∧ kvs.length < sizeLine ∧ Nx (upd H5 D (.dT (putK kvs k z))) else Nx H3)
theorem fy_dcT_core {pins : List (Addr × Obj)} {s : Shared} {σ : St} {H : Hp} {Q : VK} {kx vx tg iter : Expr} {ifs : List Expr} {scope : Scope} {own : List (Str × Nat)} {pos pos' : Pos} {wi : TI} {g : TG} {tt : TT} {tk tv : TE} {use : Option (Value → Sem Unit)} {Qf : Value → Shared → Prop}
    (hu : X.A.units + 1 < cLine) (hc : X.calm = true) (hN : X.N.Nodup) (I : Inv X pins σ H s) (hi : PI X tg iter wi) (ok : BlkOk X.N X.env.scope scope own)
    (hg : ∀ (s : Shared) (H : Hp) (C : Addr) (cl : List (Str × Addr)) (fp : List Addr), PG (X.blk s H scope (compEnvC scope cl C X.env) fp) tg g) (ht : ∀ (s : Shared) (H : Hp) (C : Addr) (cl : List (Str × Addr)) (fp : List Addr), PTs (X.blk s H scope (compEnvC scope cl C X.env) fp) ifs tt)
    (hk : ∀ (s : Shared) (H : Hp) (C : Addr) (cl : List (Str × Addr)) (fp : List Addr), PE (X.blk s H scope (compEnvC scope cl C X.env) fp) kx tk)
    (he : ∀ (s : Shared) (H : Hp) (C : Addr) (cl : List (Str × Addr)) (fp : List Addr), PE (X.blk s H scope (compEnvC scope cl C X.env) fp) vx tv) (hs : ∀ x, foldedSetIterable iter X.env x = pure x)
    (h : tDcT wi g tt tk tv (own.map (·.2)) σ H Q)
    (hRR : ∀ D C s' m H', Inv X pins σ H' s' → Q (.ref D) H' → s'.heap.Ns C m → FpOk X pins H' C → compPost (model X.prog X.w) X.A X.xe use Qf (.ref D) C (.ok .next) s') :
    wpAny (model X.prog X.w) X.A (comprehension (.DictComp kx vx [⟨tg, iter, ifs, 0⟩] scope pos) scope X.env pos' newDict false (eval iter X.env) use) Qf X.xe s := by
  have hfree : ∀ y ∈ scope.names, y.2 = .free → ∃ c, X.env.cells.lookup y.1 = some c := fun y hy e => by
    rcases ok.free y hy e with k | k
    · exact I.ok.has _ (.inl k)
    · exact I.ok.has _ (.inr k)
  refine wpAny_comprehension_free (use := use) rfl hs (closure_ok hfree) ok.kind (fun y hy e => by rw [ok.uniq y hy, e])
    (thn (hi.run pins s σ H _ I h) fun xv s1 hx => thn hx fun itv s2 h2 => ?_)
  obtain ⟨it, fp, tn, J, H2, e, I2, T, st2, f2, q⟩ := h2
  subst e
  refine wpAny_newObj_type (newEnv_comp ?_)
  generalize hD : s2.heap.objs.size = D
  have hDn : H2 D = none := I2.hok.fresh (Nat.le_of_eq hD)
  obtain ⟨W, ⟨m0, w0⟩, turn⟩ := q D hDn
  -- the new list
  generalize hs3 : ({ s2 with heap := s2.heap.push { cls := .type "dict", data := .dict #[] } } : Shared) = s3
  have I3 : Inv X pins σ (upd H2 D (.dT [])) s3 := by
    rw [← hs3]
    refine I2.laid (t' := s2.toks) (fun b o e => Heap.get?_push_of_some _ e) (Nat.le_of_eq hD) ?_
    rw [← hD]
    exact dt_empty s2.heap I2.big
  have h3 : s3.heap = s2.heap.push { cls := .type "dict", data := .dict #[] } := by rw [← hs3]
  have sz : ∀ b ∈ fp, b < s2.heap.objs.size := fun b hb => by
    obtain ⟨o, e, _⟩ := T.obj _ _ st2 b hb
    exact Heap.lt_size e
  have f3 : ∀ b ∈ fp, FpOk X pins (upd H2 D (.dT [])) b ∧ b < s3.heap.objs.size := fun b hb => by
    have hlt := sz b hb
    refine ⟨⟨?_, (f2 b hb).2⟩, by rw [h3, Heap.size_push]; exact Nat.lt_succ_of_lt hlt⟩
    rw [upd_ne (by rw [← hD]; exact Nat.ne_of_lt hlt)]
    exact (f2 b hb).1
  have st3 : tn 0 s3.heap := T.keep _ _ _ st2 fun b _ o e => by rw [h3]; exact Heap.get?_push_of_some _ e
  have I4 := block_start I3 ok hN f3
  have pg := hg s3 (upd H2 D (.dT [])) s3.heap.objs.size (cellsFrom (s3.heap.objs.size + 1) scope.names (cloFrom X.env.cells scope.names [])) fp
  have pt := ht s3 (upd H2 D (.dT [])) s3.heap.objs.size (cellsFrom (s3.heap.objs.size + 1) scope.names (cloFrom X.env.cells scope.names [])) fp
  have pk := hk s3 (upd H2 D (.dT [])) s3.heap.objs.size (cellsFrom (s3.heap.objs.size + 1) scope.names (cloFrom X.env.cells scope.names [])) fp
  have pe := he s3 (upd H2 D (.dT [])) s3.heap.objs.size (cellsFrom (s3.heap.objs.size + 1) scope.names (cloFrom X.env.cells scope.names [])) fp
  show codeAny _ _ (.compStart (.DictComp kx vx [⟨tg, iter, ifs, 0⟩] scope pos) 0 (.ref it) (.ref D) (compEnvC scope (cellsFrom (s3.heap.objs.size + 1) scope.names (cloFrom X.env.cells scope.names [])) s3.heap.objs.size X.env)) (compPost (model X.prog X.w) X.A X.xe use Qf (.ref D) s3.heap.objs.size) { s3 with heap := pushCells (s3.heap.push { cls := .type "dict", data := .dict #[] }) scope.names }
  have nfp : ∀ b ∈ fp, (upd H2 D (.dT [])) b = none := fun b hb => (f3 b hb).1.1
  generalize hce : compEnvC scope (cellsFrom (s3.heap.objs.size + 1) scope.names (cloFrom X.env.cells scope.names [])) s3.heap.objs.size X.env = ce at I4 pg pt pk pe ⊢
  have cL : ce.locals = s3.heap.objs.size := by subst hce; rfl
  generalize hH3 : upd H2 D (.dT []) = H3 at I3 I4 pg pt pk pe w0 nfp f3
  generalize hs4 : ({ s3 with heap := pushCells (s3.heap.push { cls := .type "dict", data := .dict #[] }) scope.names } : Shared) = s4 at I4 ⊢
  have st4 : tn 0 s4.heap := T.keep _ _ _ st3 fun b _ o e => by rw [← hs4]; exact pushCells_keeps _ _ _ _ (Heap.get?_push_of_some _ e)
  have stat : ∀ {σ' : St} {H' : Hp} {s' : Shared}, Inv (X.blk s3 H3 scope ce fp) [] σ' H' s' → (∀ b ∈ fp, H' b = none) → ∀ b ∈ fp, FpOk (X.blk s3 H3 scope ce fp) [] H' b := fun {σ' H' s'} I' hn b hb =>
    ⟨hn b hb, (I'.ok.exf b hb).1, I'.ok.exfs b hb, .inl hb, fun x c e => (I'.ok.exf b hb).2 x c e, fun p hp => absurd (show p ∈ ([] : List (Addr × Obj)) ++ [] from hp) (by simp)⟩
  have loop : codeAny (model X.prog X.w) X.A (.compLoop (.DictComp kx vx [⟨tg, iter, ifs, 0⟩] scope pos) 0 (.ref it) (.ref D) ce) (compPost (model X.prog X.w) X.A X.xe use Qf (.ref D) s3.heap.objs.size) s4 := by
    refine compLoop_anyD (fun n s' => ∃ i H', Inv (X.blk s3 H3 scope ce fp) [] (wipe σ (own.map (·.2))) H' s' ∧ tn i s'.heap ∧ (∀ b ∈ fp, H' b = none) ∧ W i n H') ?_ m0 ⟨0, H3, I4, st4, nfp, w0⟩
    rintro n s5 ⟨i, H5, I5, st5, n5, w5⟩
    rcases turn i n H5 w5 with ⟨stop, qq⟩ | ⟨go, Nx, hNx, step⟩
    · have td := T.done (X.blk s3 H3 scope ce fp) rfl rfl rfl hc i [] s5 _ H5 (fun _ _ => False) I5 (stat I5 n5) st5 stop
      refine thnF td fun r s6 ⟨hr, I6⟩ => ?_
      subst hr
      -- back in the def's context
      have I7 : Inv X pins σ H5 s6 := I3.call' (ch := fp) I6.os I6.base I6.hok I6.bare fun b hb => ⟨(f3 b hb).1.2.2.2.1, (f3 b hb).1.2.1, (f3 b hb).1.2.2.2.2.1, (f3 b hb).1.2.2.2.2.2⟩
      have nC : H5 s3.heap.objs.size = none := by
        have z : H5 ce.locals = none := I6.free
        rw [cL] at z
        exact z
      obtain ⟨m, hn, _⟩ := I6.loc
      have hn : s6.heap.Ns ce.locals m := hn
      rw [cL] at hn
      exact hRR D s3.heap.objs.size s6 m H5 I7 qq hn (I3.fpOk (Nat.le_refl _) nC)
    · have ti := T.item (X.blk s3 H3 scope ce fp) rfl rfl rfl hc i [] s5 _ H5 (fun _ _ => False) I5 (stat I5 n5) st5 go
      refine thnF ti fun r s6 ⟨u, hr, h6⟩ => ?_
      subst hr
      refine thnF h6 fun _ s7 ⟨x, H7, I7, r7, y7, st7, n7⟩ => ?_
      have I7' := I7.pinned (stat I7 n7) (T.obj _ _ st7)
      refine thnF (pg.run _ s7 _ H7 x u _ I7' r7 (step x H7 y7)) fun _ s8 ⟨σ8, H8, I8, hw8, q8⟩ => ?_
      refine thnF (pt.run _ s8 σ8 H8 _ I8 q8) fun b s9 ⟨H9, I9, q9⟩ => ?_
      -- the turn's end
      have fin : ∀ {s' : Shared} {H' : Hp}, Inv (X.blk s3 H3 scope ce fp) ([] ++ pinsAt fp s7.heap) σ8 H' s' → Nx H' → ∃ m, m < n ∧ ∃ i H', Inv (X.blk s3 H3 scope ce fp) [] (wipe σ (own.map (·.2))) H' s' ∧ tn i s'.heap ∧ (∀ b ∈ fp, H' b = none) ∧ W i m H' := fun {s' H'} I' nx => by
        obtain ⟨m', hm, w'⟩ := hNx H' nx
        have pin' : ∀ b ∈ fp, ∀ o, s7.heap.get? b = some o → s'.heap.get? b = some o ∧ H' b = none := fun b hb o e =>
          let z := I'.pin (b, o) (List.mem_append_right _ (List.mem_append_right _ (mem_pinsAt hb e)))
          ⟨z.1, z.2.1⟩
        have hl : (wipe σ (own.map (·.2))).length = σ8.length := by rw [← hw8, wipe_length]
        refine ⟨m', hm, i + 1, H', (I'.unpinned (pins := [])).weak hl (fun j v e => ?_), T.keep _ _ _ st7 fun b hb o e => (pin' b hb o e).1, fun b hb => ?_, w'⟩
        · rw [← hw8] at e
          exact (wipe_some e).1
        · obtain ⟨o, e, _⟩ := T.obj _ _ st7 b hb
          exact (pin' b hb o e).2
      cases b with
      | false =>
        simp only [Bool.false_eq_true, if_false] at q9 ⊢
        exact fin I9 q9
      | true =>
        simp only [if_true] at q9 ⊢
        refine thnF (pk.run _ s9 σ8 H9 _ I9 q9) fun z s10 ⟨yk, H10, I10, r10, q10⟩ => ?_
        refine thnF (pe.run _ s10 σ8 H10 _ I10 q10) fun z2 s11 ⟨yv, H11, I11, r11, kvs, k, bk, ek, hbk, hD11, hz11, nx⟩ => ?_
        subst ek
        exact fy_dictSetT (X := X.blk s3 H3 scope ce fp) (by exact hu) I11 hD11 hz11 hbk r10 r11 fun s12 I12 => fin I12 nx
  exact codeAny_compStart_dict loop (T.self X.A 0 _ _ _ st4 loop)
/-- as a value -/
theorem pe_dcT {kx vx tg iter : Expr} {ifs : List Expr} {scope : Scope} {own : List (Str × Nat)} {pos : Pos} {wi : TI} {g : TG} {tt : TT} {tk tv : TE} (hu : X.A.units + 1 < cLine) (hc : X.calm = true) (hN : X.N.Nodup) (hi : PI X tg iter wi) (ok : BlkOk X.N X.env.scope scope own)
    (hg : ∀ (s : Shared) (H : Hp) (C : Addr) (cl : List (Str × Addr)) (fp : List Addr), PG (X.blk s H scope (compEnvC scope cl C X.env) fp) tg g) (ht : ∀ (s : Shared) (H : Hp) (C : Addr) (cl : List (Str × Addr)) (fp : List Addr), PTs (X.blk s H scope (compEnvC scope cl C X.env) fp) ifs tt)
    (hk : ∀ (s : Shared) (H : Hp) (C : Addr) (cl : List (Str × Addr)) (fp : List Addr), PE (X.blk s H scope (compEnvC scope cl C X.env) fp) kx tk)
    (he : ∀ (s : Shared) (H : Hp) (C : Addr) (cl : List (Str × Addr)) (fp : List Addr), PE (X.blk s H scope (compEnvC scope cl C X.env) fp) vx tv) (hs : ∀ x, foldedSetIterable iter X.env x = pure x := by intro _; rfl) :
    PE X (.DictComp kx vx [⟨tg, iter, ifs, 0⟩] scope pos) (tDcT wi g tt tk tv (own.map (·.2))) := by
  refine ⟨fun pins s σ H Q I h => ?_⟩
  rw [arm_eval_DictComp]
  refine fy_dcT_core hu hc hN I hi ok hg ht hk he hs h fun D C s' m H' I' q hn f => ⟨m, hn, fun h'' sb => ?_⟩
  obtain ⟨f0, f1, f2, f3, f4, f5⟩ := f
  exact ⟨.ref D, H', I'.turned (t' := s'.toks) (fun b o hb e => (sb.2 b hb).trans e) f0 f1 f3 f4 f5, rfl, q⟩
theorem sw_trueD {kx vx : Expr} {gs : List Comprehension} {scope : Scope} {pos py : Pos} {y : Str} {l : Nat} {env : Env} (hk : env.scope.kind = .function) (hy : env.scope.names.lookup y = some .local) (hl : (py.line == pos.line) = true)
    (ha : (scope.names.any fun (n, k) => n == y && (k == .local || k == .cell)) = false) : swapsWith (.DictComp kx vx gs scope pos) (some (.Name y py)) l env = pure true := by
  have ky : env.kindOf y = some .local := hy
  have hb : env.blockKind = .function := by unfold Env.blockKind; rw [hk]; rfl
  unfold swapsWith
  simp only [hb, ky, ha, Expr.pos, hl]
  rfl
theorem ps_setDcT {i : Nat} {y : Str} {py : Pos} {kx vx tg iter : Expr} {ifs : List Expr} {scope : Scope} {own : List (Str × Nat)} {pos spos : Pos} {wi : TI} {g : TG} {tt : TT} {tk tv : TE} (hu : X.A.units + 1 < cLine) (hc : X.calm = true) (hN : X.N.Nodup) (hy : X.N[i]? = some y) (hyl : X.env.scope.names.lookup y = some .local)
    (hsw : swapsWith (.DictComp kx vx [⟨tg, iter, ifs, 0⟩] scope pos) (some (.Name y py)) spos.line X.env = pure true) (hi : PI X tg iter wi) (ok : BlkOk X.N X.env.scope scope own)
    (hg : ∀ (s : Shared) (H : Hp) (C : Addr) (cl : List (Str × Addr)) (fp : List Addr), PG (X.blk s H scope (compEnvC scope cl C X.env) fp) tg g) (ht : ∀ (s : Shared) (H : Hp) (C : Addr) (cl : List (Str × Addr)) (fp : List Addr), PTs (X.blk s H scope (compEnvC scope cl C X.env) fp) ifs tt)
    (hk : ∀ (s : Shared) (H : Hp) (C : Addr) (cl : List (Str × Addr)) (fp : List Addr), PE (X.blk s H scope (compEnvC scope cl C X.env) fp) kx tk)
    (he : ∀ (s : Shared) (H : Hp) (C : Addr) (cl : List (Str × Addr)) (fp : List Addr), PE (X.blk s H scope (compEnvC scope cl C X.env) fp) vx tv) (hs : ∀ x, foldedSetIterable iter X.env x = pure x := by intro _; rfl) :
    PS X (.Assign [.Name y py] (.DictComp kx vx [⟨tg, iter, ifs, 0⟩] scope pos) spos) (tAsg (tDcT wi g tt tk tv (own.map (·.2))) (gName i)) := by
  refine ⟨fun pins s σ H D I h => ?_⟩
  rw [exec_Assign_Name_used _ _ _ _ hsw]
  refine wpAny_bind (wpAny_standAt (wpAny_bind ?_))
  show wpAny _ X.A (do let _ ← comprehension (.DictComp kx vx [⟨tg, iter, ifs, 0⟩] scope pos) scope X.env (firstIterPos [⟨tg, iter, ifs, 0⟩] pos) newDict false (eval iter X.env) (some (assign (.Name y py) X.env))) _ _ s
  have h : tDcT wi g tt tk tv (own.map (·.2)) σ H (fun x H1 => gName i x σ H1 D.nx) := h
  refine wpAny_bind (thn (fy_dcT_core (Qf := fun _ s' => SP X pins D .next s') hu hc hN I hi ok hg ht hk he hs h fun L C s' m H' I' q hn f => ?_) fun _ s' hq => wpAny_pure (wpAny_pure hq))
  show wpAny _ _ (assign (.Name y py) X.env (.ref L)) _ _ _
  refine wpAny_assign_Name (store_ok2 (v := V.ref L) I' hN hy (.inl hyl) rfl (fun s2 I2 ⟨a, sb, ha⟩ => ?_) (.inr hyl))
  obtain ⟨f0, f1, f2, f3, f4, f5⟩ := f
  have haC : C ≠ a := by
    rcases ha with z | z
    · rw [z]; exact f1
    · exact fun e => f4 y a z e.symm
  refine ⟨m, hn.sameBut sb haC, fun h3 sb3 => ?_⟩
  exact ⟨_, H', I2.turned (t' := s2.toks) (fun b o hb e => (sb3.2 b hb).trans e) f0 f1 f3 f4 f5, q⟩
/-- {k: v}, k a tuple -/
def tDispT (tk tv : TE) : TE := fun σ H Q => ∀ p, H p = none → tk σ (upd H p (.dT [])) fun y H1 => tv σ H1 fun z H2 => ∃ k b, y = .ref b ∧ H2 b = some (.tup (k.map kV)) ∧ H2 p = some (.dT []) ∧ Q (.ref p) (upd H2 p (.dT [(k, z)]))
theorem pe_dispT {X : Cx} {pos : Pos} {ke ve : Expr} {tk tv : TE} (hu : X.A.units + 1 < cLine) (hk : PE X ke tk) (hv : PE X ve tv)
    (hshape : (evalEachOpt [some ke] X.env).zip ((evalEach [ve] X.env).map fun v => do let x ← v; standAt pos; pure x) = (pairTrees [some ke] [ve] X.env pos).map fun p => (some p.1, p.2) := by rfl) (h0 : pairTrees [some ke] [ve] X.env pos ≠ [] := by exact fun z => nomatch z) (h15 : (pairTrees [some ke] [ve] X.env pos).length ≤ 15 := by exact Nat.le_add_left 1 14) :
    PE X (.Dict [some ke] [ve] pos) (tDispT tk tv) := by
  refine ⟨fun pins s σ H Q I q => ?_⟩
  have hn := I.hok.fresh (Nat.le_refl s.heap.objs.size)
  have I1 := I.laid (a := s.heap.objs.size) (o := .dT []) (h' := s.heap.push { cls := .type "dict", data := .dict #[] }) (t' := s.toks) (fun _ _ q => Heap.get?_push_of_some _ q) (Nat.le_refl _) (dt_empty s.heap I.big)
  rw [arm_eval_Dict, hshape, dictDisplay_pairs (pairTrees [some ke] [ve] X.env pos) h0 (by omega)]
  refine wpAny_bind (wpAny_standAt (wpAny_bind (wpAny_subDictH (knd := tupleKind (mixKind X.prog X.w)) (show (tupleKind (mixKind X.prog X.w)).room X.A from Nat.lt_of_succ_lt hu) h15 ?_)))
  refine pairTrees_cons_walk (thn (hk.run pins _ σ _ _ I1 (q _ hn)) fun u s2 ⟨y, H1, I2, ry, q2⟩ => thn (hv.run pins s2 σ H1 _ I2 q2) fun r s3 ⟨z, H2, I3, rz, k, b, ey, eb, e, q3⟩ => ?_)
  subst ey
  cases (show u = Value.ref b from ry)
  refine pairTrees_nil_walk ⟨[(k, b, r)], ⟨rfl, rfl, key_of I3.hok eb, True.intro⟩, ?_, fun h' tk dd' hs => wpAny_pure ?_⟩
  · obtain ⟨z, hd, xs, rel, dd⟩ := dt_of I3.hok e
    cases rel
    exact dd
  · obtain ⟨zz, hd, xs, rel, dd⟩ := dt_of I3.hok e
    have hne : b ≠ s.heap.objs.size := ne_of eb e (fun z => nomatch z)
    obtain ⟨q', es, ep, hq, h2, h3, h4, _, h5⟩ := dd'
    refine ⟨.ref s.heap.objs.size, _, d_write (ob := .dT [(k, z)]) I3 (by rw [e]; exact True.intro) hs ⟨q', hq⟩ (show ObjOk X.prog X.w _ _ _ (.dT [(k, z)]) from ⟨by show 1 ≤ sizeLine; decide, hd, [(k, b, r)], .cons ⟨rfl, ?_, rz⟩ .nil, q', es, ep, hq, h2, h3, h4, h5⟩), rfl, q3⟩
    show upd H2 s.heap.objs.size (.dT [(k, z)]) b = some (.tup (k.map kV))
    rw [upd_ne hne]
    exact eb
theorem pget {α β : Type} {F : α → β → Prop} : ∀ {l : List α} {m : List β} {i : Nat} {x : α}, Paired F l m → l[i]? = some x → ∃ y, m[i]? = some y ∧ F x y
  | _, _, _, _, .nil, e => by simp at e
  | _, _, 0, _, .cons h _, e => by simp at e; subst e; exact ⟨_, rfl, h⟩
  | _, _, i + 1, x, .cons _ t, e => by
    obtain ⟨y, h1, h2⟩ := pget (i := i) (x := x) t (by simpa using e)
    exact ⟨y, by simpa using h1, h2⟩
/-! ### max(d.values()), the keys tuples, the values whole numbers -/
def tMaxV (td : TE) : TE := fun σ H Q => td σ H fun x H1 => ∃ (d : Addr) (kvs : List (List Key × V)) (ns : List Int), x = .ref d ∧ H1 d = some (.dT kvs) ∧ kvs.map (·.2) = ns.map V.int ∧ 0 < ns.length ∧ ∀ m, m ∈ ns → (∀ y, y ∈ ns → y ≤ m) → Q (.int m) H1
theorem pe_maxV {e : Expr} {td : TE} {apos cpos p pos : Pos} (hc : X.calm = true) (hg : Gl X "max") (hm : X.mg "max" = none) (he : PE X e td) (hbase : attributeBase e "values" X.env (eval e X.env) = eval e X.env := by rfl) (hline : (apos.endLine == cpos.line) = true := by rfl)
    (na : starEach [.Call (.Attribute e "values" apos) [] [] cpos] X.env = (false, eval (.Call (.Attribute e "values" apos) [] [] cpos) X.env) :: starEach [] X.env := by rfl) : PE X (.Call (.Name "max" p) [.Call (.Attribute e "values" apos) [] [] cpos] [] pos) (tMaxV td) := by
  refine ⟨fun pins s σ H Q I h => ?_⟩
  refine Call_ (ld_blt I hg hm boot_max (PyProof.Rows.callWith_builtin1 ?_ na rfl))
  rw [na]
  refine Calls.spliced_cons (wpAny_Call_method (T := "dict") (id := "dict.values") hbase rfl hline F.plainAttrs_dict F.slot_dict_values F.type_dict_values (thn (he.run pins s σ H _ I h) fun u s1 ⟨x, H1, I1, rx, d, kvs, ns, ex, hd, hns, hne, q⟩ => ?_))
  subst ex
  obtain rfl : u = Value.ref d := rx
  obtain ⟨z, hsys, xs, rel, dd⟩ := dt_of I1.hok hd
  obtain ⟨o, es, ep, ho, hex, hdat, hes, his, hnd⟩ := id dd
  have hraw : s1.heap.DictRaw d es ep := ⟨o, ho, hex, hdat⟩
  refine ⟨hraw.typeIs, fun b qq => ?_, ?_⟩
  · cases qq
    exact ⟨o, ho, hex.2.1⟩
  have hes2 : es.size = kvs.length := by
    have e1 := congrArg List.length hes
    rw [Array.length_toList, List.length_map] at e1
    rw [e1, ← Paired.length rel]
  have hkn : kvs.length = ns.length := by
    have e := congrArg List.length hns
    rw [List.length_map, List.length_map] at e
    exact e
  have hP : ∀ (i : Nat) (e : DictEntry), es[i]? = some e → ∃ t, e.val = .int (ns.getD i 0) t := fun i e he => by
    have hi : i < es.size := (Array.getElem?_eq_some_iff.mp he).1
    have hi2 : i < kvs.length := by omega
    have hi3 : i < ns.length := by omega
    obtain ⟨q', hq1, hq2⟩ := pget rel (i := i) (x := kvs[i]) (List.getElem?_eq_getElem hi2)
    have e2 : kvs[i].2 = V.int ns[i] := by
      have z : (kvs.map Prod.snd)[i]? = (ns.map V.int)[i]? := by rw [hns]
      rw [List.getElem?_map, List.getElem?_map, List.getElem?_eq_getElem hi2, List.getElem?_eq_getElem hi3] at z
      exact Option.some.inj z
    have e3 : ns.getD i 0 = ns[i] := by rw [List.getD_eq_getElem?_getD, List.getElem?_eq_getElem hi3] <;> rfl
    have e4 : es.toList[i]? = some (entryOfKey (tupleKind (mixKind X.prog X.w)) q') := by rw [hes, List.getElem?_map, hq1]; rfl
    rw [Array.getElem?_toList, he] at e4
    have e5 := Option.some.inj e4
    have r := hq2.2.2
    rw [e2] at r
    rw [e5, e3]
    exact r
  have hh : X.A.in1.handled = none := I1.ok.hd hc
  show wpAny _ _ (callWith cpos (.builtin "dict.values") [.ref d] [] []) _ X.xe s1
  refine method_meetsIn F.slot_dict_values F.entry_dict_values rfl (PySem.evalArgs_none ⟨rfl, hraw.typeIs, F.args_dict_values_1 _, _, meets_dict_values_raw d hsys, ⟨es, ep, hraw⟩, ?_⟩)
  refine wpAny_pure ?_
  have hv : (s1.heap.push { cls := .type "dict_values", data := .fields #[.ref d] }).get? s1.heap.objs.size = some (DSub.viewOb "dict_values" d) := Heap.get?_push_size _ rfl
  refine call_max_walk ?_
  refine DSub.iter_vals (s := { s1 with heap := s1.heap.push { cls := .type "dict_values", data := .fields #[.ref d] } }) hv (Heap.get?_push_of_some _ ho) hdat ?_
  have hd1 : d < s1.heap.objs.size := Heap.lt_size ho
  have ho2 : (s1.heap.push { cls := .type "dict_values", data := .fields #[.ref d] }).get? d = some o := Heap.get?_push_of_some _ ho
  generalize hs2 : s1.heap.push { cls := .type "dict_values", data := .fields #[.ref d] } = hp2 at *
  have ha : d < hp2.objs.size := Heap.lt_size ho2
  have keep12 : ∀ b ob, s1.heap.get? b = some ob → hp2.get? b = some ob := fun b ob e => by rw [← hs2]; exact Heap.get?_push_of_some _ e
  refine ⟨hp2.objs.size, [hp2.objs.size, d], [hp2.objs.size], es.size, fun i v => ∃ t, v = .int (ns.getD i 0) t, _, fun i j => decide (ns.getD i 0 > ns.getD j 0), rfl, DSub.walksVal (a := d) hh (Nat.ne_of_lt ha) hdat hP, ⟨Heap.get?_push_size _ rfl, Heap.get?_push_of_some _ ho2⟩, fun b hb => ?_, by omega, CmpOf.ints_gt (fun i => ns.getD i 0) (fun i v z => z), fun v h' tk hv' hk => ?_⟩
  · show b < (hp2.push _).objs.size
    rw [size_push']
    rcases List.mem_cons.mp hb with z | z
    · rw [z]
      exact Nat.lt_succ_self _
    · rw [List.mem_singleton.mp z]
      exact Nat.lt_succ_of_lt ha
  · obtain ⟨t, rfl⟩ := hv'
    obtain ⟨m1', m2'⟩ := argBest_gt (fun i => ns.getD i 0) (es.size - 1)
    have m1 : argBest (fun i j => decide (ns.getD i 0 > ns.getD j 0)) (es.size - 1) ≤ es.size - 1 := m1'
    have m2 : ∀ j, j ≤ es.size - 1 → ns.getD j 0 ≤ ns.getD (argBest (fun i j => decide (ns.getD i 0 > ns.getD j 0)) (es.size - 1)) 0 := m2'
    have hk2 : ∀ b o, s1.heap.get? b = some o → h'.get? b = some o := fun b o e => hk b o (fun z => by rw [List.mem_singleton.mp z] at e; exact absurd (Heap.lt_size (keep12 _ _ e)) (Nat.lt_irrefl _)) (Heap.get?_push_of_some _ (keep12 _ _ e))
    refine ⟨.int _, H1, I1.kept (t' := tk) hk2, ⟨t, rfl⟩, q _ (PySem.getD_mem (by omega)) fun y hy => ?_⟩
    obtain ⟨j, hj, e⟩ := List.mem_iff_getElem.mp hy
    have z := m2 j (by omega)
    have e3 : ns.getD j 0 = y := by rw [List.getD_eq_getElem?_getD, List.getElem?_eq_getElem hj, ← e] <;> rfl
    rw [e3] at z
    exact z
end
end L2
end
section
set_option linter.all false
set_option maxRecDepth 100000
set_option maxHeartbeats 4000000
namespace HT
open PySem PySem.Spec PyProof.Rows
section
variable {prog : Program} {w : World} {A : Around} {E : Value → Shared → Prop} {s : Shared}
theorem fy_adjust_rev (n : Nat) : Builtin.Slice.sliceAdjust none none (-1) (n : Int) = ((n : Int) - 1, -1) := by
  unfold Builtin.Slice.sliceAdjust
  simp
theorem fy_places_rev (n : Nat) : Builtin.Slice.slicePlaces ((n : Int) - 1) (-1) (-1) = n := by
  unfold Builtin.Slice.slicePlaces
  simp only [show ¬ ((-1 : Int) > 0) by omega, if_false, Int.neg_neg, Int.ediv_one]
  split <;> omega
theorem fy_pick_rev (xs : Array Value) : ((List.range xs.size).filterMap fun (m : Nat) => xs[(((xs.size : Nat) : Int) - 1 + (m : Int) * (-1)).toNat]?).toArray = xs.toList.reverse.toArray := by
  congr 1
  have e : (List.range xs.size).filterMap (fun (m : Nat) => xs[(((xs.size : Nat) : Int) - 1 + (m : Int) * (-1)).toNat]?) = ((List.range xs.size).map fun k => xs.size - 1 - k).filterMap (xs[·]?) := by
    rw [List.filterMap_map]
    congr 1
    funext m
    show xs[_]? = xs[xs.size - 1 - m]?
    congr 1
    omega
  rw [e, PySem.W.krv_range, List.filterMap_reverse, PySem.W.krv_all]
theorem fy_getItem_rev {t sl : Addr} {items : Array Value} {vl vu vs : Value} {Q : Value → Shared → Prop} (ht : IsTup s.heap t items) (hs : s.heap.IsSliceOf sl vl vu vs) (pl : IsPart vl none) (pu : IsPart vu none) (ps : IsPart vs (some (-1)))
    (h : Q (.ref s.heap.objs.size) { s with heap := s.heap.push { cls := .type "tuple", data := .seq items.toList.reverse.toArray } })
    (hsz : items.size ≤ sizeLine) : wpAny (model prog w) A (getItem (.ref t) (.ref sl)) Q E s := by
  have htake : sizeOk (.seq items.toList.reverse.toArray) := by
    show items.toList.reverse.toArray.size ≤ sizeLine
    rw [List.size_toArray, List.length_reverse, Array.length_toList]
    exact hsz
  obtain ⟨os, hos, hcs, hds⟩ := id hs
  have hTs : s.TypeIs (.ref sl) "slice" := ⟨os, hos, hcs⟩
  unfold getItem
  try with_reducible refine wpAny_holding ?_
  first | refine wpAny_bind (wpAny_pure ?_) | skip
  refine wpAny_bind (wpAny_sequenceKey ht.typeIs (by decide) ?_)
  refine wpAny_bind (wpAny_callSpecial?_slot (name := Str.ofString "__getitem__") ht.typeIs PyProof.Rows.slot_tuple_getitem
    (wpAny_call_entry PyProof.Rows.slot_tuple_getitem ht.typeIs entry_tuple_getitem ?_ (args_tuple_getitem _ _)))
  show wpAny _ _ (Builtin.Tuple.tupleItemsOf (.ref t) >>= _) _ _ s
  refine wpAny_bind (tupleItemsOf_ ht ?_)
  refine wpAny_bind (wpAny_typeOf hTs ?_)
  rw [if_pos (by decide)]
  have app : ∀ {Q : Int × Int × Nat → Shared → Prop} {E : Value → Shared → Prop} {A : Around}, Q ((items.size : Int) - 1, -1, items.size) s → wpAny (model prog w) A (Builtin.Slice.sliceApplied (.ref sl) (pure (items.size : Int))) Q E s := fun {Q E A} q => by
    unfold Builtin.Slice.sliceApplied Builtin.Slice.sliceFields
    refine wpAny_bind (wpAny_bind (wpAny_field hos hds (x := vl) rfl (wpAny_bind (wpAny_field hos hds (x := vu) rfl (wpAny_bind (wpAny_field hos hds (x := vs) rfl (wpAny_pure ?_)))))))
    refine wpAny_bind (slicePart_ ps ?_)
    show wpAny _ _ (if ((-1 : Int) == 0) = true then _ else _) _ _ s
    rw [if_neg (by decide)]
    refine wpAny_bind (slicePart_ pl (wpAny_bind (slicePart_ pu (wpAny_bind (wpAny_pure ?_)))))
    show wpAny _ _ (match Builtin.Slice.sliceAdjust none none (-1) (items.size : Int) with | (lo, hi) => pure (lo, (-1 : Int), Builtin.Slice.slicePlaces lo hi (-1))) _ _ s
    rw [fy_adjust_rev]
    show wpAny _ _ (pure ((items.size : Int) - 1, (-1 : Int), Builtin.Slice.slicePlaces ((items.size : Int) - 1) (-1) (-1))) _ _ s
    rw [fy_places_rev]
    exact wpAny_pure q
  refine wpAny_bind (app ?_)
  have hno : ¬ (((items.size : Int) - 1 == 0 && (-1 : Int) == 1 && items.size == items.size) = true) := by
    rw [show ((-1 : Int) == 1) = false by decide, Bool.and_false, Bool.false_and]
    exact Bool.false_ne_true
  show wpAny _ _ (if ((items.size : Int) - 1 == 0 && (-1 : Int) == 1 && items.size == items.size) = true then _ else _) _ _ s
  rw [if_neg hno, fy_pick_rev]
  first
    | exact wpAny_bind (m := Builtin.Tuple.tupleExact _) (wpAny_newObj_type (wpAny_pure ⟨_, rfl, wpAny_pure h⟩) htake)
    | exact wpAny_bind (m := Builtin.Tuple.tupleExact _) (wpAny_newObj_type (wpAny_bind (wpAny_pure (wpAny_pure ⟨_, rfl, wpAny_pure h⟩))) htake)
    | exact wpAny_bind (wpAny_bind (m := Builtin.Tuple.tupleExact _) (wpAny_newObj_type (wpAny_pure (wpAny_pure ⟨_, rfl, wpAny_pure h⟩)) htake))
    | exact wpAny_bind (wpAny_bind (m := Builtin.Tuple.tupleExact _) (wpAny_newObj_type (wpAny_pure ⟨_, rfl, wpAny_pure h⟩) htake))
end
end HT
namespace L2
open PySem PySem.Spec PyProof.Rows
section
variable {X : Cx}
/-- t[::-1] -/
def tRevTu (K : PySem.W.Frag) (te : TE) : TE := fun σ H Q => te σ H fun x H1 => ∃ a xs, x = .ref a ∧ SqT K H1 a xs ∧ ∀ p, H1 p = none → Q (.ref p) (upd H1 p (.tup xs.reverse))
theorem pe_revTu {e : Expr} {te : TE} {k : Nat} {p1 p2 p3 pos : Pos} (he : PE X e te) : PE X (.Subscript e (.Slice none none (some (.UnaryOp .USub (.Constant (.int 1) k p1) p2)) p3) pos) (tRevTu X.K te) := by
  refine ⟨fun pins s σ H Q I h => ?_⟩
  refine Subscript_ (thn (he.run pins s σ H _ I h) fun v s1 ⟨x, H1, I1, r1, q1⟩ => ?_)
  obtain ⟨a, xs, ex, hx, q⟩ := q1
  subst ex
  cases r1
  have hst : PO X (some (.UnaryOp .USub (.Constant (.int 1) k p1) p2)) (tPart (tUn (rU fun i => .int (-i)) (tC (.int 1)))) := po_some (pe_un un_neg pe_int)
  refine wpAny_Slice (thn (po_none.run pins s1 σ H1 (fun o H2 => o = none ∧ H2 = H1) I1 ⟨rfl, rfl⟩) fun vl s2 ⟨l, H2, I2, pl, el, e2⟩ => ?_)
  subst el e2
  refine thn (po_none.run pins s2 σ H2 (fun o H3 => o = none ∧ H3 = H2) I2 ⟨rfl, rfl⟩) fun vu s3 ⟨u, H3, I3, pu, eu, e3⟩ => ?_
  subst eu e3
  refine thn (hst.run pins s3 σ H3 (fun o H4 => o = some (-1) ∧ H4 = H3) I3 ⟨1, rfl, -1, rfl, rfl, rfl⟩) fun vs s4 ⟨o, H4, I4, ps, eo, e4⟩ => ?_
  subst eo e4
  have I5 : Inv X pins σ H4 { s4 with heap := s4.heap.push { cls := .type "slice", data := .fields #[vl, vu, vs] } } := I4.kept (t' := s4.toks) fun b ob q => Heap.get?_push_of_some _ q
  obtain ⟨its, r, ht, hz⟩ := I5.tuple hx
  have hlen := r.length
  show wpAny (model X.prog X.w) X.A (subscriptTail e (.Slice none none (some (.UnaryOp .USub (.Constant (.int 1) k p1) p2)) p3) (.ref a) (.ref s4.heap.objs.size)) (EP X pins σ Q) X.xe { s4 with heap := s4.heap.push { cls := .type "slice", data := .fields #[vl, vu, vs] } }
  refine tail_any (ops := [.ref a, .ref s4.heap.objs.size]) ht.typeIs (PyProof.Rows.slot_tuple_getitem.lookup) ?_ (by with_unfolding_all rfl)
  refine HT.fy_getItem_rev ht (Heap.IsSliceOf.new _ vl vu vs) pl pu ps ?_ (by rw [List.size_toArray]; omega)
  refine ⟨.ref _, _, I5.laid (t' := s4.toks) (o := .tup xs.reverse) (fun b ob q => Heap.get?_push_of_some _ q) (Nat.le_refl _) ?_, rfl, q _ (I5.hok.fresh (Nat.le_refl _))⟩
  exact ⟨by rw [List.length_reverse]; exact hz, _, r.reverse, _, Heap.get?_push_size _ rfl, rfl, _, rfl⟩
/-! ### max of a tuple of ints -/
theorem cr_maxTu (hc : X.calm = true) : CallR X (.builtin "max") (fun vs H Q => ∃ (a : Addr) (ns : List Int), vs = [V.ref a] ∧ SqT X.K H a (ns.map V.int) ∧ 0 < ns.length ∧ ∀ m, m ∈ ns → (∀ y, y ∈ ns → y ≤ m) → Q (.int m) H) := by
  intro pins s σ H vs us Q I r h
  obtain ⟨a, ns, rfl, hs, hne, q⟩ := h
  rw [Vals.ref1 r]
  obtain ⟨its, rv, ht, _⟩ := I.tuple hs
  have hi := intsAre_of rv
  have hl := rv.length
  rw [List.length_map] at hl
  refine call_max_walk ?_
  refine wpAny_pyIter_tuple (show s.heap.IsTuple a its.toArray from ht) ?_
  have ha : a < s.heap.objs.size := ht.lt
  refine ⟨s.heap.objs.size, [s.heap.objs.size, a], [s.heap.objs.size], its.toArray.size, fun i v => its.toArray[i]? = some v, _, fun i j => decide (ns.getD i 0 > ns.getD j 0), rfl, Walks.tuple (show X.A.in1.handled = none from I.ok.hd hc) _ a (Nat.ne_of_lt ha) its.toArray, ⟨⟨_, Heap.get?_push_size _ rfl, rfl, rfl⟩, (show s.heap.IsTuple a its.toArray from ht).at fun o e => Heap.get?_push_of_some _ e⟩, fun b hb => ?_, by rw [List.size_toArray]; omega, CmpOf.ints_gt (fun i => ns.getD i 0) (fun i v z => ?_), fun v h' tk hv' hk => ?_⟩
  · show b < (s.heap.push _).objs.size
    rw [size_push']
    rcases List.mem_cons.mp hb with z | z
    · rw [z]
      exact Nat.lt_succ_self _
    · rw [List.mem_singleton.mp z]
      exact Nat.lt_succ_of_lt ha
  · exact PyProof.Rows.IntsAre.int_at hi i v (by simpa using z)
  · have hv2 : its[argBest (fun i j => decide (ns.getD i 0 > ns.getD j 0)) (its.toArray.size - 1)]? = some v := by
      have := hv'
      dsimp only at this
      rwa [List.getElem?_toArray] at this
    obtain ⟨t, rfl⟩ := PyProof.Rows.IntsAre.int_at hi _ v hv2
    obtain ⟨m1', m2'⟩ := argBest_gt (fun i => ns.getD i 0) (its.toArray.size - 1)
    have m1 : argBest (fun i j => decide (ns.getD i 0 > ns.getD j 0)) (its.toArray.size - 1) ≤ its.toArray.size - 1 := m1'
    have m2 : ∀ j, j ≤ its.toArray.size - 1 → ns.getD j 0 ≤ ns.getD (argBest (fun i j => decide (ns.getD i 0 > ns.getD j 0)) (its.toArray.size - 1)) 0 := m2'
    have hz : its.toArray.size = ns.length := by rw [List.size_toArray, ← hl]
    have hk2 : ∀ b o, s.heap.get? b = some o → h'.get? b = some o := fun b o e => hk b o (fun z => by rw [List.mem_singleton.mp z] at e; exact absurd (Heap.lt_size e) (Nat.lt_irrefl _)) (Heap.get?_push_of_some _ e)
    refine ⟨.int _, H, I.kept (t' := tk) hk2, ⟨t, rfl⟩, q _ (PySem.getD_mem (by omega)) fun y hy => ?_⟩
    obtain ⟨j, hj, e⟩ := List.mem_iff_getElem.mp hy
    have z := m2 j (by omega)
    have e3 : ns.getD j 0 = y := by rw [List.getD_eq_getElem?_getD, List.getElem?_eq_getElem hj, ← e] <;> rfl
    rw [e3] at z
    exact z
/-! ### min of a list of rows of ints -/
open PySem.W PySem.SeqAt
def toD (r : List Int) : PyData := .tuple (r.map .int)
def minR (r : List Int) (rs : List (List Int)) : List Int := rs.foldl (fun a y => if y < a then y else a) r
theorem minD_rows (r : List Int) : ∀ rs : List (List Int), minD (toD r) (rs.map toD) = toD (minR r rs) := by
  intro rs
  unfold minD minR
  induction rs generalizing r with
  | nil => rfl
  | cons y rs ih =>
    rw [List.map_cons, List.foldl_cons, List.foldl_cons]
    have e : (if dataLt (toD y) (toD r) = true then toD y else toD r) = toD (if y < r then y else r) := by
      have e2 : dataLt (toD y) (toD r) = decide (y < r) := by
        show dataLt (.tuple _) (.tuple _) = _
        rw [dataLt_tuple]
        exact dataLt_ints y r
      rw [e2]
      by_cases z : y < r
      · rw [if_pos (decide_eq_true z), if_pos z]
      · rw [if_neg (by simpa using z), if_neg z]
    rw [e]
    exact ih _
theorem alike_rows (xs : List (List Int)) : AlikeAll (xs.map toD) := by
  refine ⟨fun x hx y hy => ?_, fun x hx => ?_⟩
  · obtain ⟨a, _, rfl⟩ := List.mem_map.mp hx
    obtain ⟨b, _, rfl⟩ := List.mem_map.mp hy
    show alike (.tuple _) (.tuple _) = true
    simp only [alike]
    exact alike_ints a b
  · obtain ⟨a, _, rfl⟩ := List.mem_map.mp hx
    exact fun z => nomatch z
theorem depth_rows : ∀ xs : List (List Int), PyData.depthAll (xs.map toD) ≤ 1
  | [] => by simp [PyData.depthAll]
  | x :: xs => by
    have ih := depth_rows xs
    have h0 : ∀ r : List Int, PyData.depthAll (r.map .int) = 0 := by
      intro r
      induction r with
      | nil => simp [PyData.depthAll]
      | cons a r ih => simp [PyData.depthAll, PyData.depth, ih]
    simp only [List.map_cons, PyData.depthAll, toD, PyData.depth, h0]
    simp only [Nat.max_def]
    split <;> omega
theorem mapint_inj : ∀ {a b : List Int}, a.map PyData.int = b.map PyData.int → a = b
  | [], [], _ => rfl
  | [], _ :: _, h => by simp at h
  | _ :: _, [], h => by simp at h
  | x :: a, y :: b, h => by
    rw [List.map_cons, List.map_cons] at h
    have h1 := PyData.int.inj (List.cons.inj h).1
    rw [h1, mapint_inj (List.cons.inj h).2]
theorem cr_minRows (hc : X.calm = true) (hu : X.A.units + 64 < cLine) : CallR X (.builtin "min") (fun vs H Q => ∃ (a : Addr) (xs : List V) (r : List Int) (rs : List (List Int)), vs = [V.ref a] ∧ SqL X.K H a xs ∧ DpAll X.K H xs ((r :: rs).map toD) ∧
    ∀ (i : Nat) x, xs[i]? = some x → (r :: rs)[i]? = some (minR r rs) → Q x H) := by
  intro pins s σ H vs us Q I rr h
  obtain ⟨a, xs, r, rs, rfl, hs, hd, q⟩ := h
  rw [Vals.ref1 rr]
  obtain ⟨its, rv, hl, hz⟩ := I.list hs
  obtain ⟨as, hr⟩ := Dp.readsAll I _ xs its hd rv
  rw [List.map_cons] at hr
  have hdep := depth_rows (r :: rs)
  rw [List.map_cons] at hdep
  have hal := alike_rows (r :: rs)
  rw [List.map_cons] at hal
  refine min_list_data (vs := its.toArray) (I.ok.hd hc) hl.isList hr hal (by omega) fun i v h' tk bs hv hrd hk => ?_
  rw [minD_rows] at hrd
  have hv' : its[i]? = some v := by simpa using hv
  obtain ⟨x, hx, rx⟩ := Fy.vget rv hv'
  obtain ⟨bs2, h2, h3, h4, _⟩ := readsAll_at hr i v hv'
  have hk2 : Reads h' v ((toD r :: rs.map toD).getD i .none) bs2 := reads_keeps hk h2
  have hi : i < (r :: rs).length := by
    have := h3
    rw [List.length_cons, List.length_map] at this
    exact this
  have e1 : (toD r :: rs.map toD).getD i .none = toD ((r :: rs)[i]) := by
    rw [← List.map_cons, List.getD_eq_getElem?_getD, List.getElem?_map, List.getElem?_eq_getElem hi]
    rfl
  rw [e1] at hk2
  have e2 := alike_unique _ _ _ _ _ (show alike (toD (minR r rs)) (toD (r :: rs)[i]) = true by
    show alike (.tuple _) (.tuple _) = true
    simp only [alike]
    exact alike_ints _ _) hrd hk2
  have e3 : minR r rs = (r :: rs)[i] := by
    have : (minR r rs).map PyData.int = ((r :: rs)[i]).map PyData.int := PyData.tuple.inj e2
    exact mapint_inj this
  exact ⟨x, H, I.kept (t' := tk) hk, rx, q i x hx (by rw [List.getElem?_eq_getElem hi, e3])⟩
end
end L2
end
section
set_option linter.all false
set_option maxRecDepth 100000
set_option maxHeartbeats 4000000
namespace Fy
open PySem PySem.Spec PyProof.Rows L2
section
variable {X X' : Cx} {T : Tx} {k : Nat} {N : List Str} {sc : Scope} {vt st vt' st' : List Bool} {ρ ρ' : Rho} {h h1 h2 h3 h4 : HD} {H : Hp} {σ : Sl}
variable {e a b tg iter : Expr} {es tgs : List Expr} {d x y z : D} {ds res : List D} {bb : Bool} {pos : Pos} {E : EndsD} {p C : Addr} {is js : List Nat}
/-! ### a bare tuple -/
theorem lx_tupF {x1} {pos : Pos} (ha : LAX X es ρ h ds h1) (hz : ds.length ≤ 100000 := by first | decide | simp) : LX X (.Tuple es x1 pos) ρ h (.tupF ds) h1 := fun Q q =>
  le_of (pe_tupF pa_wa) fun σ H hs hr => ha.use hs hr fun vs H1 t r d1 => ⟨by rw [d1.length, sizeLine_eq]; omega, fun p ob hob hp => oq_of (t.trans (TupS.new hp)) (r.skip hp) (.tupF upd_same hob (d1.mono (TupS.new hp))) q⟩
theorem cb_lenTF : CB X (.builtin "len") [.tupF ds] h (.int ds.length) h := ⟨_, call_len_seq, fun H vs K r q k => by
  obtain ⟨v, rfl, dv⟩ := q.one_inv
  obtain ⟨p, o, ws, rfl, e1, _, d1⟩ := dv.tupF_inv
  exact ⟨p, ws, rfl, .inr (.inl (.inr ⟨o, e1⟩)), by rw [d1.length]; exact k _ H (TupS.refl H) r (.int _)⟩⟩
theorem li_tupF {R : List D → (HD → Prop) → HD → Prop} (ha : LX X a ρ h (.tupF ds) h1) (q : R ds (fun _ => True) h1) : LI X tg a ρ h R := ⟨_, pi_tup pe_we, fun σ H RR hs hh k => ha.use hs hh fun v H1 t1 r1 d1 => by
  obtain ⟨p, o, vs, rfl, e1, _, dv⟩ := d1.tupF_inv
  have sq : ∀ {HH}, TupS H1 HH → SqT X.K HH p vs := fun t => .inl (.inr ⟨o, t.frz _ _ _ e1⟩)
  refine ⟨p, rfl, ⟨vs, sq (TupS.refl _)⟩, k _ H1 ds _ h1 q t1 r1 ⟨fun HH => TupS H1 HH, ?_, fun _ _ _ _ t => t⟩⟩
  rw [← dv.length]
  refine (walk_tup (xs := vs)).mono (fun HH t => sq t) fun i HH x H' hi t y => ?_
  obtain ⟨rfl, y⟩ := y
  obtain ⟨d, e2, d2⟩ := dv.get' y
  exact ⟨TupS.refl _, fun _ r => r, d, e2, d2.mono t⟩⟩
/-- a cut of a bare tuple that is not the whole -/
theorem lx_cutTF {lo hi : Option Expr} {l u : Option Int} {p2 : Pos} (ha : LX X a ρ h (.tupF ds) h1) (hl : LO X lo ρ h1 l h2) (hh : LO X hi ρ h2 u h3) (hw : ¬ (HT.sIx ds.length 0 l = 0 ∧ HT.sIx ds.length ds.length u = ds.length)) : LX X (.Subscript a (.Slice lo hi none p2) pos) ρ h (.tup (cutD ds l u)) h3 := fun Q q => by
  obtain ⟨tl, pl, ql⟩ := hl
  obtain ⟨th, ph, qh⟩ := hh
  refine le_of (pe_slice sl_tup pe_we pl ph) fun σ H hs hr => ha.use hs hr fun v H1 t1 r1 d1 => ql σ H1 _ (hs.mono t1) r1 fun H2 t2 r2 => qh σ H2 _ (hs.mono (t1.trans t2)) r2 fun H3 t3 r3 => ?_
  obtain ⟨p, o, vs, rfl, e1, _, dd⟩ := (d1.mono (t2.trans t3)).tupF_inv
  have t := (t1.trans t2).trans t3
  exact ⟨p, vs, rfl, .inl (.inr ⟨o, e1⟩), by rw [dd.length]; exact hw, fun p hp => oq_of (t.trans (TupS.new hp)) (r3.skip hp) (.tup upd_same ((dd.cut l u).mono (TupS.new hp))) q⟩
theorem li_zipTF {R : List D → (HD → Prop) → HD → Prop} {elts : List Expr} {kk : Nat} {tpos p0 : Pos} (c : Ctx X T k N sc vt st) {es : List D} (ha : LX X a ρ h (.tupF ds) h1) (hb : LX X b ρ h1 (.tup es) h2) (hg : globB sc "zip" = true) (hm : T.mg "zip" = none) (q : R (zipD ds es) (fun _ => True) h2)
    (hs : starEach [a, b] X.env = (false, eval a X.env) :: starEach [b] X.env := by rfl) (hs2 : starEach [b] X.env = (false, eval b X.env) :: starEach [] X.env := by rfl) (hpl : (backTo pos (starEach [b] X.env)).any (·.1) = false := by rfl) : LI X (.Tuple elts kk tpos) (.Call (.Name "zip" p0) [a, b] [] pos) ρ h R :=
  ⟨_, RZ.pi_zipA (c.gl hg) (by rw [c.hmg]; exact hm) (pa_cons pe_we (pa_cons pe_we pa_nil hs2) hs) hs hpl, fun σ H RR hs hh k => ha.use hs hh fun v H1 t1 r1 d1 => hb.use (hs.mono t1) r1 fun w H2 t2 r2 d2 => by
    obtain ⟨pa, o, vs, rfl, e1, _, dv⟩ := (d1.mono t2).tupF_inv
    obtain ⟨pb, ws, rfl, e2, dw⟩ := d2.tup_inv
    have sq : ∀ {HH}, TupS H2 HH → SqT X.K HH pa vs := fun t => .inl (.inr ⟨o, t.frz _ _ _ e1⟩)
    refine ⟨pa, pb, vs, ws, rfl, .inr ⟨sq (TupS.refl _), SqT.of e2, k _ H2 _ _ h2 q (t1.trans t2) r2 ⟨fun HH => TupS H2 HH, ?_, fun _ _ _ _ t => t⟩⟩⟩
    refine ⟨fun i HH hi t => ?_, fun HH t => ?_, fun i HH x H' hi t y => ?_⟩
    · rw [zipD_len, ← dv.length, ← dw.length] at hi
      exact ⟨vs, ws, vs[i], ws[i], sq t, SqT.of (t _ _ e2), by simp [show i < vs.length by omega], by simp [show i < ws.length by omega]⟩
    · rw [zipD_len, ← dv.length, ← dw.length]
      exact ⟨vs, ws, sq t, SqT.of (t _ _ e2), by omega⟩
    · obtain ⟨Tt, x, y, rfl, hT, rfl, hx, hy⟩ := y
      have hx := hx vs (sq t)
      have hy := hy ws (SqT.of (t _ _ e2))
      obtain ⟨d, g1, q1⟩ := dv.get' hx
      obtain ⟨e, g2, q2⟩ := dw.get' hy
      have t3 := TupS.new (o := .tup [x, y]) hT
      have tt := t.trans t3
      exact ⟨t3, fun _ r => r.skip hT, _, zipD_get g1 g2, .tup upd_same (.cons (q1.mono tt) (.cons (q2.mono tt) .nil))⟩⟩
/-! ### dicts made -/
/-- dict(t) -/
theorem le_dictT1 {nm : Str} {p0 : Pos} {ks : List Key} {Q : D → HD → Prop} (c : Ctx X T k N sc vt st) (ha : LX X e ρ h (.tupF [.tup [.tup (ks.map kd), d]]) h1) (hg : globB sc nm = true) (hm : T.mg nm = none) (hv : bootBuiltins nm = some (.type "dict")) (q : ∀ p, h1 p = none → Q (.ref p) (updD h1 p (.dT [(ks, d)])))
    (hn : nm ≠ "__name__" := by decide) (hdb : (nm == ("__debug__" : Str)) = false := by decide) (he : starEach [e] X.env = (false, eval e X.env) :: starEach [] X.env := by rfl) :
    LE X (.Call (.Name nm p0) [e] [] pos) ρ h Q :=
  le_of (pe_callTy (cr_dictT1 c.calm c.hu64) (c.gl hg) (by rw [c.hmg]; exact hm) hv (pa_cons pe_we pa_nil he) hn hdb he rfl) fun σ H hs hh => ha.use hs hh fun v H1 t1 r1 d1 => by
    obtain ⟨pa, o, vs, rfl, e1, ho, dv⟩ := d1.tupF_inv
    obtain ⟨v1, rfl, dv1⟩ := dv.one_inv
    obtain ⟨pp, ws, rfl, e2, dw⟩ := dv1.tup_inv
    obtain ⟨w1, w2, rfl, q1, q2⟩ := dw.two_inv
    obtain ⟨pk, us, rfl, e3, du⟩ := q1.tup_inv
    rw [dens_kd du] at e3
    refine ⟨pa, pp, pk, o, ks, w2, rfl, ho, e1, e2, e3, fun p hp => ?_⟩
    exact oq_of (t1.trans (TupS.new hp)) (r1.new (o := .dT [(ks, d)]) hp (show PD H1 [(ks, w2)] [(ks, d)] from .cons ⟨rfl, q2⟩ .nil)) (.ref p) (q p (r1.none hp))
/-- {k: v}, k a tuple -/
theorem le_dispT {ke ve : Expr} {ks : List Key} {Q : D → HD → Prop} (c : Ctx X T k N sc vt st) (hk : ∀ hh, LX X ke ρ hh (.tup (ks.map kd)) hh) (hv : ∀ hh, LX X ve ρ hh d hh) (q : ∀ p, h p = none → Q (.ref p) (updD h p (.dT [(ks, d)])))
    (hshape : (evalEachOpt [some ke] X.env).zip ((evalEach [ve] X.env).map fun v => do let x ← v; standAt pos; pure x) = (pairTrees [some ke] [ve] X.env pos).map fun p => (some p.1, p.2) := by rfl) (h0 : pairTrees [some ke] [ve] X.env pos ≠ [] := by exact fun z => nomatch z) (h15 : (pairTrees [some ke] [ve] X.env pos).length ≤ 15 := by exact Nat.le_add_left 1 14) :
    LE X (.Dict [some ke] [ve] pos) ρ h Q := le_of (pe_dispT c.hu pe_we pe_we hshape h0 h15) fun σ H hs hh p hp => by
  have t0 := TupS.new (o := .dT []) hp
  have r0 : RelH (updD h p (.dT [])) (upd H p (.dT [])) := hh.new (o := .dT []) hp .nil
  refine (hk _).use (hs.mono t0) r0 fun u H1 t1 r1 d1 => (hv _).use (hs.mono (t0.trans t1)) r1 fun w H2 t2 r2 d2 => ?_
  obtain ⟨pk, us, rfl, e3, du⟩ := (d1.mono t2).tup_inv
  rw [dens_kd du] at e3
  obtain ⟨vs, e4, d4⟩ := r2.dT (a := p) (ds := []) updD_same
  cases d4
  have t3 : TupS H2 (upd H2 p (.dT [(ks, w)])) := TupS.set e4 fun _ z => nomatch z
  refine ⟨ks, pk, rfl, e3, e4, oq_of (((t0.trans t1).trans t2).trans t3) ?_ (.ref p) (q p (hh.none hp))⟩
  have := r2.set (o := .dT [(ks, d)]) (u := .dT [(ks, w)]) e4 (fun _ z => nomatch z) (show PD H2 [(ks, w)] [(ks, d)] from .cons ⟨rfl, d2⟩ .nil)
  rwa [updD_updD] at this
/-- {k: v for tg in iter}, the keys tuples; the key and the value leave the heap as it is -/
def DcW (X : Cx) (kx vx tg : Expr) (scope : Scope) (vs : List Nat) (ρ : Rho) (Q : D → HD → Prop) : List D → (HD → Prop) → HD → Prop := fun ds G h1 => ∀ p, h1 p = none → ∃ Pv : Nat → HD → Prop, Pv 0 (updD h1 p (.dT [])) ∧ (∀ i hh, Pv i hh → G hh) ∧
  (∀ i d hh, ds[i]? = some d → Pv i hh → ∃ is ρ2 ks v kvs, (∀ i ∈ is, i ∈ vs) ∧ (∀ X', Blk X scope X' → LG X' tg d (wipeD ρ vs) is fun ρ' => ρ' = ρ2) ∧ (∀ X', Blk X scope X' → LX X' kx ρ2 hh (.tup (ks.map kd)) hh) ∧ (∀ X', Blk X scope X' → LX X' vx ρ2 hh v hh) ∧
    hh p = some (.dT kvs) ∧ kvs.length < 100000 ∧ Fg (Pv (i + 1)) (updD hh p (.dT (putD kvs ks v)))) ∧ (∀ hh, Pv ds.length hh → Fg (Q (.ref p)) hh)
theorem wipe_idem : ∀ (vs : List Nat) (σ : Sl), L2.wipe (L2.wipe σ vs) vs = L2.wipe σ vs := by
  intro vs
  induction vs with
  | nil => intro σ; rfl
  | cons v vs ih =>
    intro σ
    show (L2.wipe ((L2.wipe σ vs).set v none) vs).set v none = (L2.wipe σ vs).set v none
    by_cases e : v ∈ vs
    · rw [wipe_set e, ih]
    · have : ∀ (vs : List Nat) (σ : Sl) (x : Option V), v ∉ vs → L2.wipe (σ.set v x) vs = (L2.wipe σ vs).set v x := by
        intro vs
        induction vs with
        | nil => intro σ x _; rfl
        | cons w ws ih =>
          intro σ x hn
          rw [List.mem_cons, not_or] at hn
          show (L2.wipe (σ.set v x) ws).set w none = ((L2.wipe σ ws).set w none).set v x
          rw [ih σ x hn.2, List.set_comm _ _ hn.1]
      rw [this vs _ _ e, ih, List.set_set]
theorem tdc_ok {kx vx : Expr} {scope : Scope} {vs : List Nat} {Q : D → HD → Prop} {wi : TI} {K : Sl → Hp → VK}
    (hi : ∀ σ H RR, DenS H σ ρ → RelH h H → (∀ J H1 ds G h1, DcW X kx vx tg scope vs ρ Q ds G h1 → TupS H H1 → RelH h1 H1 → (∃ GH : Hp → Prop, Walk J ds.length GH (YD ds) ∧ ∀ hh HH, G hh → RelH hh HH → TupS H1 HH → GH HH) → RR J H1) → wi σ H RR)
    (hK : ∀ σ H v H', DenS H σ ρ → RelH h H → OQ H Q v H' → K σ H v H') (hs : DenS H σ ρ) (hh : RelH h H) :
    tDcT wi (fun v σ H Q => ∀ X', Blk X scope X' → WG X' tg v σ H Q) (fun σ H Q => Q true H) (fun σ H Q => ∀ X', Blk X scope X' → WE X' kx σ H Q) (fun σ H Q => ∀ X', Blk X scope X' → WE X' vx σ H Q) vs σ H (K σ H) := by
  refine hi σ H _ hs hh fun J H1 ds G h1 R t1 r1 ⟨GH, w, gh⟩ p hp => ?_
  obtain ⟨Pv, p0, pG, step, done⟩ := R p (r1.none hp)
  refine ⟨fun i m H' => m = ds.length - i ∧ i ≤ ds.length ∧ TupS H1 H' ∧ ∃ hh, RelH hh H' ∧ Pv i hh, ⟨ds.length, by simp, Nat.zero_le _, TupS.new hp, _, r1.new (o := .dT []) hp .nil, p0⟩, ?_⟩
  rintro i m H' ⟨rfl, hle, t, hh', r, q⟩
  have gH : GH H' := gh hh' H' (pG i hh' q) r t
  by_cases hlt : i < ds.length
  · refine .inr ⟨w.goes i H' hlt gH, fun H2 => TupS H1 H2 ∧ ∃ hh, RelH hh H2 ∧ Pv (i + 1) hh, fun H2 q2 => ⟨ds.length - (i + 1), by omega, rfl, hlt, q2⟩, fun x H2 y => ?_⟩
    obtain ⟨t2, r2, d, e2, d2⟩ := w.yields i H' x H2 hlt gH y
    obtain ⟨is, ρ2, ks, v, kvs, his, g, fk, fv, ekv, hl, q3⟩ := step i d hh' e2 q
    have ds2 : DenS H2 (L2.wipe σ vs) (wipeD ρ vs) := (hs.mono ((t1.trans t).trans t2)).wipe vs
    intro X1 b1
    refine (g X1 b1 x _ H2 d2 ds2).mono fun σ3 H3 q4 => ?_
    obtain ⟨e3, ww, ρ3, hs3, q4⟩ := q4
    subst e3 q4
    refine ⟨by rw [ww vs his]; exact wipe_idem vs σ, ?_⟩
    show (if true = true then _ else _)
    rw [if_pos rfl]
    intro X2 b2
    refine (fk X2 b2).use hs3 (r2 hh' r) fun u H4 t4 r4 d4 => ?_
    intro X3 b3
    refine (fv X3 b3).use (hs3.mono t4) r4 fun u2 H5 t5 r5 d5 => ?_
    obtain ⟨pk, us, rfl, e6, du⟩ := (d4.mono t5).tup_inv
    rw [dens_kd du] at e6
    obtain ⟨ws, e7, d7⟩ := r5.dT ekv
    obtain ⟨h6, sb, q6⟩ := q3
    refine ⟨ws, ks, pk, rfl, e6, e7, by rw [PD.length d7, sizeLine_eq]; omega, (((t.trans t2).trans t4).trans t5).trans (TupS.set e7 fun _ z => nomatch z), h6, ?_, q6⟩
    exact RelH.sub (r5.set (o := .dT (putD kvs ks v)) e7 (fun _ z => nomatch z) (d7.put ks d5)) sb
  · have e : i = ds.length := by omega
    subst e
    refine .inl ⟨w.stops H' gH, ?_⟩
    obtain ⟨h6, sb, q6⟩ := done hh' q
    exact hK σ H _ H' hs hh ⟨t1.trans t, .ref p, h6, r.sub sb, .ref p, q6⟩
theorem le_dcT {kx vx : Expr} {scope : Scope} {own : List (Str × Nat)} {Q : D → HD → Prop} (c : Ctx X T k N sc vt st) (ok : blkC N sc scope own = true) (hi : LI X tg iter ρ h (DcW X kx vx tg scope (own.map (·.2)) ρ Q))
    (hs : ∀ x, foldedSetIterable iter X.env x = pure x := by intro _; rfl) : LE X (.DictComp kx vx [⟨tg, iter, [], 0⟩] scope pos) ρ h Q := by
  obtain ⟨wi, pi, hi⟩ := hi
  refine le_of (pe_dcT (own := own) (g := fun v σ H Q => ∀ X', Blk X scope X' → WG X' tg v σ H Q) (tt := fun σ H Q => Q true H) (tk := fun σ H Q => ∀ X', Blk X scope X' → WE X' kx σ H Q) (tv := fun σ H Q => ∀ X', Blk X scope X' → WE X' vx σ H Q) c.hu c.calm (by rw [c.hN]; exact c.nd) pi (by rw [c.hN, c.hsc]; exact blkOk_by ok)
    (fun s H C cl fp => ⟨fun pins s σ H v u Q I r h => h _ ⟨_, _, _, _, _, rfl⟩ pins s u I r⟩) (fun s H C cl fp => pts_nil) (fun s H C cl fp => ⟨fun pins s σ H Q I h => h _ ⟨_, _, _, _, _, rfl⟩ pins s I⟩) (fun s H C cl fp => ⟨fun pins s σ H Q I h => h _ ⟨_, _, _, _, _, rfl⟩ pins s I⟩) hs) fun σ H hs hh => ?_
  exact tdc_ok (K := fun _ H => OQ H Q) hi (fun _ _ _ _ _ _ q => q) hs hh
/-- y = {..} -/
theorem ls_setDcT {kx vx : Expr} {scope : Scope} {own : List (Str × Nat)} {y : Str} {py spos : Pos} (i : Nat) (c : Ctx X T k N sc vt st) (ok : blkC N sc scope own = true) (hy : N[i]? = some y) (hyl : sc.names.lookup y = some .local) (hk : sc.kind = .function) (hl : (py.line == pos.line) = true)
    (hsa : (scope.names.any fun (n, k) => n == y && (k == .local || k == .cell)) = false) (hi : LI X tg iter ρ h (DcW X kx vx tg scope (own.map (·.2)) ρ fun d h' => E.nx (ρ.set i (some d)) h'))
    (hs : ∀ x, foldedSetIterable iter X.env x = pure x := by intro _; rfl) : LS X (.Assign [.Name y py] (.DictComp kx vx [⟨tg, iter, [], 0⟩] scope pos) spos) ρ h E := by
  obtain ⟨wi, pi, hi⟩ := hi
  refine ls_of (ps_setDcT (i := i) (own := own) (g := fun v σ H Q => ∀ X', Blk X scope X' → WG X' tg v σ H Q) (tt := fun σ H Q => Q true H) (tk := fun σ H Q => ∀ X', Blk X scope X' → WE X' kx σ H Q) (tv := fun σ H Q => ∀ X', Blk X scope X' → WE X' vx σ H Q) c.hu c.calm (by rw [c.hN]; exact c.nd) (by rw [c.hN]; exact hy) (by rw [c.hsc]; exact hyl) (sw_trueD (by rw [c.hsc]; exact hk) (by rw [c.hsc]; exact hyl) hl hsa) pi (by rw [c.hN, c.hsc]; exact blkOk_by ok)
    (fun s H C cl fp => ⟨fun pins s σ H v u Q I r h => h _ ⟨_, _, _, _, _, rfl⟩ pins s u I r⟩) (fun s H C cl fp => pts_nil) (fun s H C cl fp => ⟨fun pins s σ H Q I h => h _ ⟨_, _, _, _, _, rfl⟩ pins s I⟩) (fun s H C cl fp => ⟨fun pins s σ H Q I h => h _ ⟨_, _, _, _, _, rfl⟩ pins s I⟩) hs) fun σ H hs hh => ?_
  exact tdc_ok (K := fun σ H v H' => OS H E.nx (σ.set i (some v)) H') hi (fun _ _ v H' hs _ q => by
    obtain ⟨t, d, h', r, e, q⟩ := q
    exact ⟨t, _, h', (hs.mono t).set e i, r, q⟩) hs hh
/-- y = [..], the text's own look -/
theorem ls_setLcF {elt : Expr} {ifs : List Expr} {scope : Scope} {own : List (Str × Nat)} {y : Str} {py spos : Pos} (i : Nat) (c : Ctx X T k N sc vt st) (ok : blkC N sc scope own = true) (hy : N[i]? = some y) (hyl : sc.names.lookup y = some .local) (hk : sc.kind = .function) (hl : (py.line == pos.line) = true)
    (hsa : (scope.names.any fun (n, k) => n == y && (k == .local || k == .cell)) = false) (hi : LI X tg iter ρ h (CompW X elt tg ifs scope (own.map (·.2)) ρ fun d h' => E.nx (ρ.set i (some d)) h'))
    (hs : ∀ x, foldedSetIterable iter X.env x = pure x := by intro _; rfl) : LS X (.Assign [.Name y py] (.ListComp elt [⟨tg, iter, ifs, 0⟩] scope pos) spos) ρ h E :=
  ls_setLc i c ok hy hyl (L2.sw_true (by rw [c.hsc]; exact hk) (by rw [c.hsc]; exact hyl) hl hsa) hi hs
end
end Fy
end
section
set_option linter.all false
set_option maxRecDepth 100000
set_option maxHeartbeats 4000000
namespace Fy
open PySem PySem.Spec PyProof.Rows L2
section
variable {X X' : Cx} {T : Tx} {k : Nat} {N : List Str} {sc : Scope} {vt st vt' st' : List Bool} {ρ ρ' : Rho} {h h1 h2 h3 h4 : HD} {H : Hp} {σ : Sl}
variable {e a b tg iter : Expr} {es tgs : List Expr} {d x y z : D} {ds res : List D} {bb : Bool} {pos : Pos} {E : EndsD} {p C : Addr} {is js : List Nat}
/-- max(d.values()) -/
theorem lx_maxV {apos cpos p0 : Pos} {kvs : List (List Key × D)} {ns : List Int} {m : Int} (c : Ctx X T k N sc vt st) (ha : LX X a ρ h (.ref p) h1) (hp : h1 p = some (.dT kvs)) (hn : kvs.map (·.2) = ns.map .int) (hm : m ∈ ns) (hle : ∀ y ∈ ns, y ≤ m) (hg : globB sc "max" = true) (hmg : T.mg "max" = none)
    (hbase : attributeBase a "values" X.env (eval a X.env) = eval a X.env := by rfl) (hline : (apos.endLine == cpos.line) = true := by rfl)
    (na : starEach [.Call (.Attribute a "values" apos) [] [] cpos] X.env = (false, eval (.Call (.Attribute a "values" apos) [] [] cpos) X.env) :: starEach [] X.env := by rfl) : LX X (.Call (.Name "max" p0) [.Call (.Attribute a "values" apos) [] [] cpos] [] pos) ρ h (.int m) h1 := fun Q q =>
  le_of (pe_maxV c.calm (c.gl hg) (by rw [c.hmg]; exact hmg) pe_we hbase hline na) fun σ H hs hh => ha.use hs hh fun u H1 t1 r1 d1 => by
    obtain ⟨vs, e1, pd⟩ := r1.dT hp
    refine ⟨p, vs, ns, d1.ref_inv, e1, ?_, List.length_pos_of_mem hm, fun m' h1' h2' => ?_⟩
    · have : ∀ {vs : List (List Key × V)} {ds : List (List Key × D)} {ns : List Int}, PD H1 vs ds → ds.map (·.2) = ns.map .int → vs.map (·.2) = ns.map V.int := by
        intro vs ds ns q
        induction q generalizing ns with
        | nil =>
          intro e
          cases ns with
          | nil => rfl
          | cons => cases e
        | @cons a b _ _ hh t ih =>
          intro e
          cases ns with
          | nil => cases e
          | cons n r =>
            rw [List.map_cons, List.map_cons] at e
            have e1 := (List.cons.inj e).1
            have e2 := (List.cons.inj e).2
            obtain ⟨_, hh⟩ := hh
            rw [e1] at hh
            rw [List.map_cons, List.map_cons, hh.int_inv, ih e2]
      exact this pd hn
    · have e3 : m' = m := Int.le_antisymm (hle m' h1') (h2' m hm)
      subst e3
      exact oq_of t1 r1 (.int _) q
/-- sorted(set(xs)), xs a new list of ints -/
theorem ll_sset {p0 p1 pos1 : Pos} {ns : List Int} (c : Ctx X T k N sc vt st) (ha : LL X a ρ h (ns.map .int)) (hl : ns.length < 63) (hr : ∀ ns' : List Int, ns'.Pairwise (· < ·) → (∀ k, k ∈ ns' ↔ k ∈ ns) → ns'.map D.int = res) (hg : globB sc "set" = true) (hm : T.mg "set" = none) (hg2 : globB sc "sorted" = true) (hm2 : T.mg "sorted" = none)
    (he : starEach [a] X.env = (false, eval a X.env) :: starEach [] X.env := by rfl) (he2 : starEach [.Call (.Name "set" p0) [a] [] pos1] X.env = (false, eval (.Call (.Name "set" p0) [a] [] pos1) X.env) :: starEach [] X.env := by rfl) :
    LL X (.Call (.Name "sorted" p1) [.Call (.Name "set" p0) [a] [] pos1] [] pos) ρ h res := fun Q q =>
  le_of (pe_callB (cr_sortedSet c.calm) (c.gl hg2) (by rw [c.hmg]; exact hm2) (by decide +kernel) (pa_cons (pe_callTy (cr_setL c.calm) (c.gl hg) (by rw [c.hmg]; exact hm) (by decide +kernel) (pa_cons pe_we pa_nil he) (by decide) (by decide) he rfl) pa_nil he2) (by decide) (by decide) he2 rfl) fun σ H hs hh => by
    refine (ha (fun d h' => ∃ b, h b = none ∧ d = .ref b ∧ h' = updD h b (.lst (ns.map .int))) fun b hb => ⟨b, hb, rfl, rfl⟩).use hs hh fun v H1 d h1 t1 r1 d1 ⟨b, hb, e1, e2⟩ => ?_
    subst e1 e2
    obtain ⟨ws, e3, dw⟩ := r1.lst (a := b) updD_same
    have e4 := dw.ints
    subst e4
    refine ⟨b, ns, by rw [d1.ref_inv], SqL.of e3, hl, fun p cc hcc hp => ?_⟩
    refine ⟨p, _, cc, rfl, upd_same, by omega, fun ns' p' hpw hmem hlen hp' => ?_⟩
    have hb' : RelH h H1 := r1.sub (Sub.new hb)
    have e5 := hr ns' hpw (fun k => by rw [hmem k]; simp)
    have r2 : RelH h (upd H1 p (SetO X.w p (fun j => decide (j ∈ ns)) cc)) := hb'.skip hp
    refine ⟨(t1.trans (TupS.new hp)).trans (TupS.new hp'), .ref p', _, r2.new (o := .lst res) hp' ?_, .ref p', q p' (r2.none hp')⟩
    rw [← e5]
    exact dens_ints ns'
/-- sorted(xs), ints -/
theorem ll_sorted {p1 : Pos} {ns : List Int} (c : Ctx X T k N sc vt st) (ha : LX X a ρ h (.ref p) h) (hp : h p = some (.lst (ns.map .int))) (hr : ∀ ns' : List Int, ns'.Pairwise (· ≤ ·) → ns'.Perm ns → ns'.map D.int = res) (hg2 : globB sc "sorted" = true) (hm2 : T.mg "sorted" = none)
    (he : starEach [a] X.env = (false, eval a X.env) :: starEach [] X.env := by rfl) : LL X (.Call (.Name "sorted" p1) [a] [] pos) ρ h res := fun Q q =>
  le_of (pe_callB cr_sortedI (c.gl hg2) (by rw [c.hmg]; exact hm2) (by decide +kernel) (pa_cons pe_we pa_nil he) (by decide) (by decide) he rfl) fun σ H hs hh => ha.use hs hh fun v H1 t1 r1 d1 => by
    obtain ⟨ws, e3, dw⟩ := r1.lst hp
    have e4 := dw.ints
    subst e4
    refine ⟨p, ns, by rw [d1.ref_inv], SqL.of e3, fun ns' p' hperm hpw hp' => ?_⟩
    rw [← hr ns' hpw hperm] at q
    exact lnew t1 r1 (dens_ints ns') hp' q
/-- sorted(d), the keys ints -/
theorem PD.keys {κ : Type} {H : Hp} : ∀ {vs : List (κ × V)} {ds : List (κ × D)}, PD H vs ds → vs.map (·.1) = ds.map (·.1) := by
  intro vs ds q
  induction q with
  | nil => rfl
  | cons h t ih => rw [List.map_cons, List.map_cons, h.1, ih]
theorem ll_sortedD {p1 : Pos} {kvs : List (Key × D)} {ns : List Int} (c : Ctx X T k N sc vt st) (ha : LX X a ρ h (.ref p) h) (hp : h p = some (.dK kvs)) (hk : kvs.map (·.1) = ns.map Sum.inl) (hl : ns.length < 64) (hr : ∀ ns' : List Int, ns'.Pairwise (· ≤ ·) → ns'.Perm ns → ns'.map D.int = res) (hg2 : globB sc "sorted" = true) (hm2 : T.mg "sorted" = none)
    (he : starEach [a] X.env = (false, eval a X.env) :: starEach [] X.env := by rfl) : LL X (.Call (.Name "sorted" p1) [a] [] pos) ρ h res := fun Q q =>
  le_of (pe_callB (call_sortedDI c.calm) (c.gl hg2) (by rw [c.hmg]; exact hm2) (by decide +kernel) (pa_cons pe_we pa_nil he) (by decide) (by decide) he rfl) fun σ H hs hh => ha.use hs hh fun v H1 t1 r1 d1 => by
    obtain ⟨ws, e3, dw⟩ := r1.dK hp
    refine ⟨p, ws, ns, by rw [d1.ref_inv], .inl e3, by rw [dw.keys]; exact hk, hl, fun ns' p' hperm hpw hp' => ?_⟩
    rw [← hr ns' hpw hperm] at q
    exact lnew t1 r1 (dens_ints ns') hp' q
/-- max(t), ints -/
theorem cb_maxTu (c : Ctx X T k N sc vt st) {ns : List Int} {m : Int} (hm : m ∈ ns) (hle : ∀ y ∈ ns, y ≤ m) : CB X (.builtin "max") [.tup (ns.map .int)] h (.int m) h :=
  ⟨_, cr_maxTu c.calm, fun H vs K r q k => by
    obtain ⟨v, rfl, dv⟩ := q.one_inv
    obtain ⟨p, ws, rfl, e1, d1⟩ := dv.tup_inv
    have e2 := d1.ints
    subst e2
    refine ⟨p, ns, rfl, SqT.of e1, List.length_pos_of_mem hm, fun m' h1 h2 => ?_⟩
    have e3 : m' = m := Int.le_antisymm (hle m' h1) (h2 m hm)
    subst e3
    exact k _ H (TupS.refl H) r (.int _)⟩
/-- min(xs), rows -/
theorem toPs_ints : ∀ r : List Int, D.toPs (r.map .int) = r.map .int
  | [] => by simp [D.toPs]
  | x :: r => by simp [D.toPs, D.toP, toPs_ints r]
theorem den_rows {K : PySem.W.Frag} : ∀ {vs : List V} {rs : List (List Int)}, Dens H vs (rs.map fun r => .tup (r.map .int)) → DpAll K H vs (rs.map toD)
  | [], [], _ => .nil
  | _ :: _, [], h => by cases h
  | [], _ :: _, h => by cases h
  | v :: vs, r :: rs, h => by
    rw [List.map_cons] at h ⊢
    cases h with
    | cons a b =>
      have q := dp_of (K := K) a (by simp [D.pure, pures_ints])
      have e : (D.tup (r.map .int)).toP = toD r := by
        simp only [D.toP, toD]
        rw [toPs_ints]
      rw [e] at q
      exact .cons q (den_rows b)
theorem cb_minRows (c : Ctx X T k N sc vt st) {r : List Int} {rs : List (List Int)} (hp : h p = some (.lst ((r :: rs).map fun r => .tup (r.map .int)))) : CB X (.builtin "min") [.ref p] h (.tup ((minR r rs).map .int)) h :=
  ⟨_, cr_minRows c.calm c.hu64, fun H vs K rh q k => by
    obtain ⟨v, rfl, dv⟩ := q.one_inv
    obtain ⟨ws, e1, d1⟩ := rh.lst hp
    refine ⟨p, ws, r, rs, by rw [dv.ref_inv], SqL.of e1, den_rows d1, fun i x hx hr => ?_⟩
    obtain ⟨d, e2, d2⟩ := d1.get' hx
    rw [List.getElem?_map, hr] at e2
    cases e2
    exact k x H (TupS.refl H) rh d2⟩
/-- t[::-1] -/
theorem lx_rev {kk : Nat} {p1 p2 p3 : Pos} (ha : LX X a ρ h (.tup ds) h1) : LX X (.Subscript a (.Slice none none (some (.UnaryOp .USub (.Constant (.int 1) kk p1) p2)) p3) pos) ρ h (.tup ds.reverse) h1 := fun Q q =>
  le_of (pe_revTu pe_we) fun σ H hs hh => ha.use hs hh fun v H1 t1 r1 d1 => by
    obtain ⟨p, ws, rfl, e1, dw⟩ := d1.tup_inv
    refine ⟨p, ws, rfl, SqT.of e1, fun p' hp' => oq_of (t1.trans (TupS.new hp')) (r1.skip hp') (.tup upd_same ?_) q⟩
    have rv : ∀ {vs : List V} {ds : List D}, Dens H1 vs ds → Dens H1 vs.reverse ds.reverse := by
      intro vs
      induction vs with
      | nil => intro ds q; cases q; exact .nil
      | cons v vs ih =>
        intro ds q
        cases q with
        | cons a b =>
          rw [List.reverse_cons, List.reverse_cons]
          exact (ih b).append (Dens.one a)
    exact (rv dw).mono (TupS.new hp')
/-- list(range(n)) -/
theorem ll_listRg {n : Int} {p0 p1 pos1 : Pos} (c : Ctx X T k N sc vt st) (ha : LX X a ρ h (.int n) h) (hn : 0 ≤ n) (hn2 : n ≤ 100000) (hg : globB sc "range" = true) (hm : T.mg "range" = none) (hg2 : globB sc "list" = true) (hm2 : T.mg "list" = none)
    (he : starEach [a] X.env = (false, eval a X.env) :: starEach [] X.env := by rfl) (he2 : starEach [.Call (.Name "range" p0) [a] [] pos1] X.env = (false, eval (.Call (.Name "range" p0) [a] [] pos1) X.env) :: starEach [] X.env := by rfl) :
    LL X (.Call (.Name "list" p1) [.Call (.Name "range" p0) [a] [] pos1] [] pos) ρ h (rngD 0 n.toNat) := fun Q q =>
  le_of (pe_listRg c.calm (c.gl hg2) (by rw [c.hmg]; exact hm2) (prg_1 (c.gl hg) (by rw [c.hmg]; exact hm) pe_we he) he2) fun σ H hs hh => ha.use hs hh fun v H1 t1 r1 d1 => by
    refine ⟨n, d1.int_inv, RgOk.of_le (by omega) (by omega) (by omega) (by omega), fun p' hp' => ?_⟩
    refine lnew t1 r1 ?_ hp' q
    unfold rgV rngD
    rw [Int.sub_zero]
    have : ∀ l : List Nat, Dens H1 (l.map fun i => V.int (0 + (i : Nat))) (l.map fun i => D.int (0 + (i : Nat))) := by
      intro l
      induction l with
      | nil => exact .nil
      | cons x l ih => exact .cons (.int _) ih
    exact this _
/-- one or the other, of any kind -/
theorem le_if {c1 : Expr} {b1 : Bool} {Q : D → HD → Prop} (hc : LB X c1 ρ h b1 h1) (ha : b1 = true → LE X a ρ h1 Q) (hb : b1 = false → LE X b ρ h1 Q) : LE X (.IfExp c1 a b pos) ρ h Q :=
  le_of (pe_ifExp pt_wt pe_we pe_we) fun σ H hs hr => hc.use hs hr fun H1 t r => by
    cases b1 with
    | true => exact iteT ((ha rfl).use (hs.mono t) r fun v H2 d h2 t2 r2 d2 q => oq_of (t.trans t2) r2 d2 q)
    | false => exact iteF ((hb rfl).use (hs.mono t) r fun v H2 d h2 t2 r2 d2 q => oq_of (t.trans t2) r2 d2 q)
/-- xs.index(m) -/
theorem lx_index {apos cpos : Pos} {ns : List Int} {m : Int} {j : Nat} (ha : LX X a ρ h (.ref p) h1) (hp1 : h1 p = some (.lst (ns.map .int))) (hb : LX X e ρ h1 (.int m) h2) (hp : h2 p = some (.lst (ns.map .int))) (hj : ns[j]? = some m) (hno : ∀ i, i < j → ns[i]? ≠ some m)
    (hbase : attributeBase a "index" X.env (eval a X.env) = eval a X.env := by rfl)
    (hfew : ((backTo cpos (starEach [e] X.env)).all (fun x => !x.1) && (backToKw cpos (keywordEach [] X.env)).all (fun x => x.1.isSome) && decide (([e] : List Expr).length + ([] : List Keyword).length + (if ([] : List Keyword).isEmpty then 0 else 1) < 30)) = true := by rfl)
    (hline : (apos.endLine == cpos.line) = true := by rfl) (hs : starEach [e] X.env = (false, eval e X.env) :: starEach [] X.env := by rfl) : LX X (.Call (.Attribute a "index" apos) [e] [] cpos) ρ h (.int j) h2 := fun Q q =>
  le_of (pe_bm PySem.F.plainAttrs_list PySem.F.slot_list_index PySem.F.type_list_index mt_index pe_we (pa_cons pe_we pa_nil hs) hbase hfew hline hs rfl) fun σ H hs hh => ha.use hs hh fun u H1 t1 r1 d1 => by
    rw [d1.ref_inv]
    obtain ⟨vs, e1, _⟩ := r1.lst hp1
    refine ⟨.inl ⟨rfl, vs, SqL.of e1⟩, hb.use (hs.mono t1) r1 fun v H2 t2 r2 d2 => ?_⟩
    obtain ⟨ws, e3, dw⟩ := r2.lst hp
    have e4 := dw.ints
    subst e4
    rw [d2.int_inv]
    refine ⟨p, _, .int m, j, .int m, rfl, rfl, SqL.of e3, rfl, List.all_eq_true.mpr fun v hv => by obtain ⟨n, _, rfl⟩ := List.mem_map.mp hv; rfl, by rw [List.getElem?_map, hj]; rfl, by show (m == m) = true; simp, fun i z' hi hz => ?_, oq_of (t1.trans t2) r2 (.int _) q⟩
    rw [List.getElem?_map] at hz
    cases hq : ns[i]? with
    | none => rw [hq] at hz; cases hz
    | some n =>
      rw [hq] at hz
      cases hz
      show (n == m) = false
      exact beq_eq_false_iff_ne.mpr fun z => hno i hi (by rw [hq, z])
/-- two dicts that say the same -/
theorem f2_neDct {p' : Addr} {ks ls : List (Key × D)} (c : Ctx X T k N sc vt st) (hp : h p = some (.dK ks)) (hp' : h p' = some (.dK ls)) (hl : ks.length = ls.length) (hv : ∀ kv ∈ ks, ∃ i, kv.2 = .int i ∧ valD ls kv.1 = some (.int i)) : F2 X (compareOp .NotEq) (.ref p) (.ref p') h (.bl false) :=
  ⟨_, op_ne_dictA (Nat.lt_of_succ_lt c.hu), fun H u v K r a b q => by
    obtain ⟨vs, e1, d1⟩ := r.dK hp
    obtain ⟨ws, e2, d2⟩ := r.dK hp'
    refine ⟨p, p', vs, ws, a.ref_inv, b.ref_inv, e1, e2, by rw [PD.length d1, PD.length d2, hl], fun kv hkv => ?_, q _ H (TupS.refl H) r (.bl false)⟩
    obtain ⟨i, hi⟩ := List.mem_iff_getElem?.mp hkv
    obtain ⟨kd', g1, g2, g3⟩ := pget d1 hi
    obtain ⟨n, hn1, hn2⟩ := hv kd' (List.mem_of_getElem? g1)
    rw [hn1] at g3
    have e5 := g3.int_inv
    obtain ⟨w, e6, e7⟩ := (d2.val kd'.1 |> fun o => (show OD H (valV ws kd'.1) (some (.int n)) from hn2 ▸ o)).some_inv
    rw [g2, e5, e6, e7.int_inv]
    exact ⟨rfl, rfl⟩⟩
/-! ### a written dict: texts to ints -/
def mergeD (kvs more : List (Key × D)) : List (Key × D) := more.foldl (fun acc kv => putD acc kv.1 kv.2) kvs
theorem PD.merge {H : Hp} : ∀ {more : List (Key × V)} {md : List (Key × D)} {kvs : List (Key × V)} {kd : List (Key × D)}, PD H more md → PD H kvs kd → PD H (mergeK kvs more) (mergeD kd md) := by
  intro more md kvs kd q
  induction q generalizing kvs kd with
  | nil => intro h; exact h
  | @cons a b _ _ h t ih =>
    intro q
    refine ih (kvs := putK kvs a.1 a.2) (kd := putD kd b.1 b.2) ?_
    rw [h.1]
    exact q.put b.1 h.2
def LPs (X : Cx) (pos : Pos) (keys : List (Option Expr)) (values : List Expr) (ρ : Rho) (kds : List (Key × D)) : Prop :=
  ∃ trs, PPs X pos keys values trs ∧ ∀ (σ : Sl) (H : Hp) (h : HD) (K : List (V × V) → Hp → Prop), DenS H σ ρ → RelH h H → (∀ (kvs : List (Key × V)) H', TupS H H' → RelH h H' → PD H' kvs kds → K (kvs.map fun kv => (kV kv.1, kv.2)) H') → tPairs trs σ H K
theorem lps_nil : LPs X pos [] [] ρ [] := ⟨[], pps_nil, fun σ H h K hs hh q => q [] H (TupS.refl H) hh .nil⟩
theorem lps_cons {s : Str} {kk : Nat} {pk : Pos} {ve : Expr} {ks : List (Option Expr)} {vs : List Expr} {kds : List (Key × D)} (hv : ∀ hh, LX X ve ρ hh d hh) (hr : LPs X pos ks vs ρ kds) : LPs X pos (some (.Constant (.str s) kk pk) :: ks) (ve :: vs) ρ ((.inr s, d) :: kds) := by
  obtain ⟨trs, pp, f⟩ := hr
  refine ⟨(_, _) :: trs, pps_cons pe_we pe_we pp, fun σ H h K hs hh q => ?_⟩
  refine (show LX X (.Constant (.str s) kk pk) ρ h (.str s) h from lx_str).use hs hh fun v H1 t1 r1 d1 => (hv h).use (hs.mono t1) r1 fun w H2 t2 r2 d2 => ?_
  refine f σ H2 h _ (hs.mono (t1.trans t2)) r2 fun kvs H3 t3 r3 pd => ?_
  have := q ((.inr s, w) :: kvs) H3 ((t1.trans t2).trans t3) r3 (.cons ⟨rfl, d2.mono t3⟩ pd)
  rw [List.map_cons] at this
  rw [d1.str_inv]
  exact this
theorem le_disp {keys : List (Option Expr)} {values : List Expr} {kds : List (Key × D)} {Q : D → HD → Prop} (hp : LPs X pos keys values ρ kds) (hall : keys.all (·.isSome) = true) (hl : keys.length = values.length) (h0 : keys ≠ []) (h15 : keys.length ≤ 15) (hk : kds.length ≤ 15)
    (q : ∀ p, h p = none → Q (.ref p) (updD h p (.dK (mergeD [] kds)))) : LE X (.Dict keys values pos) ρ h Q := by
  obtain ⟨trs, pp, f⟩ := hp
  refine le_of (pe_disp pp hall hl h0 h15) fun σ H hs hh p hp => ?_
  have t0 := TupS.new (o := .dK []) hp
  have r0 : RelH (updD h p (.dK [])) (upd H p (.dK [])) := hh.new (o := .dK []) hp .nil
  refine f σ _ _ _ (hs.mono t0) r0 fun kvs H1 t1 r1 pd => ?_
  obtain ⟨vs, e4, d4⟩ := r1.dK (a := p) (ds := []) updD_same
  cases d4
  have t2 : TupS H1 (upd H1 p (.dK (mergeK [] kvs))) := TupS.set e4 fun _ z => nomatch z
  refine ⟨e4, kvs, rfl, by rw [PD.length pd]; exact hk, oq_of ((t0.trans t1).trans t2) ?_ (.ref p) (q p (hh.none hp))⟩
  have := r1.set (o := .dK (mergeD [] kds)) (u := .dK (mergeK [] kvs)) e4 (fun _ z => nomatch z) (show PD H1 (mergeK [] kvs) (mergeD [] kds) from pd.merge .nil)
  rwa [updD_updD] at this
/-- {..}.get(y, x) -/
theorem lx_dgetN {apos : Pos} {r : Option D} {kds : List (Key × D)} {ky : Key} (c : Ctx X T k N sc vt st) (ha : ∀ Q : D → HD → Prop, (∀ p, h p = none → Q (.ref p) (updD h p (.dK kds))) → LE X a ρ h Q) (hb : ∀ hh, Sub h hh → LX X b ρ hh (kd ky) hh) (he : ∀ hh, LX X e ρ hh x hh) (hr : valD kds ky = r) (m : M2 X a "get" apos b e pos) : LX X (.Call (.Attribute a "get" apos) [b, e] [] pos) ρ h (r.getD x) h := fun Q q =>
  le_of (pe_dget2 c.hu pe_we pe_we pe_we m) fun σ H hs hh => by
    refine (ha (fun d h' => ∃ b, h b = none ∧ d = .ref b ∧ h' = updD h b (.dK kds)) fun b hb => ⟨b, hb, rfl, rfl⟩).use hs hh fun v H1 d h1 t1 r1 d1 ⟨p, hp, e1, e2⟩ => ?_
    subst e1 e2
    obtain ⟨vs, e3, _⟩ := r1.dK (a := p) (ds := kds) updD_same
    refine ⟨p, d1.ref_inv, .inl ⟨vs, .inl e3⟩, (hb _ (Sub.new hp)).use (hs.mono t1) r1 fun v H2 t2 r2 d2 => (he _).use (hs.mono (t1.trans t2)) r2 fun w H3 t3 r3 d3 => ?_⟩
    obtain ⟨r', g', o⟩ := (DGD.ofK (k := ky) (h := updD h p (.dK kds)) (p := p) updD_same).get r3 (d2.mono t3)
    rw [hr] at o
    refine ⟨r', g', oq_of ((t1.trans t2).trans t3) (r3.sub (Sub.new hp)) ?_ q⟩
    cases r' <;> cases r <;> first | exact d3 | exact o | exact False.elim o
/-! ### the module's own dict -/
theorem lb_inKD {dA : Addr} {es' : Array DictEntry} {n : Nat} {s : Str} {r : Option Value} (c : Ctx X T k N sc vt st) (D : KDict T.K T.w dA es' n) (hb : LX X b ρ h (.str s) h1) (ha : LX X a ρ h1 (.ref dA) h2) (g : PySem.W.nsIn T.K dA s = some r) (hm : behindInMarks .In a = false := by rfl) : LX X (.Compare b [.In] [a] pos) ρ h (.bl r.isSome) h2 :=
  lx_cmp hb ha ⟨_, op_in_kd (by rw [c.hK, c.hw]; exact D), fun H u v K rr a b q => ⟨s, r, a.str_inv, b.ref_inv, by rw [c.hK]; exact g, q _ H (TupS.refl H) rr (.bl _)⟩⟩ hm
theorem ix2_KD {dA : Addr} {s : Str} {i : Int} (c : Ctx X T k N sc vt st) (g : KDct T.K T.w dA s (.int i)) : Ix2 X (.ref dA) (.str s) h (.int i) :=
  ⟨_, ix_kdict, fun H u v K rr a b q => ⟨dA, s, .int i, a.ref_inv, b.str_inv, by rw [c.hK, c.hw]; exact g, q _ (.int i)⟩⟩
theorem lx_globR (c : Ctx X T k N sc vt st) {nm : Str} {pos : Pos} {dA : Addr} (g : globB sc nm = true) (hm : T.mg nm = some (.ref dA)) (hd : (nm == ("__debug__" : Str)) = false := by decide) : LX X (.Name nm pos) ρ h (.ref dA) h :=
  fun Q q => le_of (pe_glob (v := .ref dA) (c.gl g) (by rw [c.hmg]; exact hm) rfl hd) fun σ H hs hh => oq_of (TupS.refl H) hh (.ref dA) q
end
end Fy
end
section
set_option linter.all false
set_option maxRecDepth 100000
set_option maxHeartbeats 4000000
namespace Fy
open PySem PySem.Spec PyProof.Rows L2
section
variable {X X' : Cx} {T : Tx} {k : Nat} {N : List Str} {sc : Scope} {vt st vt' st' : List Bool} {ρ ρ' : Rho} {h h1 h2 h3 h4 : HD} {H : Hp} {σ : Sl}
variable {e a b tg iter : Expr} {es tgs : List Expr} {d x y z : D} {ds res : List D} {bb : Bool} {pos : Pos} {E : EndsD} {p C : Addr} {is js : List Nat}
/-- isinstance(x, C), x an instance of C -/
theorem cb_isiIns {fs : List (Str × D)} (c : Ctx X T k N sc vt st) (hp : h p = some (.ins C fs)) (I : C8.InsC T.K C) : CB X (.builtin "isinstance") [.ref p, .ref C] h (.bl true) h := ⟨_, call_isi, fun H vs K r q k => by
  obtain ⟨v, w, rfl, dv, dw⟩ := q.two_inv
  obtain ⟨dx, fs', e1, _⟩ := r.ins hp
  rw [dv.ref_inv, dw.ref_inv]
  refine ⟨_, _, .ref C, .ref C, true, rfl, .own C, .base (.ins e1 (by rw [c.hK]; exact I.cl) (by rw [c.hK]; exact I.ha) (by rw [c.hK]; exact I.hn) (by rw [c.hK]; exact I.htk) (by rw [c.hK]; exact I.hm)), ?_, k _ H (TupS.refl H) r (.bl true)⟩
  unfold PySem.W.kitOne
  rw [if_pos (by simp)]⟩
/-- isinstance(x, (list, tuple)), x a list or a tuple -/
theorem isi_lt {K : PySem.W.Frag} {v : V} {n : String} (hn : n = "list" ∨ n = "tuple") : PySem.W.kitAny K (.type n) [.type "list", .type "tuple"] = some true := by
  rcases hn with rfl | rfl
  · exact kitAny_cons (b := true) (kit_ty (by decide +kernel)) (fun z => nomatch z) fun _ => rfl
  · exact kitAny_cons (b := false) (kit_ty (by decide +kernel)) (fun _ => kitAny_cons (b := true) (kit_ty (by decide +kernel)) (fun z => nomatch z) fun _ => rfl) (fun z => nomatch z)
theorem cb_isiLT (hx : (∃ ds, x = .tup ds) ∨ ∃ p ds, x = .ref p ∧ h p = some (.lst ds)) : CB X (.builtin "isinstance") [x, .tup [.ty "list", .ty "tuple"]] h (.bl true) h := ⟨_, call_isiT, fun H vs K r q k => by
  obtain ⟨v, w, rfl, dv, dw⟩ := q.two_inv
  obtain ⟨pt, us, rfl, e1, du⟩ := dw.tup_inv
  obtain ⟨u1, u2, rfl, q1, q2⟩ := du.two_inv
  rw [q1.ty_inv, q2.ty_inv] at e1
  rcases hx with ⟨ds, rfl⟩ | ⟨p, ds, rfl, hp⟩
  · exact ⟨v, pt, _, .type "tuple", [.type "list", .type "tuple"], true, rfl, e1, .cons (.ty _) (.cons (.ty _) .nil), den_ty dv (show ("tuple" : String) ≠ "" by decide), isi_lt (v := v) (.inr rfl), k _ H (TupS.refl H) r (.bl true)⟩
  · obtain ⟨ws, e2, _⟩ := r.lst hp
    rw [dv.ref_inv]
    exact ⟨_, pt, _, .type "list", [.type "list", .type "tuple"], true, rfl, e1, .cons (.ty _) (.cons (.ty _) .nil), .base (.lst e2), isi_lt (v := v) (.inl rfl), k _ H (TupS.refl H) r (.bl true)⟩⟩
/-- a op1 b op2 c, as a test -/
theorem lb_chain {op op' : CmpOp} {pos : Pos} {cc : Expr} {w : D} {b1 b2 : Bool} (ha : LX X a ρ h x h1) (hb : LX X b ρ h1 y h2) (ho : F2 X (compareOp op) x y h2 (.bl b1)) (hc : b1 = true → LX X cc ρ h2 w h3) (ho' : b1 = true → F2 X (compareOp op') y w h3 (.bl b2)) (hh : b1 = false → h3 = h2)
    (hm : lastMarks [op, op'] [b, cc] = false := by with_unfolding_all rfl) : LB X (.Compare a [op, op'] [b, cc] pos) ρ h (b1 && b2) h3 := fun Q q => by
  obtain ⟨r, o, hr⟩ := ho
  cases b1 with
  | true =>
    obtain ⟨r', o', hr'⟩ := ho' rfl
    exact lt_of' (pt_chain o o' pe_we pe_we pe_we hm) fun σ H hs hh => ha.use hs hh fun u H1 t1 r1 d1 => hb.use (hs.mono t1) r1 fun v H2 t2 r2 d2 => hr H2 u v _ r2 (d1.mono t2) d2 fun w H3 t3 r3 d3 =>
      ⟨true, d3.bl_inv, iteT ((hc rfl).use (hs.mono ((t1.trans t2).trans t3)) r3 fun w4 H4 t4 r4 d4 => hr' H4 v w4 _ r4 (d2.mono (t3.trans t4)) d4 fun w5 H5 t5 r5 d5 => ⟨b2, d5.bl_inv, (((t1.trans t2).trans t3).trans t4).trans t5, _, r5, q⟩)⟩
  | false =>
    have e3 := hh rfl
    subst e3
    exact lt_of' (pt_chain o (r' := fun _ _ _ _ => False) (fun _ _ _ _ _ _ _ _ _ _ _ _ z => z.elim) pe_we pe_we pe_we hm) fun σ H hs hh => ha.use hs hh fun u H1 t1 r1 d1 => hb.use (hs.mono t1) r1 fun v H2 t2 r2 d2 => hr H2 u v _ r2 (d1.mono t2) d2 fun w H3 t3 r3 d3 =>
      ⟨false, d3.bl_inv, iteF ⟨false, rfl, (t1.trans t2).trans t3, _, r3, q⟩⟩
end
end Fy
end
section
set_option linter.all false
/-! the plain functions that the program computes -/
namespace Fy
/-- a piece goes past the next one -/
def exch {α : Type} (r : List α) (a b c : Nat) : List α := r.take a ++ (r.drop b).take (c - b) ++ (r.drop a).take (b - a) ++ r.drop c
/-- all exchanges of n lanes, in the text's order -/
def exsA (n a : Nat) : List (Nat × Nat × Nat) := (List.range (n - 1 - a)).flatMap fun j => (List.range (n - (a + 1 + j))).map fun l => (a, a + 1 + j, a + 1 + j + 1 + l)
def exs (n : Nat) : List (Nat × Nat × Nat) := (List.range (n - 1)).flatMap (exsA n)
/-- all rows of n lanes with the letters ls, ascending where ls is -/
def rowsOf (ls : List Int) : Nat → List (List Int)
  | 0 => [[]]
  | n + 1 => (rowsOf ls n).flatMap fun r => ls.map fun l => r ++ [l]
def lets (q : Nat) : List Int := (List.range q).map fun (i : Nat) => (i : Int)
/-- the first place of l in row from place i on -/
def nextP (row : List Int) (l : Int) : Nat → Option Nat := fun i => ((List.range (row.length - i)).find? fun j => row[i + j]? == some l).map (i + ·)
def wayOf (row : List Int) : List Int → Nat → Option (List Nat)
  | [], _ => some []
  | l :: r, i => match nextP row l i with
    | none => none
    | some j => (wayOf row r j).map (j :: ·)
def thin (row out : List Int) : Bool := (wayOf row out 0).isSome
/-! ### steps and nets -/
inductive Stp where
  | dbl (k : Nat) | strk (k : Nat) | fly (a b c : Nat) | cho (k w p : Nat) (key : List Int) (o : Nat)
/-- may it stand on m lanes (not yet: does it leave one) -/
def Stp.ok (q m : Nat) : Stp → Bool
  | .dbl k => decide (k < m)
  | .strk k => decide (k < m)
  | .fly a b c => decide (a < b ∧ b < c ∧ c ≤ m)
  | .cho k w p key o => decide (k < m ∧ 2 ≤ w ∧ w ≤ 3 ∧ k + w ≤ m ∧ p < w ∧ key.length = w ∧ (∀ x ∈ key, 0 ≤ x ∧ x < q) ∧ o < w)
def Stp.after (m : Nat) : Stp → Nat
  | .dbl _ => m + 1
  | .strk _ => m - 1
  | .fly _ _ _ => m
  | .cho _ w _ _ _ => m + 1 - w
def Stp.can (q m : Nat) (s : Stp) : Bool := s.ok q m && decide (1 ≤ s.after m ∧ s.after m ≤ 1000)
/-- the lanes behind the steps -/
def lanesB (m : Nat) (ss : List Stp) : Nat := ss.foldl (fun m s => s.after m) m
/-- all can be -/
def cans (q : Nat) : Nat → List Stp → Bool
  | _, [] => true
  | m, s :: ss => s.can q m && cans q (s.after m) ss
/-- one step on lanes that bear f -/
def Stp.run {α : Type} (f : α → Int) (s : Stp) (L : List α) : List α := match s with
  | .dbl k => L.take (k + 1) ++ L.drop k
  | .strk k => L.take k ++ L.drop (k + 1)
  | .fly a b c => exch L a b c
  | .cho k w p key o => L.take k ++ ((L.drop (k + (if ((L.drop k).take w).map f = key then o else p))).take 1) ++ L.drop (k + w)
def runs {α : Type} (f : α → Int) (ss : List Stp) (L : List α) : List α := ss.foldl (fun L s => s.run f L) L
/-- where the letters of the lanes out came from -/
def srcs (row : List Int) (ss : List Stp) : List Nat := runs (fun i => row.getD i 0) ss (List.range row.length)
def outOf (row : List Int) (ss : List Stp) : List Int := (srcs row ss).map fun i => row.getD i 0
def Stp.isFly : Stp → Bool
  | .fly _ _ _ => true
  | _ => false
def flies (ss : List Stp) : Nat := (ss.filter Stp.isFly).length
/-! ### going through by exchanges -/
abbrev BW := List (List Int × Nat)
def bAdd (d : Nat) (W : BW) (t : List Int) : BW := if t ∈ W.map (·.1) then W else W ++ [(t, d + 1)]
def bTurn (es : List (Nat × Nat × Nat)) (W : BW) (r : List Int) (d : Nat) : BW := es.foldl (fun W e => bAdd d W (exch r e.1 e.2.1 e.2.2)) W
def bfs (es : List (Nat × Nat × Nat)) (W0 : BW) : Nat → BW
  | 0 => W0
  | k + 1 => match (bfs es W0 k)[k]? with
    | some p => bTurn es (bfs es W0 k) p.1 p.2
    | none => bfs es W0 k
def rises : List Int → Bool
  | x :: y :: r => decide (x ≤ y) && rises (y :: r)
  | _ => true
end Fy
end
section
set_option linter.all false
set_option maxRecDepth 100000
set_option maxHeartbeats 4000000
namespace Fy
open PySem PySem.Spec PyProof.Rows L2
/-! ### the text by places -/
def topS (i : Nat) : Stmt := PySem.Challenge.pw_flyovers_k66_whole_knots_of_nets.main.body.getD i (.Pass ⟨0, 0, 0, 0⟩)
abbrev s_wall : Stmt := topS 0
abbrev n_wall : List Str := ["k"]
abbrev v_wall : List Bool := [true]
abbrev s_is_integer : Stmt := topS 11
abbrev n_is_integer : List Str := ["thing"]
abbrev v_is_integer : List Bool := [true]
abbrev s_is_between : Stmt := topS 12
abbrev n_is_between : List Str := ["thing", "least", "most"]
abbrev v_is_between : List Bool := [true, true, true]
abbrev s_is_index : Stmt := topS 13
abbrev n_is_index : List Str := ["thing", "many"]
abbrev v_is_index : List Bool := [true, true]
abbrev s_check_number : Stmt := topS 14
abbrev n_check_number : List Str := ["thing", "least", "most"]
abbrev v_check_number : List Bool := [true, true, true]
abbrev s_power_of : Stmt := topS 15
abbrev n_power_of : List Str := ["number", "times", "found", "_"]
abbrev v_power_of : List Bool := [true, true, true, true]
abbrev s_is_row : Stmt := topS 20
abbrev n_is_row : List Str := ["thing", "letter"]
abbrev v_is_row : List Bool := [true, false]
abbrev s_rows_of : Stmt := topS 21
abbrev n_rows_of : List Str := ["letters", "lanes", "found", "_", "longer", "row", "letter"]
abbrev v_rows_of : List Bool := [true, true, true, true, true, true, false]
abbrev s_check_listed : Stmt := topS 22
abbrev n_check_listed : List Str := ["letters", "lanes"]
abbrev v_check_listed : List Bool := [true, true]
abbrev s_next_place : Stmt := topS 24
abbrev n_next_place : List Str := ["row", "first", "letter", "place"]
abbrev v_next_place : List Bool := [true, true, true, true]
abbrev s_way_of : Stmt := topS 25
abbrev n_way_of : List Str := ["row", "out", "found", "place", "letter"]
abbrev v_way_of : List Bool := [true, true, true, true, true]
abbrev s_is_exchange : Stmt := topS 28
abbrev n_is_exchange : List Str := ["thing", "lanes"]
abbrev v_is_exchange : List Bool := [true, true]
abbrev s_exchanged_by : Stmt := topS 29
abbrev n_exchanged_by : List Str := ["row", "a", "b", "c"]
abbrev v_exchanged_by : List Bool := [true, true, true, true]
abbrev s_all_exchanges : Stmt := topS 30
abbrev n_all_exchanges : List Str := ["lanes", "found", "a", "b", "c"]
abbrev v_all_exchanges : List Bool := [true, true, true, true, false]
abbrev s_spread_from : Stmt := topS 31
abbrev n_spread_from : List Str := ["starts", "lanes", "found", "row", "waiting", "every", "at", "a", "b", "c", "there"]
abbrev v_spread_from : List Bool := [true, true, true, true, true, true, true, true, true, true, true]
abbrev s_outs_of : Stmt := topS 32
abbrev n_outs_of : List Str := ["row", "lanes", "letters", "found", "_", "longer", "out", "letter"]
abbrev v_outs_of : List Bool := [true, true, true, true, true, true, true, false]
abbrev s_is_letters : Stmt := topS 36
abbrev n_is_letters : List Str := ["thing", "many", "letters", "letter"]
abbrev v_is_letters : List Bool := [true, true, true, false]
abbrev s_are_others : Stmt := topS 37
abbrev n_are_others : List Str := ["thing", "wide", "letters", "pair", "one", "other"]
abbrev v_are_others : List Bool := [true, true, true, true, false, false]
abbrev s_is_step_form : Stmt := topS 38
abbrev n_is_step_form : List Str := ["thing"]
abbrev v_is_step_form : List Bool := [true]
abbrev s_lanes_after : Stmt := topS 39
abbrev n_lanes_after : List Str := ["step", "lanes", "letters", "wide", "place"]
abbrev v_lanes_after : List Bool := [true, true, true, true, false]
abbrev s_can_be : Stmt := topS 40
abbrev n_can_be : List Str := ["step", "lanes", "letters", "after"]
abbrev v_can_be : List Bool := [true, true, true, true]
abbrev s_Net_init : Stmt := inClass (topS 41) 0
abbrev n_Net_init : List Str := ["self", "letters", "lanes", "steps", "many", "index", "step"]
abbrev v_Net_init : List Bool := [true, true, true, true, true, true, true]
abbrev s_Net_keep : Stmt := inClass (topS 41) 1
abbrev n_Net_keep : List Str := ["self", "letters", "lanes", "steps", "outs", "step"]
abbrev v_Net_keep : List Bool := [true, true, true, true, true, false]
abbrev s_Net_letters : Stmt := inClass (topS 41) 2
abbrev n_Net_letters : List Str := ["self"]
abbrev v_Net_letters : List Bool := [true]
abbrev s_Net_lanes : Stmt := inClass (topS 41) 3
abbrev n_Net_lanes : List Str := ["self"]
abbrev v_Net_lanes : List Bool := [true]
abbrev s_Net_steps : Stmt := inClass (topS 41) 4
abbrev n_Net_steps : List Str := ["self"]
abbrev v_Net_steps : List Bool := [true]
abbrev s_Net_outs : Stmt := inClass (topS 41) 5
abbrev n_Net_outs : List Str := ["self"]
abbrev v_Net_outs : List Bool := [true]
abbrev s_Net_flyovers : Stmt := inClass (topS 41) 6
abbrev n_Net_flyovers : List Str := ["self", "step"]
abbrev v_Net_flyovers : List Bool := [true, false]
abbrev s_Net_sight : Stmt := inClass (topS 41) 7
abbrev n_Net_sight : List Str := ["self"]
abbrev v_Net_sight : List Bool := [true]
abbrev s_Net_parts : Stmt := inClass (topS 41) 8
abbrev n_Net_parts : List Str := ["self"]
abbrev v_Net_parts : List Bool := [true]
abbrev s_Net_eq : Stmt := inClass (topS 41) 9
abbrev n_Net_eq : List Str := ["self", "other"]
abbrev v_Net_eq : List Bool := [true, true]
abbrev s_place_by : Stmt := topS 42
abbrev n_place_by : List Str := ["step", "others", "letters"]
abbrev v_place_by : List Bool := [true, true, true]
abbrev s_work : Stmt := topS 43
abbrev n_work : List Str := ["step", "others", "lanes", "bears", "at", "seen", "place", "lane"]
abbrev v_work : List Bool := [true, true, true, true, true, true, true, false]
abbrev s_sources : Stmt := topS 44
abbrev n_sources : List Str := ["net", "row", "lanes", "step", "others"]
abbrev v_sources : List Bool := [true, true, true, true, true]
abbrev s_run_of : Stmt := topS 45
abbrev n_run_of : List Str := ["net", "row", "lane"]
abbrev v_run_of : List Bool := [true, true, false]
abbrev s_is_row_for : Stmt := topS 46
abbrev n_is_row_for : List Str := ["net", "thing"]
abbrev v_is_row_for : List Bool := [true, true]
abbrev s_check_row_for : Stmt := topS 47
abbrev n_check_row_for : List Str := ["net", "thing"]
abbrev v_check_row_for : List Bool := [true, true]
abbrev s_lanes_behind : Stmt := topS 48
abbrev n_lanes_behind : List Str := ["net", "found", "step"]
abbrev v_lanes_behind : List Bool := [true, true, true]
abbrev s_check_all : Stmt := topS 49
abbrev n_check_all : List Str := ["net"]
abbrev v_check_all : List Bool := [true]
abbrev s_all_ins : Stmt := topS 50
abbrev n_all_ins : List Str := ["net"]
abbrev v_all_ins : List Bool := [true]
abbrev s_check_other : Stmt := topS 52
abbrev n_check_other : List Str := ["net", "thing"]
abbrev v_check_other : List Bool := [true, true]
abbrev s_made : Stmt := topS 53
abbrev n_made : List Str := ["letters", "lanes", "steps", "many", "step"]
abbrev v_made : List Bool := [true, true, true, true, true]
abbrev s_without_of : Stmt := topS 54
abbrev n_without_of : List Str := ["net", "index", "steps", "many", "step"]
abbrev v_without_of : List Bool := [true, true, true, true, true]
abbrev s_alike : Stmt := topS 55
abbrev n_alike : List Str := ["net", "other", "row"]
abbrev v_alike : List Bool := [true, true, true]
abbrev s_needless : Stmt := topS 57
abbrev n_needless : List Str := ["net", "rows", "found", "index", "other", "row"]
abbrev v_needless : List Bool := [true, true, true, true, true, false]
abbrev s_falls : Stmt := topS 62
abbrev n_falls : List Str := ["lanes", "one", "other"]
abbrev v_falls : List Bool := [true, false, false]
abbrev s_unknotted : Stmt := topS 63
abbrev n_unknotted : List Str := ["lanes", "found", "waiting", "every", "at", "here", "a", "b", "c", "there"]
abbrev v_unknotted : List Bool := [true, true, true, true, true, true, true, true, true, true]
abbrev s_check_outs : Stmt := topS 64
abbrev n_check_outs : List Str := ["net"]
abbrev v_check_outs : List Bool := [true]
abbrev s_knot_number : Stmt := topS 65
abbrev n_knot_number : List Str := ["net", "row"]
abbrev v_knot_number : List Bool := [true, true]
abbrev s_knotted : Stmt := topS 66
abbrev n_knotted : List Str := ["net", "rows", "known", "best", "row", "knot"]
abbrev v_knotted : List Bool := [true, true, true, true, true, true]
abbrev s_sources_of : Stmt := topS 67
abbrev n_sources_of : List Str := ["net", "found", "row", "lane", "source", "_", "lanes"]
abbrev v_sources_of : List Bool := [true, true, true, true, true, false, false]
abbrev s_tidied : Stmt := topS 68
abbrev n_tidied : List Str := ["net", "told"]
abbrev v_tidied : List Bool := [true, true]
abbrev s_undoes : Stmt := topS 69
abbrev n_undoes : List Str := ["step", "later"]
abbrev v_undoes : List Bool := [true, true]
abbrev s_first_undone : Stmt := topS 70
abbrev n_first_undone : List Str := ["steps", "index", "step", "later"]
abbrev v_first_undone : List Bool := [true, true, true, true]
abbrev s_shortened : Stmt := topS 71
abbrev n_shortened : List Str := ["net", "steps", "index"]
abbrev v_shortened : List Bool := [true, true, true]
abbrev s_kinds_of : Stmt := topS 72
abbrev n_kinds_of : List Str := ["net", "found", "step"]
abbrev v_kinds_of : List Bool := [true, true, true]
abbrev s_widest : Stmt := topS 73
abbrev n_widest : List Str := ["net", "many"]
abbrev v_widest : List Bool := [true, true]
abbrev s_flights : Stmt := topS 74
abbrev n_flights : List Str := ["net", "found", "index", "step"]
abbrev v_flights : List Bool := [true, true, true, true]
abbrev s_farthest_from : Stmt := topS 75
abbrev n_farthest_from : List Str := ["row", "outs", "every", "found", "most", "out"]
abbrev v_farthest_from : List Bool := [true, true, true, true, true, false]
abbrev s_farthest : Stmt := topS 76
abbrev n_farthest : List Str := ["letters", "lanes", "outs", "best", "row", "number", "out"]
abbrev v_farthest : List Bool := [true, true, true, true, true, true, true]
abbrev s_law_hand : Stmt := topS 78
abbrev n_law_hand : List Str := ["_law_script", "_law_cells", "_law_cell"]
abbrev v_law_hand : List Bool := [true, true, false]
abbrev s_law_draw : Stmt := topS 79
abbrev n_law_draw : List Str := ["_law_hand_here", "_law_many", "_law_cell", "_law_digit", "_law_number"]
abbrev v_law_draw : List Bool := [true, true, true, true, true]
abbrev s_law_row : Stmt := topS 80
abbrev n_law_row : List Str := ["_law_hand_here", "_law_letters", "_law_lanes", "_law_lane"]
abbrev v_law_row : List Bool := [true, true, true, false]
abbrev s_law_is_thin : Stmt := topS 81
abbrev n_law_is_thin : List Str := ["_law_row_here", "_law_out", "_law_at", "_law_letter"]
abbrev v_law_is_thin : List Bool := [true, true, true, true]
abbrev s_law_fewest : Stmt := topS 82
abbrev n_law_fewest : List Str := ["_law_row_here", "_law_out", "_law_layer", "_law_seen", "_law_many", "_law_there", "_law_fresh", "_law_a", "_law_b", "_law_c", "_law_later", "_law_letter"]
abbrev v_law_fewest : List Bool := [true, true, true, true, true, true, true, true, true, true, true, false]
abbrev s_law_word : Stmt := topS 83
abbrev n_law_word : List Str := ["_law_row_here", "_law_lane"]
abbrev v_law_word : List Bool := [true, false]
abbrev s_law_done : Stmt := topS 84
abbrev n_law_done : List Str := ["_law_step", "_law_lanes", "_law_word_here", "_law_at", "_law_b", "_law_c", "_law_seen", "_law_place", "_law_letters", "_law_other"]
abbrev v_law_done : List Bool := [true, true, true, true, true, true, true, true, true, true]
abbrev s_law_rises : Stmt := topS 85
abbrev n_law_rises : List Str := ["_law_knot", "_law_k"]
abbrev v_law_rises : List Bool := [true, false]
abbrev s_law_unknotted : Stmt := topS 86
abbrev n_law_unknotted : List Str := ["_law_knot", "_law_layer", "_law_seen", "_law_many", "_law_there", "_law_fresh", "_law_a", "_law_b", "_law_c", "_law_later"]
abbrev v_law_unknotted : List Bool := [true, true, true, true, true, true, true, true, true, true]
abbrev s_law_came : Stmt := topS 87
abbrev n_law_came : List Str := ["_law_steps_here", "_law_row_here", "_law_lanes", "_law_step", "_law_at", "_law_seen", "_law_place", "_law_letters", "_law_other", "_law_k", "_law_letter", "_law_source"]
abbrev v_law_came : List Bool := [true, true, true, true, true, true, true, true, true, false, false, false]
abbrev s_law_steps : Stmt := topS 88
abbrev n_law_steps : List Str := ["_law_hand_here", "_law_letters", "_law_lanes", "_law_found", "_law_turn", "_law_way", "_law_at", "_law_a", "_law_b", "_law_wide", "_law_pairs_here"]
abbrev v_law_steps : List Bool := [true, true, true, true, true, true, true, true, true, true, true]
abbrev s_law_sizes_right : Stmt := topS 89
abbrev n_law_sizes_right : List Str := ["_law_net", "_law_steps_here", "_law_lanes", "_law_many", "_law_kinds", "_law_flown", "_law_at", "_law_step", "_law_more", "_law_left", "_law_short"]
abbrev v_law_sizes_right : List Bool := [true, true, true, true, true, true, true, true, true, true, true]
abbrev s_law_pairs : Stmt := topS 90
abbrev n_law_pairs : List Str := ["_law_lanes", "_law_found", "_law_number", "_law_row_here", "_law_lane"]
abbrev v_law_pairs : List Bool := [true, true, true, true, false]
abbrev s_law_is_far_right : Stmt := topS 91
abbrev n_law_is_far_right : List Str := ["_law_lanes", "_law_outs", "_law_best", "_law_row_here", "_law_many", "_law_out", "_law_more", "_law_need"]
abbrev v_law_is_far_right : List Bool := [true, true, true, true, true, true, true, true]
abbrev s_law : Stmt := topS 92
abbrev n_law : List Str := ["_law_script", "_law_hand_here", "_law_letters", "_law_lanes", "_law_steps_here", "_law_net", "_law_rows", "_law_lane", "_law_longer", "_law_row_here", "_law_best", "_law_known", "_law_numbers", "_law_knot", "_law_tidy", "_law_outs", "_law_due", "_law_every", "_law_out", "_law_many", "_law_letter", "_law_some"]
abbrev v_law : List Bool := [true, true, true, true, true, true, true, true, true, true, true, true, true, true, true, true, true, true, true, true, false, false]
theorem sc_is_integer : FnScope n_is_integer ["thing"] (defScope s_is_integer) := ⟨rfl, rfl, rfl, by decide +kernel, rfl, by decide +kernel, by decide +kernel⟩
theorem hv_is_integer : n_is_integer.map (locB (defScope s_is_integer)) = v_is_integer := by decide +kernel
theorem sc_is_between : FnScope n_is_between ["thing", "least", "most"] (defScope s_is_between) := ⟨rfl, rfl, rfl, by decide +kernel, rfl, by decide +kernel, by decide +kernel⟩
theorem hv_is_between : n_is_between.map (locB (defScope s_is_between)) = v_is_between := by decide +kernel
theorem sc_is_index : FnScope n_is_index ["thing", "many"] (defScope s_is_index) := ⟨rfl, rfl, rfl, by decide +kernel, rfl, by decide +kernel, by decide +kernel⟩
theorem hv_is_index : n_is_index.map (locB (defScope s_is_index)) = v_is_index := by decide +kernel
theorem sc_check_number : FnScope n_check_number ["thing", "least", "most"] (defScope s_check_number) := ⟨rfl, rfl, rfl, by decide +kernel, rfl, by decide +kernel, by decide +kernel⟩
theorem hv_check_number : n_check_number.map (locB (defScope s_check_number)) = v_check_number := by decide +kernel
theorem sc_power_of : FnScope n_power_of ["number", "times"] (defScope s_power_of) := ⟨rfl, rfl, rfl, by decide +kernel, rfl, by decide +kernel, by decide +kernel⟩
theorem hv_power_of : n_power_of.map (locB (defScope s_power_of)) = v_power_of := by decide +kernel
theorem sc_is_row : FnScope n_is_row ["thing"] (defScope s_is_row) := ⟨rfl, rfl, rfl, by decide +kernel, rfl, by decide +kernel, by decide +kernel⟩
theorem hv_is_row : n_is_row.map (locB (defScope s_is_row)) = v_is_row := by decide +kernel
theorem sc_rows_of : FnScope n_rows_of ["letters", "lanes"] (defScope s_rows_of) := ⟨rfl, rfl, rfl, by decide +kernel, rfl, by decide +kernel, by decide +kernel⟩
theorem hv_rows_of : n_rows_of.map (locB (defScope s_rows_of)) = v_rows_of := by decide +kernel
theorem sc_check_listed : FnScope n_check_listed ["letters", "lanes"] (defScope s_check_listed) := ⟨rfl, rfl, rfl, by decide +kernel, rfl, by decide +kernel, by decide +kernel⟩
theorem hv_check_listed : n_check_listed.map (locB (defScope s_check_listed)) = v_check_listed := by decide +kernel
theorem sc_next_place : FnScope n_next_place ["row", "first", "letter"] (defScope s_next_place) := ⟨rfl, rfl, rfl, by decide +kernel, rfl, by decide +kernel, by decide +kernel⟩
theorem hv_next_place : n_next_place.map (locB (defScope s_next_place)) = v_next_place := by decide +kernel
theorem sc_way_of : FnScope n_way_of ["row", "out"] (defScope s_way_of) := ⟨rfl, rfl, rfl, by decide +kernel, rfl, by decide +kernel, by decide +kernel⟩
theorem hv_way_of : n_way_of.map (locB (defScope s_way_of)) = v_way_of := by decide +kernel
theorem sc_is_exchange : FnScope n_is_exchange ["thing", "lanes"] (defScope s_is_exchange) := ⟨rfl, rfl, rfl, by decide +kernel, rfl, by decide +kernel, by decide +kernel⟩
theorem hv_is_exchange : n_is_exchange.map (locB (defScope s_is_exchange)) = v_is_exchange := by decide +kernel
theorem sc_exchanged_by : FnScope n_exchanged_by ["row", "a", "b", "c"] (defScope s_exchanged_by) := ⟨rfl, rfl, rfl, by decide +kernel, rfl, by decide +kernel, by decide +kernel⟩
theorem hv_exchanged_by : n_exchanged_by.map (locB (defScope s_exchanged_by)) = v_exchanged_by := by decide +kernel
theorem sc_all_exchanges : FnScope n_all_exchanges ["lanes"] (defScope s_all_exchanges) := ⟨rfl, rfl, rfl, by decide +kernel, rfl, by decide +kernel, by decide +kernel⟩
theorem hv_all_exchanges : n_all_exchanges.map (locB (defScope s_all_exchanges)) = v_all_exchanges := by decide +kernel
theorem sc_spread_from : FnScope n_spread_from ["starts", "lanes"] (defScope s_spread_from) := ⟨rfl, rfl, rfl, by decide +kernel, rfl, by decide +kernel, by decide +kernel⟩
theorem hv_spread_from : n_spread_from.map (locB (defScope s_spread_from)) = v_spread_from := by decide +kernel
theorem sc_outs_of : FnScope n_outs_of ["row", "lanes"] (defScope s_outs_of) := ⟨rfl, rfl, rfl, by decide +kernel, rfl, by decide +kernel, by decide +kernel⟩
theorem hv_outs_of : n_outs_of.map (locB (defScope s_outs_of)) = v_outs_of := by decide +kernel
theorem sc_is_letters : FnScope n_is_letters ["thing", "many", "letters"] (defScope s_is_letters) := ⟨rfl, rfl, rfl, by decide +kernel, rfl, by decide +kernel, by decide +kernel⟩
theorem hv_is_letters : n_is_letters.map (locB (defScope s_is_letters)) = v_is_letters := by decide +kernel
theorem sc_are_others : FnScope n_are_others ["thing", "wide", "letters"] (defScope s_are_others) := ⟨rfl, rfl, rfl, by decide +kernel, rfl, by decide +kernel, by decide +kernel⟩
theorem hv_are_others : n_are_others.map (locB (defScope s_are_others)) = v_are_others := by decide +kernel
theorem sc_is_step_form : FnScope n_is_step_form ["thing"] (defScope s_is_step_form) := ⟨rfl, rfl, rfl, by decide +kernel, rfl, by decide +kernel, by decide +kernel⟩
theorem hv_is_step_form : n_is_step_form.map (locB (defScope s_is_step_form)) = v_is_step_form := by decide +kernel
theorem sc_lanes_after : FnScope n_lanes_after ["step", "lanes", "letters"] (defScope s_lanes_after) := ⟨rfl, rfl, rfl, by decide +kernel, rfl, by decide +kernel, by decide +kernel⟩
theorem hv_lanes_after : n_lanes_after.map (locB (defScope s_lanes_after)) = v_lanes_after := by decide +kernel
theorem sc_can_be : FnScope n_can_be ["step", "lanes", "letters"] (defScope s_can_be) := ⟨rfl, rfl, rfl, by decide +kernel, rfl, by decide +kernel, by decide +kernel⟩
theorem hv_can_be : n_can_be.map (locB (defScope s_can_be)) = v_can_be := by decide +kernel
theorem sc_Net_init : FnScope n_Net_init ["self", "letters", "lanes", "steps"] (defScope s_Net_init) := ⟨rfl, rfl, rfl, by decide +kernel, rfl, by decide +kernel, by decide +kernel⟩
theorem hv_Net_init : n_Net_init.map (locB (defScope s_Net_init)) = v_Net_init := by decide +kernel
theorem sc_Net_keep : FnScope n_Net_keep ["self", "letters", "lanes", "steps", "outs"] (defScope s_Net_keep) := ⟨rfl, rfl, rfl, by decide +kernel, rfl, by decide +kernel, by decide +kernel⟩
theorem hv_Net_keep : n_Net_keep.map (locB (defScope s_Net_keep)) = v_Net_keep := by decide +kernel
theorem sc_Net_steps : FnScope n_Net_steps ["self"] (defScope s_Net_steps) := ⟨rfl, rfl, rfl, by decide +kernel, rfl, by decide +kernel, by decide +kernel⟩
theorem hv_Net_steps : n_Net_steps.map (locB (defScope s_Net_steps)) = v_Net_steps := by decide +kernel
theorem sc_Net_outs : FnScope n_Net_outs ["self"] (defScope s_Net_outs) := ⟨rfl, rfl, rfl, by decide +kernel, rfl, by decide +kernel, by decide +kernel⟩
theorem hv_Net_outs : n_Net_outs.map (locB (defScope s_Net_outs)) = v_Net_outs := by decide +kernel
theorem sc_Net_flyovers : FnScope n_Net_flyovers ["self"] (defScope s_Net_flyovers) := ⟨rfl, rfl, rfl, by decide +kernel, rfl, by decide +kernel, by decide +kernel⟩
theorem hv_Net_flyovers : n_Net_flyovers.map (locB (defScope s_Net_flyovers)) = v_Net_flyovers := by decide +kernel
theorem sc_place_by : FnScope n_place_by ["step", "others", "letters"] (defScope s_place_by) := ⟨rfl, rfl, rfl, by decide +kernel, rfl, by decide +kernel, by decide +kernel⟩
theorem hv_place_by : n_place_by.map (locB (defScope s_place_by)) = v_place_by := by decide +kernel
theorem sc_work : FnScope n_work ["step", "others", "lanes", "bears"] (defScope s_work) := ⟨rfl, rfl, rfl, by decide +kernel, rfl, by decide +kernel, by decide +kernel⟩
theorem hv_work : n_work.map (locB (defScope s_work)) = v_work := by decide +kernel
theorem sc_sources : FnScope n_sources ["net", "row"] (defScope s_sources) := ⟨rfl, rfl, rfl, by decide +kernel, rfl, by decide +kernel, by decide +kernel⟩
theorem hv_sources : n_sources.map (locB (defScope s_sources)) = v_sources := by decide +kernel
theorem sc_run_of : FnScope n_run_of ["net", "row"] (defScope s_run_of) := ⟨rfl, rfl, rfl, by decide +kernel, rfl, by decide +kernel, by decide +kernel⟩
theorem hv_run_of : n_run_of.map (locB (defScope s_run_of)) = v_run_of := by decide +kernel
theorem sc_is_row_for : FnScope n_is_row_for ["net", "thing"] (defScope s_is_row_for) := ⟨rfl, rfl, rfl, by decide +kernel, rfl, by decide +kernel, by decide +kernel⟩
theorem hv_is_row_for : n_is_row_for.map (locB (defScope s_is_row_for)) = v_is_row_for := by decide +kernel
theorem sc_check_row_for : FnScope n_check_row_for ["net", "thing"] (defScope s_check_row_for) := ⟨rfl, rfl, rfl, by decide +kernel, rfl, by decide +kernel, by decide +kernel⟩
theorem hv_check_row_for : n_check_row_for.map (locB (defScope s_check_row_for)) = v_check_row_for := by decide +kernel
theorem sc_lanes_behind : FnScope n_lanes_behind ["net"] (defScope s_lanes_behind) := ⟨rfl, rfl, rfl, by decide +kernel, rfl, by decide +kernel, by decide +kernel⟩
theorem hv_lanes_behind : n_lanes_behind.map (locB (defScope s_lanes_behind)) = v_lanes_behind := by decide +kernel
theorem sc_check_all : FnScope n_check_all ["net"] (defScope s_check_all) := ⟨rfl, rfl, rfl, by decide +kernel, rfl, by decide +kernel, by decide +kernel⟩
theorem hv_check_all : n_check_all.map (locB (defScope s_check_all)) = v_check_all := by decide +kernel
theorem sc_all_ins : FnScope n_all_ins ["net"] (defScope s_all_ins) := ⟨rfl, rfl, rfl, by decide +kernel, rfl, by decide +kernel, by decide +kernel⟩
theorem hv_all_ins : n_all_ins.map (locB (defScope s_all_ins)) = v_all_ins := by decide +kernel
theorem sc_check_other : FnScope n_check_other ["net", "thing"] (defScope s_check_other) := ⟨rfl, rfl, rfl, by decide +kernel, rfl, by decide +kernel, by decide +kernel⟩
theorem hv_check_other : n_check_other.map (locB (defScope s_check_other)) = v_check_other := by decide +kernel
theorem sc_made : FnScope n_made ["letters", "lanes", "steps"] (defScope s_made) := ⟨rfl, rfl, rfl, by decide +kernel, rfl, by decide +kernel, by decide +kernel⟩
theorem hv_made : n_made.map (locB (defScope s_made)) = v_made := by decide +kernel
theorem sc_without_of : FnScope n_without_of ["net", "index"] (defScope s_without_of) := ⟨rfl, rfl, rfl, by decide +kernel, rfl, by decide +kernel, by decide +kernel⟩
theorem hv_without_of : n_without_of.map (locB (defScope s_without_of)) = v_without_of := by decide +kernel
theorem sc_alike : FnScope n_alike ["net", "other"] (defScope s_alike) := ⟨rfl, rfl, rfl, by decide +kernel, rfl, by decide +kernel, by decide +kernel⟩
theorem hv_alike : n_alike.map (locB (defScope s_alike)) = v_alike := by decide +kernel
theorem sc_needless : FnScope n_needless ["net"] (defScope s_needless) := ⟨rfl, rfl, rfl, by decide +kernel, rfl, by decide +kernel, by decide +kernel⟩
theorem hv_needless : n_needless.map (locB (defScope s_needless)) = v_needless := by decide +kernel
theorem sc_falls : FnScope n_falls ["lanes"] (defScope s_falls) := ⟨rfl, rfl, rfl, by decide +kernel, rfl, by decide +kernel, by decide +kernel⟩
theorem hv_falls : n_falls.map (locB (defScope s_falls)) = v_falls := by decide +kernel
theorem sc_unknotted : FnScope n_unknotted ["lanes"] (defScope s_unknotted) := ⟨rfl, rfl, rfl, by decide +kernel, rfl, by decide +kernel, by decide +kernel⟩
theorem hv_unknotted : n_unknotted.map (locB (defScope s_unknotted)) = v_unknotted := by decide +kernel
theorem sc_check_outs : FnScope n_check_outs ["net"] (defScope s_check_outs) := ⟨rfl, rfl, rfl, by decide +kernel, rfl, by decide +kernel, by decide +kernel⟩
theorem hv_check_outs : n_check_outs.map (locB (defScope s_check_outs)) = v_check_outs := by decide +kernel
theorem sc_knot_number : FnScope n_knot_number ["net", "row"] (defScope s_knot_number) := ⟨rfl, rfl, rfl, by decide +kernel, rfl, by decide +kernel, by decide +kernel⟩
theorem hv_knot_number : n_knot_number.map (locB (defScope s_knot_number)) = v_knot_number := by decide +kernel
theorem sc_knotted : FnScope n_knotted ["net"] (defScope s_knotted) := ⟨rfl, rfl, rfl, by decide +kernel, rfl, by decide +kernel, by decide +kernel⟩
theorem hv_knotted : n_knotted.map (locB (defScope s_knotted)) = v_knotted := by decide +kernel
theorem sc_sources_of : FnScope n_sources_of ["net"] (defScope s_sources_of) := ⟨rfl, rfl, rfl, by decide +kernel, rfl, by decide +kernel, by decide +kernel⟩
theorem hv_sources_of : n_sources_of.map (locB (defScope s_sources_of)) = v_sources_of := by decide +kernel
theorem sc_tidied : FnScope n_tidied ["net"] (defScope s_tidied) := ⟨rfl, rfl, rfl, by decide +kernel, rfl, by decide +kernel, by decide +kernel⟩
theorem hv_tidied : n_tidied.map (locB (defScope s_tidied)) = v_tidied := by decide +kernel
theorem sc_undoes : FnScope n_undoes ["step", "later"] (defScope s_undoes) := ⟨rfl, rfl, rfl, by decide +kernel, rfl, by decide +kernel, by decide +kernel⟩
theorem hv_undoes : n_undoes.map (locB (defScope s_undoes)) = v_undoes := by decide +kernel
theorem sc_first_undone : FnScope n_first_undone ["steps"] (defScope s_first_undone) := ⟨rfl, rfl, rfl, by decide +kernel, rfl, by decide +kernel, by decide +kernel⟩
theorem hv_first_undone : n_first_undone.map (locB (defScope s_first_undone)) = v_first_undone := by decide +kernel
theorem sc_shortened : FnScope n_shortened ["net"] (defScope s_shortened) := ⟨rfl, rfl, rfl, by decide +kernel, rfl, by decide +kernel, by decide +kernel⟩
theorem hv_shortened : n_shortened.map (locB (defScope s_shortened)) = v_shortened := by decide +kernel
theorem sc_kinds_of : FnScope n_kinds_of ["net"] (defScope s_kinds_of) := ⟨rfl, rfl, rfl, by decide +kernel, rfl, by decide +kernel, by decide +kernel⟩
theorem hv_kinds_of : n_kinds_of.map (locB (defScope s_kinds_of)) = v_kinds_of := by decide +kernel
theorem sc_widest : FnScope n_widest ["net"] (defScope s_widest) := ⟨rfl, rfl, rfl, by decide +kernel, rfl, by decide +kernel, by decide +kernel⟩
theorem hv_widest : n_widest.map (locB (defScope s_widest)) = v_widest := by decide +kernel
theorem sc_flights : FnScope n_flights ["net"] (defScope s_flights) := ⟨rfl, rfl, rfl, by decide +kernel, rfl, by decide +kernel, by decide +kernel⟩
theorem hv_flights : n_flights.map (locB (defScope s_flights)) = v_flights := by decide +kernel
theorem sc_farthest_from : FnScope n_farthest_from ["row", "outs"] (defScope s_farthest_from) := ⟨rfl, rfl, rfl, by decide +kernel, rfl, by decide +kernel, by decide +kernel⟩
theorem hv_farthest_from : n_farthest_from.map (locB (defScope s_farthest_from)) = v_farthest_from := by decide +kernel
theorem sc_farthest : FnScope n_farthest ["letters", "lanes", "outs"] (defScope s_farthest) := ⟨rfl, rfl, rfl, by decide +kernel, rfl, by decide +kernel, by decide +kernel⟩
theorem hv_farthest : n_farthest.map (locB (defScope s_farthest)) = v_farthest := by decide +kernel
theorem sc_law_hand : FnScope n_law_hand ["_law_script"] (defScope s_law_hand) := ⟨rfl, rfl, rfl, by decide +kernel, rfl, by decide +kernel, by decide +kernel⟩
theorem hv_law_hand : n_law_hand.map (locB (defScope s_law_hand)) = v_law_hand := by decide +kernel
theorem sc_law_draw : FnScope n_law_draw ["_law_hand_here", "_law_many"] (defScope s_law_draw) := ⟨rfl, rfl, rfl, by decide +kernel, rfl, by decide +kernel, by decide +kernel⟩
theorem hv_law_draw : n_law_draw.map (locB (defScope s_law_draw)) = v_law_draw := by decide +kernel
theorem sc_law_row : FnScope n_law_row ["_law_hand_here", "_law_letters", "_law_lanes"] (defScope s_law_row) := ⟨rfl, rfl, rfl, by decide +kernel, rfl, by decide +kernel, by decide +kernel⟩
theorem hv_law_row : n_law_row.map (locB (defScope s_law_row)) = v_law_row := by decide +kernel
theorem sc_law_is_thin : FnScope n_law_is_thin ["_law_row_here", "_law_out"] (defScope s_law_is_thin) := ⟨rfl, rfl, rfl, by decide +kernel, rfl, by decide +kernel, by decide +kernel⟩
theorem hv_law_is_thin : n_law_is_thin.map (locB (defScope s_law_is_thin)) = v_law_is_thin := by decide +kernel
theorem sc_law_fewest : FnScope n_law_fewest ["_law_row_here", "_law_out"] (defScope s_law_fewest) := ⟨rfl, rfl, rfl, by decide +kernel, rfl, by decide +kernel, by decide +kernel⟩
theorem hv_law_fewest : n_law_fewest.map (locB (defScope s_law_fewest)) = v_law_fewest := by decide +kernel
theorem sc_law_word : FnScope n_law_word ["_law_row_here"] (defScope s_law_word) := ⟨rfl, rfl, rfl, by decide +kernel, rfl, by decide +kernel, by decide +kernel⟩
theorem hv_law_word : n_law_word.map (locB (defScope s_law_word)) = v_law_word := by decide +kernel
theorem sc_law_done : FnScope n_law_done ["_law_step", "_law_lanes"] (defScope s_law_done) := ⟨rfl, rfl, rfl, by decide +kernel, rfl, by decide +kernel, by decide +kernel⟩
theorem hv_law_done : n_law_done.map (locB (defScope s_law_done)) = v_law_done := by decide +kernel
theorem sc_law_rises : FnScope n_law_rises ["_law_knot"] (defScope s_law_rises) := ⟨rfl, rfl, rfl, by decide +kernel, rfl, by decide +kernel, by decide +kernel⟩
theorem hv_law_rises : n_law_rises.map (locB (defScope s_law_rises)) = v_law_rises := by decide +kernel
theorem sc_law_unknotted : FnScope n_law_unknotted ["_law_knot"] (defScope s_law_unknotted) := ⟨rfl, rfl, rfl, by decide +kernel, rfl, by decide +kernel, by decide +kernel⟩
theorem hv_law_unknotted : n_law_unknotted.map (locB (defScope s_law_unknotted)) = v_law_unknotted := by decide +kernel
theorem sc_law_came : FnScope n_law_came ["_law_steps_here", "_law_row_here"] (defScope s_law_came) := ⟨rfl, rfl, rfl, by decide +kernel, rfl, by decide +kernel, by decide +kernel⟩
theorem hv_law_came : n_law_came.map (locB (defScope s_law_came)) = v_law_came := by decide +kernel
theorem sc_law_steps : FnScope n_law_steps ["_law_hand_here", "_law_letters", "_law_lanes"] (defScope s_law_steps) := ⟨rfl, rfl, rfl, by decide +kernel, rfl, by decide +kernel, by decide +kernel⟩
theorem hv_law_steps : n_law_steps.map (locB (defScope s_law_steps)) = v_law_steps := by decide +kernel
theorem sc_law_sizes_right : FnScope n_law_sizes_right ["_law_net", "_law_steps_here", "_law_lanes"] (defScope s_law_sizes_right) := ⟨rfl, rfl, rfl, by decide +kernel, rfl, by decide +kernel, by decide +kernel⟩
theorem hv_law_sizes_right : n_law_sizes_right.map (locB (defScope s_law_sizes_right)) = v_law_sizes_right := by decide +kernel
theorem sc_law_pairs : FnScope n_law_pairs ["_law_lanes"] (defScope s_law_pairs) := ⟨rfl, rfl, rfl, by decide +kernel, rfl, by decide +kernel, by decide +kernel⟩
theorem hv_law_pairs : n_law_pairs.map (locB (defScope s_law_pairs)) = v_law_pairs := by decide +kernel
theorem sc_law_is_far_right : FnScope n_law_is_far_right ["_law_lanes", "_law_outs"] (defScope s_law_is_far_right) := ⟨rfl, rfl, rfl, by decide +kernel, rfl, by decide +kernel, by decide +kernel⟩
theorem hv_law_is_far_right : n_law_is_far_right.map (locB (defScope s_law_is_far_right)) = v_law_is_far_right := by decide +kernel
theorem sc_law : FnScope n_law ["_law_script"] (defScope s_law) := ⟨rfl, rfl, rfl, by decide +kernel, rfl, by decide +kernel, by decide +kernel⟩
theorem hv_law : n_law.map (locB (defScope s_law)) = v_law := by decide +kernel
def DefAt (T : Tx) (x : Str) (st : Stmt) : Prop := ∃ f fd, T.mg x = some (.ref f) ∧ Fun T.K x x st f fd
def ConI (T : Tx) (x : Str) (i : Int) : Prop := ∃ t, T.mg x = some (.int i t)
/-- what the top has written -/
structure Top (T : Tx) (C : Addr) : Prop where
  d_is_integer : DefAt T "is_integer" s_is_integer
  d_is_between : DefAt T "is_between" s_is_between
  d_is_index : DefAt T "is_index" s_is_index
  d_check_number : DefAt T "check_number" s_check_number
  d_power_of : DefAt T "power_of" s_power_of
  d_is_row : DefAt T "is_row" s_is_row
  d_rows_of : DefAt T "rows_of" s_rows_of
  d_check_listed : DefAt T "check_listed" s_check_listed
  d_next_place : DefAt T "next_place" s_next_place
  d_way_of : DefAt T "way_of" s_way_of
  d_is_exchange : DefAt T "is_exchange" s_is_exchange
  d_exchanged_by : DefAt T "exchanged_by" s_exchanged_by
  d_all_exchanges : DefAt T "all_exchanges" s_all_exchanges
  d_spread_from : DefAt T "spread_from" s_spread_from
  d_outs_of : DefAt T "outs_of" s_outs_of
  d_is_letters : DefAt T "is_letters" s_is_letters
  d_are_others : DefAt T "are_others" s_are_others
  d_is_step_form : DefAt T "is_step_form" s_is_step_form
  d_lanes_after : DefAt T "lanes_after" s_lanes_after
  d_can_be : DefAt T "can_be" s_can_be
  d_place_by : DefAt T "place_by" s_place_by
  d_work : DefAt T "work" s_work
  d_sources : DefAt T "sources" s_sources
  d_run_of : DefAt T "run_of" s_run_of
  d_is_row_for : DefAt T "is_row_for" s_is_row_for
  d_check_row_for : DefAt T "check_row_for" s_check_row_for
  d_lanes_behind : DefAt T "lanes_behind" s_lanes_behind
  d_check_all : DefAt T "check_all" s_check_all
  d_all_ins : DefAt T "all_ins" s_all_ins
  d_check_other : DefAt T "check_other" s_check_other
  d_made : DefAt T "made" s_made
  d_without_of : DefAt T "without_of" s_without_of
  d_alike : DefAt T "alike" s_alike
  d_needless : DefAt T "needless" s_needless
  d_falls : DefAt T "falls" s_falls
  d_unknotted : DefAt T "unknotted" s_unknotted
  d_check_outs : DefAt T "check_outs" s_check_outs
  d_knot_number : DefAt T "knot_number" s_knot_number
  d_knotted : DefAt T "knotted" s_knotted
  d_sources_of : DefAt T "sources_of" s_sources_of
  d_tidied : DefAt T "tidied" s_tidied
  d_undoes : DefAt T "undoes" s_undoes
  d_first_undone : DefAt T "first_undone" s_first_undone
  d_shortened : DefAt T "shortened" s_shortened
  d_kinds_of : DefAt T "kinds_of" s_kinds_of
  d_widest : DefAt T "widest" s_widest
  d_flights : DefAt T "flights" s_flights
  d_farthest_from : DefAt T "farthest_from" s_farthest_from
  d_farthest : DefAt T "farthest" s_farthest
  d_law_hand : DefAt T "_law_hand" s_law_hand
  d_law_draw : DefAt T "_law_draw" s_law_draw
  d_law_row : DefAt T "_law_row" s_law_row
  d_law_is_thin : DefAt T "_law_is_thin" s_law_is_thin
  d_law_fewest : DefAt T "_law_fewest" s_law_fewest
  d_law_word : DefAt T "_law_word" s_law_word
  d_law_done : DefAt T "_law_done" s_law_done
  d_law_rises : DefAt T "_law_rises" s_law_rises
  d_law_unknotted : DefAt T "_law_unknotted" s_law_unknotted
  d_law_came : DefAt T "_law_came" s_law_came
  d_law_steps : DefAt T "_law_steps" s_law_steps
  d_law_sizes_right : DefAt T "_law_sizes_right" s_law_sizes_right
  d_law_pairs : DefAt T "_law_pairs" s_law_pairs
  d_law_is_far_right : DefAt T "_law_is_far_right" s_law_is_far_right
  d_law : DefAt T "law" s_law
  b_len : T.mg "len" = none
  b_abs : T.mg "abs" = none
  b_max : T.mg "max" = none
  b_min : T.mg "min" = none
  b_all : T.mg "all" = none
  b_any : T.mg "any" = none
  b_sorted : T.mg "sorted" = none
  b_isinstance : T.mg "isinstance" = none
  b_zip : T.mg "zip" = none
  b_enumerate : T.mg "enumerate" = none
  b_range : T.mg "range" = none
  b_int : T.mg "int" = none
  b_tuple : T.mg "tuple" = none
  b_list : T.mg "list" = none
  b_set : T.mg "set" = none
  b_dict : T.mg "dict" = none
  b_bool : T.mg "bool" = none
  b_str : T.mg "str" = none
  MOST_LETTERS_checks : ConI T "MOST_LETTERS_checks" 4
  MOST_LANES : ConI T "MOST_LANES" 1000
  MOST_ROWS : ConI T "MOST_ROWS" 4096
  MOST_LISTED : ConI T "MOST_LISTED" 12
  MOST_ROAD : ConI T "MOST_ROAD" 9
  MOST_OTHERS : ConI T "MOST_OTHERS" 64
  MOST_TOLD : ConI T "MOST_TOLD" 256
  MOST_FAR : ConI T "MOST_FAR" 6
  MOST_LETTERS_knots : ConI T "MOST_LETTERS_knots" 4
  cl : Cls T.K C
  mgC : T.mg "Net" = some (.ref C)
  n_kept_letters : NoAttr T.K C "kept_letters"
  n_kept_lanes : NoAttr T.K C "kept_lanes"
  n_kept_steps : NoAttr T.K C "kept_steps"
  n_kept_outs : NoAttr T.K C "kept_outs"
  n_kept_others : NoAttr T.K C "kept_others"
  mkN : ∃ f fd, Mk T.K C f ∧ Fun T.K "__init__" "Net.__init__" s_Net_init f fd
  m_keep : ∃ f fd, Meth T.K C "keep" f ∧ Fun T.K "keep" "Net.keep" s_Net_keep f fd
  m_steps : ∃ f fd, Meth T.K C "steps" f ∧ Fun T.K "steps" "Net.steps" s_Net_steps f fd
  m_outs : ∃ f fd, Meth T.K C "outs" f ∧ Fun T.K "outs" "Net.outs" s_Net_outs f fd
  m_flyovers : ∃ f fd, Meth T.K C "flyovers" f ∧ Fun T.K "flyovers" "Net.flyovers" s_Net_flyovers f fd
  isa : C8.InsC T.K C
  sz : ∃ dA es n, T.mg "SIZES" = some (.ref dA) ∧ KDict T.K T.w dA es n ∧ KDct T.K T.w dA "double" (.int 2) ∧ KDct T.K T.w dA "strike" (.int 2) ∧ KDct T.K T.w dA "choose" (.int 5) ∧ KDct T.K T.w dA "fly" (.int 4)
section
variable {T : Tx} {C : Addr}
theorem has_of {x : Str} {stm : Stmt} {N ps : List Str} {vt : List Bool} {k : Nat} {fs : FS} (d : DefAt T x stm) (S : FnScope N ps (defScope stm)) (hv : N.map (locB (defScope stm)) = vt) (len : ∀ ds h Q, fs ds h Q → ds.length = ps.length)
    (bi : ∀ (kV doc pm : Value) (an : Option Addr) (cdv ct : Value) (us : List Value), us.length = ps.length → bindArgs (PySem.W.fnOf x x (defArgs stm) (defBody stm) (defScope stm) .none kV doc pm an cdv ct) ⟨us, []⟩ = pure (ps.zip us))
    (body : ∀ X, Ctx X T k N (defScope stm) vt vt → ∀ ds h Q, fs ds h Q → LSs X (defBody stm) (startD N ds) h { nx := fun _ h' => Fg (Q .non) h', rt := fun d h' => Fg (Q d) h' }) : Has T (k + 1) x ps fs := by
  obtain ⟨f, fd, e, F⟩ := d
  exact ⟨f, fd, e, F.kp, F.binds bi, fn_ok F S hv len body⟩
theorem lx_con {X : Cx} {k : Nat} {N : List Str} {sc : Scope} {vt st : List Bool} {ρ : Rho} {h : HD} (c : Ctx X T k N sc vt st) {nm : Str} {pos : Pos} {i : Int} (g : globB sc nm = true) (hm : ConI T nm i) (hd : (nm == ("__debug__" : Str)) = false := by decide) : LX X (.Name nm pos) ρ h (.int i) h := by
  obtain ⟨t, e⟩ := hm
  exact lx_globI c g e hd
end
end Fy
end
section
set_option linter.all false
set_option maxRecDepth 100000
set_option maxHeartbeats 4000000
namespace Fy
open PySem PySem.Spec PyProof.Rows L2
local macro_rules | `(tactic| walk_at "fy op") => `(tactic| first
  | exact f2_add | exact f2_sub | exact f2_cat (by first | assumption | omega | (simp only [List.length_append, cutD_len] <;> omega)) | exact f2_and | exact f2_mod (by omega) | exact f2_fdiv ⟨by omega, by omega⟩ | exact f2_mul (by unfold CMul; omega))
local macro_rules | `(tactic| walk_at "fy cmp") => `(tactic| first
  | exact f2_lt | exact f2_le | exact f2_gt | exact f2_ge | exact f2_eqI | exact f2_neI | exact f2_eqS | exact f2_isN | exact f2_notN)
local macro_rules | `(tactic| walk_at "fy ix") => `(tactic| first
  | exact ix2_T (by first | assumption | rfl) | exact ix2_L (by assumption) (by assumption))
local macro_rules | `(tactic| walk_at "fy wk") => `(tactic| repeat' (first | exact Paired.nil | exact True.intro | rfl | apply Paired.cons))
theorem Again.at {R : Rho} {Hh h' : HD} {ρ' : Rho} (wk : Wk R ρ') (sb : Sub Hh h') : Again (fun ρ h => ρ = R ∧ h = Hh) ρ' h' := ⟨_, _, wk, sb, rfl, rfl⟩
variable {T : Tx} {C : Addr}
/-! ### data of rows -/
def rowD (r : List Int) : D := .tup (r.map .int)
def sp_power_of : FS := fun ds h Q => ∃ (n : Int) (m : Nat), ds = [.int n, .int m] ∧ 0 ≤ n ∧ n ≤ 4 ∧ m ≤ 13 ∧ Q (.int (n ^ m)) h
theorem has_power_of (G : Top T C) : Has T 1 "power_of" ["number", "times"] sp_power_of := by
  refine has_of G.d_power_of sc_power_of hv_power_of (fun ds h Q hh => ?_) (fun _ _ _ _ _ _ us hl => match us, hl with | [_, _], _ => rfl) fun X c ds h Q hh => ?_
  · obtain ⟨n, m, rfl, _⟩ := hh
    rfl
  · obtain ⟨n, m, rfl, h0, h4, hm, q⟩ := hh
    refine lss_cons (ls_set c 2 rfl rfl (lx_int _ ?_))
    refine lss_cons (ls_for c (li_range1 c (lx_name c 1 rfl rfl rfl) (by decide +kernel) G.b_range ⟨by omega, by omega⟩ ⟨fun i ρ hh => ρ = [some (.int n), some (.int m), some (.int (n ^ i)), none] ∧ hh = h, ?_, fun _ _ _ _ => trivial, ?_, ?_⟩))
    · exact ⟨by rw [Int.pow_zero]; rfl, rfl⟩
    · rintro i d ρ1 hh hd ⟨rfl, rfl⟩
      refine ⟨_, lg_name c 3 rfl rfl ?_⟩
      refine lss_one (ls_set c 2 rfl rfl ((lx_bin (lx_name c 2 rfl rfl rfl) (lx_name c 0 rfl rfl rfl) (f2_mul ?_)) _ ?_))
      · exact .inr ⟨by omega, by omega⟩
      · refine Again.at ?_ (Sub.refl _)
        rw [Int.pow_succ]
        walk_at "fy wk"
    · rintro ρ1 hh ⟨rfl, rfl⟩
      refine lss_one (ls_ret ((lx_name c 2 rfl rfl rfl) _ ?_))
      rw [rngD_len]
      exact Fg.of q
/-! ### exchanged_by -/
theorem exch_len {α : Type} (r : List α) {a b c : Nat} (h1 : a ≤ b) (h2 : b ≤ c) (h3 : c ≤ r.length) : (exch r a b c).length = r.length := by
  unfold exch
  simp only [List.length_append, List.length_take, List.length_drop]
  omega
theorem exch_map {α β : Type} (f : α → β) (r : List α) (a b c : Nat) : (exch r a b c).map f = exch (r.map f) a b c := by
  unfold exch
  simp only [List.map_append, List.map_take, List.map_drop]
def sp_exchanged_by : FS := fun ds h Q => ∃ (r : List D) (a b c : Nat), ds = [.tup r, .int a, .int b, .int c] ∧ r.length ≤ 1000 ∧ a ≤ b ∧ b ≤ c ∧ Q (.tup (exch r a b c)) h
theorem has_exchanged_by (G : Top T C) : Has T 1 "exchanged_by" ["row", "a", "b", "c"] sp_exchanged_by := by
  refine has_of G.d_exchanged_by sc_exchanged_by hv_exchanged_by (fun ds h Q hh => ?_) (fun _ _ _ _ _ _ us hl => match us, hl with | [_, _, _, _], _ => rfl) fun X c ds h Q hh => ?_
  · obtain ⟨r, a, b, c, rfl, _⟩ := hh
    rfl
  · obtain ⟨r, i, j, l, rfl, hl, h1, h2, q⟩ := hh
    refine lss_one (ls_ret ((lx_bin (lx_bin (lx_bin (lx_cutT (lx_name c 0 rfl rfl rfl) lo_none (lo_some (lx_name c 1 rfl rfl rfl))) (lx_cutT (lx_name c 0 rfl rfl rfl) (lo_some (lx_name c 2 rfl rfl rfl)) (lo_some (lx_name c 3 rfl rfl rfl))) (f2_cat ?_)) (lx_cutT (lx_name c 0 rfl rfl rfl) (lo_some (lx_name c 1 rfl rfl rfl)) (lo_some (lx_name c 2 rfl rfl rfl))) (f2_cat ?_)) (lx_cutT (lx_name c 0 rfl rfl rfl) (lo_some (lx_name c 3 rfl rfl rfl)) lo_none) (f2_cat ?_)) _ ?_))
    all_goals (rw [cutD_to, cutD_mid _ _ _ h2])
    · simp only [List.length_take, List.length_drop]
      omega
    all_goals (rw [cutD_mid _ _ _ h1])
    · simp only [List.length_append, List.length_take, List.length_drop]
      omega
    all_goals (rw [cutD_from])
    · simp only [List.length_append, List.length_take, List.length_drop]
      omega
    · exact Fg.of q
end Fy
end
section
set_option linter.all false
set_option maxRecDepth 100000
set_option maxHeartbeats 4000000
namespace Fy
open PySem PySem.Spec PyProof.Rows L2
local macro_rules | `(tactic| walk_at "fy op") => `(tactic| first
  | exact f2_add | exact f2_sub | exact f2_cat (by first | assumption | omega | (simp only [List.length_append, cutD_len] <;> omega)) | exact f2_and | exact f2_mod (by omega) | exact f2_fdiv ⟨by omega, by omega⟩ | exact f2_mul (by unfold CMul; omega))
local macro_rules | `(tactic| walk_at "fy cmp") => `(tactic| first
  | exact f2_lt | exact f2_le | exact f2_gt | exact f2_ge | exact f2_eqI | exact f2_neI | exact f2_eqS | exact f2_isN | exact f2_notN)
local macro_rules | `(tactic| walk_at "fy ix") => `(tactic| first
  | exact ix2_T (by first | assumption | rfl) | exact ix2_L (by assumption) (by assumption))
local macro_rules | `(tactic| walk_at "fy wk") => `(tactic| repeat' (first | exact Paired.nil | exact True.intro | rfl | apply Paired.cons))
variable {T : Tx} {C : Addr} {X : Cx} {h : HD}
theorem isi_ii {i : Int} : CB X (.builtin "isinstance") [.int i, .ty "int"] h (.bl true) h := cb_isi (d := .int i) (show ("int" : String) ≠ "" by decide) (show kitB "int" "int" = some true by decide +kernel)
theorem isi_ib {i : Int} : CB X (.builtin "isinstance") [.int i, .ty "bool"] h (.bl false) h := cb_isi (d := .int i) (show ("int" : String) ≠ "" by decide) (show kitB "int" "bool" = some false by decide +kernel)
theorem isi_tt {ds : List D} : CB X (.builtin "isinstance") [.tup ds, .ty "tuple"] h (.bl true) h := cb_isi (d := .tup ds) (show ("tuple" : String) ≠ "" by decide) (show kitB "tuple" "tuple" = some true by decide +kernel)
theorem isi_tf {ds : List D} : CB X (.builtin "isinstance") [.tupF ds, .ty "tuple"] h (.bl true) h := cb_isi (d := .tupF ds) (show ("tuple" : String) ≠ "" by decide) (show kitB "tuple" "tuple" = some true by decide +kernel)
theorem isi_ss {x : Str} : CB X (.builtin "isinstance") [.str x, .ty "str"] h (.bl true) h := cb_isi (d := .str x) (show ("str" : String) ≠ "" by decide) (show kitB "str" "str" = some true by decide +kernel)
def sp_is_integer : FS := fun ds h Q => ∃ i : Int, ds = [.int i] ∧ Q (.bl true) h
theorem has_is_integer (G : Top T C) : Has T 1 "is_integer" ["thing"] sp_is_integer := by
  refine has_of G.d_is_integer sc_is_integer hv_is_integer (fun ds h Q ⟨i, e, _⟩ => by subst e; rfl) (fun _ _ _ _ _ _ us hl => match us, hl with | [_], _ => rfl) fun X c ds h Q ⟨i, e, q⟩ => ?_
  subst e
  refine lss_one (ls_ret ((lx_and (lx_callB c isi_ii (la_cons (lx_name c 0 rfl rfl rfl) (la_cons (lx_blt c (by decide +kernel) G.b_int (by decide +kernel)) la_nil)) (by decide +kernel) G.b_isinstance (by decide +kernel)) (fun _ => (lx_one (lx_not (lx_callB c isi_ib (la_cons (lx_name c 0 rfl rfl rfl) (la_cons (lx_blt c (by decide +kernel) G.b_bool (by decide +kernel)) la_nil)) (by decide +kernel) G.b_isinstance (by decide +kernel))))) (fun _ => rfl)) _ ?_))
  exact Fg.of q
def sp_is_between : FS := fun ds h Q => ∃ i l m : Int, ds = [.int i, .int l, .int m] ∧ Q (.bl (decide (l ≤ i ∧ i ≤ m))) h
theorem has_is_between (G : Top T C) : Has T 2 "is_between" ["thing", "least", "most"] sp_is_between := by
  refine has_of G.d_is_between sc_is_between hv_is_between (fun ds h Q ⟨i, l, m, e, _⟩ => by subst e; rfl) (fun _ _ _ _ _ _ us hl => match us, hl with | [_, _, _], _ => rfl) fun X c ds h Q ⟨i, l, m, e, q⟩ => ?_
  subst e
  refine lss_one (ls_ret ((lx_and (b1 := true) (lx_call c (has_is_integer G) (by decide) (by decide +kernel) (la_cons (lx_name c 0 rfl rfl rfl) la_nil) fun Q q => ⟨i, rfl, q⟩) (fun _ => (lx_one (lx_chain (lx_name c 1 rfl rfl rfl) (lx_name c 0 rfl rfl rfl) (by walk_at "fy cmp") (fun _ => (lx_name c 2 rfl rfl rfl)) (fun _ => by walk_at "fy cmp") (fun _ => rfl)))) (fun _ => rfl)) _ ?_))
  rw [Bool.true_and, ← Bool.decide_and]
  exact Fg.of q
def sp_is_index : FS := fun ds h Q => ∃ i m : Int, ds = [.int i, .int m] ∧ Q (.bl (decide (0 ≤ i ∧ i < m))) h
theorem has_is_index (G : Top T C) : Has T 3 "is_index" ["thing", "many"] sp_is_index := by
  refine has_of G.d_is_index sc_is_index hv_is_index (fun ds h Q ⟨i, m, e, _⟩ => by subst e; rfl) (fun _ _ _ _ _ _ us hl => match us, hl with | [_, _], _ => rfl) fun X c ds h Q ⟨i, m, e, q⟩ => ?_
  subst e
  refine lss_one (ls_ret ((lx_call c (has_is_between G) (by decide) (by decide +kernel) (la_cons (lx_name c 0 rfl rfl rfl) (la_cons lx_int (la_cons (lx_bin (lx_name c 1 rfl rfl rfl) lx_int (by walk_at "fy op")) la_nil))) fun Q q => ⟨i, 0, m - 1, rfl, q⟩) _ ?_))
  have e : decide (0 ≤ i ∧ i ≤ m - 1) = decide (0 ≤ i ∧ i < m) := by
    congr 1
    exact propext ⟨fun h => by omega, fun h => by omega⟩
  rw [e]
  exact Fg.of q
def sp_check_number : FS := fun ds h Q => ∃ i l m : Int, ds = [.int i, .int l, .int m] ∧ l ≤ i ∧ i ≤ m ∧ Q .non h
theorem has_check_number (G : Top T C) : Has T 3 "check_number" ["thing", "least", "most"] sp_check_number := by
  refine has_of G.d_check_number sc_check_number hv_check_number (fun ds h Q ⟨i, l, m, e, _⟩ => by subst e; rfl) (fun _ _ _ _ _ _ us hl => match us, hl with | [_, _, _], _ => rfl) fun X c ds h Q ⟨i, l, m, e, h1, h2, q⟩ => ?_
  subst e
  refine lss_one (ls_ifB (lb_not (lb_val (lx_call (z := .bl true) c (has_is_between G) (by decide) (by decide +kernel) (la_cons (lx_name c 0 rfl rfl rfl) (la_cons (lx_name c 1 rfl rfl rfl) (la_cons (lx_name c 2 rfl rfl rfl) la_nil))) fun Q q => ⟨i, l, m, rfl, by rw [decide_eq_true ⟨h1, h2⟩]; exact q⟩))) (fun hb => nomatch hb) (fun hb => lss_nil ?_))
  exact Fg.of q
end Fy
end
section
set_option linter.all false
set_option maxRecDepth 100000
set_option maxHeartbeats 4000000
namespace Fy
open PySem PySem.Spec PyProof.Rows L2
local macro_rules | `(tactic| walk_at "fy op") => `(tactic| first
  | exact f2_add | exact f2_sub | exact f2_cat (by first | assumption | omega | (simp only [List.length_append, cutD_len] <;> omega)) | exact f2_and | exact f2_mod (by omega) | exact f2_fdiv ⟨by omega, by omega⟩ | exact f2_mul (by unfold CMul; omega))
local macro_rules | `(tactic| walk_at "fy cmp") => `(tactic| first
  | exact f2_lt | exact f2_le | exact f2_gt | exact f2_ge | exact f2_eqI | exact f2_neI | exact f2_eqS | exact f2_isN | exact f2_notN)
local macro_rules | `(tactic| walk_at "fy ix") => `(tactic| first
  | exact ix2_T (by first | assumption | rfl) | exact ix2_L (by assumption) (by assumption))
local macro_rules | `(tactic| walk_at "fy wk") => `(tactic| repeat' (first | exact Paired.nil | exact True.intro | rfl | apply Paired.cons))
variable {T : Tx} {C : Addr} {X : Cx} {h : HD}
def sp_is_row : FS := fun ds h Q => ∃ r : List Int, ds = [rowD r] ∧ r.length ≤ 100000 ∧ Q (.bl (decide (1 ≤ r.length ∧ r.length ≤ 1000) && r.all fun x => decide (0 ≤ x ∧ x < 4))) h
theorem has_is_row (G : Top T C) : Has T 4 "is_row" ["thing"] sp_is_row := by
  refine has_of G.d_is_row sc_is_row hv_is_row (fun ds h Q ⟨r, e, _⟩ => by subst e; rfl) (fun _ _ _ _ _ _ us hl => match us, hl with | [_], _ => rfl) fun X c ds h Q ⟨r, e, hl, q⟩ => ?_
  subst e
  have hz : (r.map D.int).length = r.length := List.length_map ..
  refine lss_cons (ls_ifB (bb := !decide (1 ≤ r.length ∧ r.length ≤ 1000)) (lb_eq (lb_w (lw_or (b1 := false) (lb_not (lb_val (lx_callB c isi_tt (la_cons (lx_name c 0 rfl rfl rfl) (la_cons (lx_blt c (by decide +kernel) G.b_tuple (by decide +kernel)) la_nil)) (by decide +kernel) G.b_isinstance (by decide +kernel)))) (fun _ => (lw_or1 (lb_not (lb_chain lx_int (lx_callB c cb_lenT (la_cons (lx_name c 0 rfl rfl rfl) la_nil) (by decide +kernel) G.b_len (by decide +kernel)) (by walk_at "fy cmp") (fun _ => (lx_con c (by decide +kernel) G.MOST_LANES)) (fun _ => by walk_at "fy cmp") (fun _ => rfl))))) (fun _ => rfl))) ?_) (fun hb => ?_) (fun hb => ?_))
  · rw [Bool.false_or, ← Bool.decide_and, hz]
    congr 1
    exact decide_eq_decide.mpr ⟨fun h => by omega, fun h => by omega⟩
  · refine lss_one (ls_ret (lx_bl _ ?_))
    rw [Bool.not_eq_true', ] at hb
    rw [hb, Bool.false_and] at q
    exact Fg.of q
  · refine lss_nil ?_
    rw [Bool.not_eq_false'] at hb
    rw [hb, Bool.true_and] at q
    refine lss_one (ls_ret ((lx_callBL c (fun p hp => cb_all c (bs := r.map fun x => decide (0 ≤ x ∧ x < 4)) updD_same) (ll_comp c (own := [("letter", 1)]) (ds := r.map .int) (by decide +kernel) (is := [1]) (by simp) (fun d => [some (rowD r), some d]) (fun R k => li_tup (lx_name c 0 rfl rfl rfl) (k _ _ (Sub.refl _) fun _ _ _ => trivial)) (by simp) (by simpa using hl) (fun i d hd X' b => lg_name (blk_ctx c b rfl rfl) 1 rfl rfl rfl) fun i d rr hh hd hr sb X' b => ?_) (by decide +kernel) G.b_all (by decide +kernel)) _ ?_))
    · rw [List.getElem?_map] at hd hr
      rw [List.getElem?_map] at hr
      cases hx : r[i]? with
      | none => rw [hx] at hd; cases hd
      | some x =>
        rw [hx] at hd hr
        cases hd
        cases hr
        exact lx_call (blk_ctx c b rfl rfl) (has_is_index G) (by decide) (by decide +kernel) (la_cons (lx_name (blk_ctx c b rfl rfl) 1 rfl rfl rfl) (la_cons (lx_con (blk_ctx c b rfl rfl) (by decide +kernel) G.MOST_LETTERS_checks) la_nil)) fun Q q => ⟨x, 4, rfl, q⟩
    · refine Fg.of ?_
      rw [List.all_map]
      exact q
end Fy
end
section
set_option linter.all false
set_option maxRecDepth 100000
set_option maxHeartbeats 4000000
namespace Fy
open PySem PySem.Spec PyProof.Rows L2
local macro_rules | `(tactic| walk_at "fy op") => `(tactic| first
  | exact f2_add | exact f2_sub | exact f2_cat (by first | assumption | omega | (simp only [List.length_append, cutD_len] <;> omega)) | exact f2_and | exact f2_mod (by omega) | exact f2_fdiv ⟨by omega, by omega⟩ | exact f2_mul (by unfold CMul; omega))
local macro_rules | `(tactic| walk_at "fy cmp") => `(tactic| first
  | exact f2_lt | exact f2_le | exact f2_gt | exact f2_ge | exact f2_eqI | exact f2_neI | exact f2_eqS | exact f2_isN | exact f2_notN)
local macro_rules | `(tactic| walk_at "fy ix") => `(tactic| first
  | exact ix2_T (by first | assumption | rfl) | exact ix2_L (by assumption) (by assumption))
local macro_rules | `(tactic| walk_at "fy wk") => `(tactic| repeat' (first | exact Paired.nil | exact True.intro | rfl | apply Paired.cons))
variable {T : Tx} {C : Addr} {X : Cx} {h : HD}
/-! ### rows listed -/
theorem fresh2 {h : HD} {p p2 : Addr} {o : DO} (e : updD h p o p2 = none) : h p2 = none ∧ p2 ≠ p := by
  by_cases z : p2 = p
  · subst z; rw [updD_same] at e; cases e
  · rw [updD_ne z] at e; exact ⟨e, z⟩
theorem rowsOf_len (ls : List Int) : ∀ n, (rowsOf ls n).length = ls.length ^ n
  | 0 => rfl
  | n + 1 => by
    rw [rowsOf, List.length_flatMap, Nat.pow_succ]
    have : (List.map (fun r => (List.map (fun l => r ++ [l]) ls).length) (rowsOf ls n)) = List.replicate (rowsOf ls n).length ls.length := by
      rw [List.eq_replicate_iff]
      exact ⟨by rw [List.length_map], fun b hb => by obtain ⟨r, _, rfl⟩ := List.mem_map.mp hb; rw [List.length_map]⟩
    rw [this, List.sum_replicate_nat, rowsOf_len ls n]
theorem rowsOf_row (ls : List Int) : ∀ n r, r ∈ rowsOf ls n → r.length = n ∧ ∀ x ∈ r, x ∈ ls
  | 0, r, h => by
    rw [rowsOf, List.mem_singleton] at h
    subst h
    exact ⟨rfl, fun x hx => by simp at hx⟩
  | n + 1, r, h => by
    rw [rowsOf, List.mem_flatMap] at h
    obtain ⟨r', h1, h2⟩ := h
    obtain ⟨l, h3, rfl⟩ := List.mem_map.mp h2
    obtain ⟨e, f⟩ := rowsOf_row ls n r' h1
    refine ⟨by rw [List.length_append, e]; rfl, fun x hx => ?_⟩
    rcases List.mem_append.mp hx with z | z
    · exact f x z
    · rw [List.mem_singleton.mp z]; exact h3
/-- what the inner loop has by turn j -/
def growTo (ls : List Int) (rs : List (List Int)) (j : Nat) : List (List Int) := (rs.take j).flatMap fun r => ls.map fun l => r ++ [l]
theorem growTo_len (ls : List Int) (rs : List (List Int)) (j : Nat) : (growTo ls rs j).length ≤ rs.length * ls.length := by
  unfold growTo
  rw [List.length_flatMap]
  have : (List.map (fun r => (List.map (fun l => r ++ [l]) ls).length) (rs.take j)) = List.replicate (rs.take j).length ls.length := by
    rw [List.eq_replicate_iff]
    exact ⟨by rw [List.length_map], fun b hb => by obtain ⟨r, _, rfl⟩ := List.mem_map.mp hb; rw [List.length_map]⟩
  rw [this, List.sum_replicate_nat, List.length_take]
  exact Nat.mul_le_mul_right _ (Nat.min_le_right ..)
theorem growTo_succ (ls : List Int) (rs : List (List Int)) (j : Nat) {r : List Int} (h : rs[j]? = some r) : growTo ls rs (j + 1) = growTo ls rs j ++ ls.map fun l => r ++ [l] := by
  unfold growTo
  rw [List.take_add_one, h, List.flatMap_append]
  simp
theorem growTo_all (ls : List Int) (n : Nat) : growTo ls (rowsOf ls n) (rowsOf ls n).length = rowsOf ls (n + 1) := by
  unfold growTo
  rw [List.take_length]
  rfl
theorem rngD_lets (q : Nat) : rngD 0 q = (lets q).map D.int := by
  unfold rngD lets
  rw [List.map_map]
  apply List.map_congr_left
  intro i _
  show D.int (0 + (i : Int)) = D.int (i : Int)
  rw [Int.zero_add]
theorem map_get {α β : Type} {f : α → β} {l : List α} {i : Nat} {y : β} (h : (l.map f)[i]? = some y) : ∃ x, l[i]? = some x ∧ y = f x := by
  rw [List.getElem?_map] at h
  cases e : l[i]? with
  | none => rw [e] at h; cases h
  | some x => rw [e] at h; exact ⟨x, rfl, (Option.some.inj h).symm⟩
def sp_rows_of : FS := fun ds h Q => ∃ q n : Nat, ds = [.int q, .int n] ∧ n ≤ 12 ∧ 1 ≤ q ∧ q ≤ 64 ∧ q ^ n ≤ 4096 ∧ ∀ p, h p = none → Q (.ref p) (updD h p (.lst ((rowsOf (lets q) n).map rowD)))
theorem has_rows_of (G : Top T C) : Has T 1 "rows_of" ["letters", "lanes"] sp_rows_of := by
  refine has_of G.d_rows_of sc_rows_of hv_rows_of (fun ds h Q ⟨q, n, e, _⟩ => by subst e; rfl) (fun _ _ _ _ _ _ us hl => match us, hl with | [_, _], _ => rfl) fun X c ds h Q ⟨qn, n, e, hn, h1, h64, h4, q⟩ => ?_
  subst e
  have hls : (lets qn).length = qn := by unfold lets; rw [List.length_map, List.length_range]
  have hpow : ∀ i, i + 1 ≤ n → qn ^ i * qn ≤ 4096 := fun i hi => by
    rw [← Nat.pow_succ]
    exact Nat.le_trans (Nat.pow_le_pow_right h1 hi) h4
  refine lss_cons (ls_set c 2 rfl rfl ((ll_disp (la_cons (lx_tup la_nil) la_nil)) _ fun p hp => ?_))
  refine lss_cons (ls_for c (li_range1 c (lx_name c 1 rfl rfl rfl) (by decide +kernel) G.b_range ⟨by omega, by omega⟩ ⟨fun i ρ hh => i ≤ n ∧ ∃ p, h p = none ∧ ρ = [some (.int qn), some (.int n), some (.ref p), none, none, none, none] ∧ hh = updD h p (.lst ((rowsOf (lets qn) i).map rowD)), ⟨Nat.zero_le _, p, hp, rfl, rfl⟩, fun _ _ _ _ => trivial, ?_, ?_⟩))
  · rintro i d ρ1 hh hd ⟨_, p, hp, rfl, rfl⟩
    have hi : i < n := by
      have := (List.getElem?_eq_some_iff.mp hd).1
      rw [rngD_len] at this
      omega
    refine ⟨_, lg_name c 3 rfl rfl ?_⟩
    refine lss_cons (ls_set c 4 rfl rfl ((ll_disp la_nil) _ fun p2 hp2 => ?_))
    obtain ⟨hp2', hne⟩ := fresh2 hp2
    refine lss_cons (ls_for c (li_list (lx_name c 2 rfl rfl rfl) (by rw [updD_ne hne.symm, updD_same]) ⟨fun j ρ hh => j ≤ (rowsOf (lets qn) i).length ∧ ρ = [some (.int qn), some (.int n), some (.ref p), some d, some (.ref p2), none, none] ∧ hh = updD (updD h p (.lst ((rowsOf (lets qn) i).map rowD))) p2 (.lst ((growTo (lets qn) (rowsOf (lets qn) i) j).map rowD)), ?_, ?_, ?_, ?_⟩))
    · exact ⟨Nat.zero_le _, rfl, by simp [growTo]⟩
    · rintro j ρ hh ⟨_, rfl, rfl⟩
      rw [updD_ne hne.symm, updD_same]
    · rintro j d2 ρ2 hh2 hd2 ⟨hj, rfl, rfl⟩
      obtain ⟨r, hr, rfl⟩ := map_get hd2
      have hj' : j < (rowsOf (lets qn) i).length := (List.getElem?_eq_some_iff.mp hr).1
      refine ⟨_, lg_name c 5 rfl rfl ?_⟩
      have hlen : r.length = i := (rowsOf_row _ _ _ (List.mem_of_getElem? hr)).1
      refine lss_one (ls_extend (res := ((lets qn).map fun l => r ++ [l]).map rowD) (lx_name c 4 rfl rfl rfl) updD_same (ll_comp c (own := [("letter", 6)]) (ds := rngD 0 qn) (by decide +kernel) (is := [6]) (by simp) (fun d3 => [some (.int qn), some (.int n), some (.ref p), some d, some (.ref p2), some (rowD r), some d3]) (fun R k => li_range1 c (lx_name c 0 rfl rfl rfl) (by decide +kernel) G.b_range ⟨by omega, by omega⟩ (k _ _ (Sub.refl _) fun _ _ _ => trivial)) (by rw [rngD_len, List.length_map, List.length_map, hls]) (by rw [rngD_len]; omega) (fun i d hd X' b => lg_name (blk_ctx c b rfl rfl) 6 rfl rfl rfl) fun i2 d3 rr hh hd hr2 sb X' b => ?_) ?_ ?_)
      · rw [rngD_lets] at hd
        obtain ⟨l, hl, rfl⟩ := map_get hd
        rw [List.getElem?_map, List.getElem?_map, hl] at hr2
        cases hr2
        refine lx_eq (lx_bin (lx_name (blk_ctx c b rfl rfl) 5 rfl rfl rfl) (lx_tup (la_cons (lx_name (blk_ctx c b rfl rfl) 6 rfl rfl rfl) la_nil)) (f2_cat ?_)) ?_
        · rw [List.length_map]
          show r.length + 1 ≤ 100000
          omega
        · show D.tup _ = D.tup _
          rw [List.map_append]
          rfl
      · have g1 := growTo_len (lets qn) (rowsOf (lets qn) i) j
        rw [rowsOf_len, hls] at g1
        have g2 := hpow i hi
        rw [List.length_map, List.length_map, List.length_map, hls]
        omega
      · refine ⟨_, _, ?_, Sub.refl _, hj', rfl, ?_⟩
        · walk_at "fy wk"
        · rw [updD_updD, growTo_succ _ _ _ hr, List.map_append]
    · rintro ρ hh ⟨_, rfl, rfl⟩
      rw [List.length_map, growTo_all]
      refine lss_one (ls_set c 2 rfl rfl ((lx_name c 4 rfl rfl rfl) _ ?_))
      refine ⟨_, _, ?_, Sub.upd (Sub.new hp) p2 _, hi, p2, hp2', rfl, rfl⟩
      walk_at "fy wk"
  · rintro ρ1 hh ⟨_, p, hp, rfl, rfl⟩
    refine lss_one (ls_ret ((lx_name c 2 rfl rfl rfl) _ ?_))
    rw [rngD_len] at *
    exact Fg.of (q p hp)
def sp_check_listed : FS := fun ds h Q => ∃ q n : Nat, ds = [.int q, .int n] ∧ q ≤ 4 ∧ n ≤ 12 ∧ q ^ n ≤ 4096 ∧ Q .non h
theorem has_check_listed (G : Top T C) : Has T 2 "check_listed" ["letters", "lanes"] sp_check_listed := by
  refine has_of G.d_check_listed sc_check_listed hv_check_listed (fun ds h Q ⟨q, n, e, _⟩ => by subst e; rfl) (fun _ _ _ _ _ _ us hl => match us, hl with | [_, _], _ => rfl) fun X c ds h Q ⟨qn, n, e, h1, h2, h3, q⟩ => ?_
  subst e
  refine lss_one (ls_ifB (bb := false) (lb_eq (lb_cmp (lx_call (z := .int ((qn : Int) ^ n)) c (has_power_of G) (by decide) (by decide +kernel) (la_cons (lx_name c 0 rfl rfl rfl) (la_cons (lx_callB c (cb_min2 c) (la_cons (lx_name c 1 rfl rfl rfl) (la_cons (lx_bin (lx_con c (by decide +kernel) G.MOST_LISTED) lx_int (by walk_at "fy op")) la_nil)) (by decide +kernel) G.b_min (by decide +kernel)) la_nil)) fun Q q => ⟨qn, n, ?_, by omega, by omega, by omega, q⟩) (lx_con c (by decide +kernel) G.MOST_ROWS) (by walk_at "fy cmp")) ?_) (fun hb => nomatch hb) (fun hb => lss_nil (Fg.of q)))
  · rw [if_neg (by omega)]
  · rw [decide_eq_false_iff_not]
    have : ((qn ^ n : Nat) : Int) ≤ 4096 := by exact_mod_cast h3
    rw [Int.natCast_pow] at this
    omega
def onatD : Option Nat → D
  | none => .non
  | some i => .int i
theorem nextP_none {row : List Int} {l : Int} {i : Nat} (h : ∀ j, i ≤ j → row[j]? ≠ some l) : nextP row l i = none := by
  unfold nextP
  rw [List.find?_eq_none.mpr fun j _ => by
    rw [beq_iff_eq]
    exact h _ (Nat.le_add_right ..)]
  rfl
theorem nextP_some {row : List Int} {l : Int} {i k : Nat} (hk : i ≤ k) (h : row[k]? = some l) (hn : ∀ j, i ≤ j → j < k → row[j]? ≠ some l) : nextP row l i = some k := by
  unfold nextP
  have hlt : k < row.length := (List.getElem?_eq_some_iff.mp h).1
  have : (List.range (row.length - i)).find? (fun j => row[i + j]? == some l) = some (k - i) := by
    rw [List.find?_range_eq_some]
    refine ⟨by rw [beq_iff_eq, show i + (k - i) = k by omega]; exact h, by rw [List.mem_range]; omega, fun j hj => ?_⟩
    rw [Bool.not_eq_true', beq_eq_false_iff_ne]
    exact hn _ (Nat.le_add_right ..) (by omega)
  rw [this]
  show some (i + (k - i)) = some k
  rw [show i + (k - i) = k by omega]
def sp_next_place : FS := fun ds h Q => ∃ (r : List Int) (i : Nat) (l : Int), ds = [rowD r, .int i, .int l] ∧ r.length ≤ 1000 ∧ i ≤ 1000 ∧ Q (onatD (nextP r l i)) h
theorem has_next_place (G : Top T C) : Has T 1 "next_place" ["row", "first", "letter"] sp_next_place := by
  refine has_of G.d_next_place sc_next_place hv_next_place (fun ds h Q ⟨r, i, l, e, _⟩ => by subst e; rfl) (fun _ _ _ _ _ _ us hl => match us, hl with | [_, _, _], _ => rfl) fun X c ds h Q ⟨r, i, l, e, h1, h2, q⟩ => ?_
  subst e
  refine lss_cons (ls_for c (li_range2 c (lx_name c 1 rfl rfl rfl) (lx_callB c cb_lenT (la_cons (lx_name c 0 rfl rfl rfl) la_nil) (by decide +kernel) G.b_len (by decide +kernel)) (by decide +kernel) G.b_range ?_ ⟨fun k ρ hh => ρ = [some (rowD r), some (.int i), some (.int l), none] ∧ hh = h ∧ (∀ j, i ≤ j → j < i + k → r[j]? ≠ some l), ⟨rfl, rfl, fun j h1 h2 => by omega⟩, fun _ _ _ _ => trivial, ?_, ?_⟩))
  · rw [List.length_map]; omega
  · rintro k d ρ1 hh hd ⟨rfl, rfl, hno⟩
    have hk := (List.getElem?_eq_some_iff.mp hd).1
    rw [rngD_len, List.length_map] at hk
    rw [rngD_get (by rw [List.length_map]; exact hk)] at hd
    cases hd
    refine ⟨_, lg_name c 3 rfl rfl ?_⟩
    have hlt : i + k < r.length := by omega
    have e1 : r[i + k]? = some r[i + k] := List.getElem?_eq_getElem hlt
    refine lss_one (ls_ifB (lb_cmp (lx_ix (lx_name c 0 rfl rfl rfl) (lx_name c 3 rfl rfl rfl) (ix2_T (atI_nat' (by omega) (z := .int r[i + k]) (by rw [List.getElem?_map, show ((i : Int) + (k : Nat)).toNat = i + k by omega, e1]; rfl)))) (lx_name c 2 rfl rfl rfl) (by walk_at "fy cmp")) (fun hb => ?_) (fun hb => ?_))
    · rw [decide_eq_true_eq] at hb
      refine lss_one (ls_ret ((lx_name c 3 rfl rfl rfl) _ ?_))
      rw [nextP_some (k := i + k) (by omega) (by rw [e1, hb]) fun j h1 h2 => hno j h1 h2] at q
      exact Fg.of q
    · rw [decide_eq_false_iff_not] at hb
      refine lss_nil ⟨_, _, ?_, Sub.refl _, rfl, rfl, fun j h1 h2 => ?_⟩
      · walk_at "fy wk"
      · by_cases z : j = i + k
        · subst z
          rw [e1]
          exact fun w => hb (Option.some.inj w)
        · exact hno j h1 (by omega)
  · rintro ρ1 hh ⟨rfl, rfl, hno⟩
    refine lss_one (ls_ret (lx_non _ ?_))
    rw [rngD_len, List.length_map] at hno
    rw [nextP_none (fun j hj => ?_)] at q
    · exact Fg.of q
    · by_cases z : j < i + ((r.length : Int) - i).toNat
      · exact hno j hj z
      · rw [List.getElem?_eq_none (by omega)]
        exact fun w => nomatch w
end Fy
end
section
set_option linter.all false
set_option maxRecDepth 100000
set_option maxHeartbeats 4000000
namespace Fy
open PySem PySem.Spec PyProof.Rows L2
local macro_rules | `(tactic| walk_at "fy op") => `(tactic| first
  | exact f2_add | exact f2_sub | exact f2_cat (by first | assumption | omega | (simp only [List.length_append, cutD_len] <;> omega)) | exact f2_and | exact f2_mod (by omega) | exact f2_fdiv ⟨by omega, by omega⟩ | exact f2_mul (by unfold CMul; omega))
local macro_rules | `(tactic| walk_at "fy cmp") => `(tactic| first
  | exact f2_lt | exact f2_le | exact f2_gt | exact f2_ge | exact f2_eqI | exact f2_neI | exact f2_eqS | exact f2_isN | exact f2_notN)
local macro_rules | `(tactic| walk_at "fy ix") => `(tactic| first
  | exact ix2_T (by first | assumption | rfl) | exact ix2_L (by assumption) (by assumption))
local macro_rules | `(tactic| walk_at "fy wk") => `(tactic| repeat' (first | exact Paired.nil | exact True.intro | rfl | apply Paired.cons))
variable {T : Tx} {C : Addr} {X : Cx} {h : HD}
def onlD : Option (List Nat) → D
  | none => .non
  | some js => .tup (js.map fun j => .int (j : Nat))
theorem nextP_lt {row : List Int} {l : Int} {i k : Nat} (h : nextP row l i = some k) : k < row.length := by
  unfold nextP at h
  cases e : (List.range (row.length - i)).find? (fun j => row[i + j]? == some l) with
  | none => rw [e] at h; cases h
  | some j =>
    rw [e] at h
    cases h
    have := List.mem_of_find?_eq_some e
    rw [List.mem_range] at this
    show i + j < row.length
    omega
def sp_way_of : FS := fun ds h Q => ∃ r o : List Int, ds = [rowD r, rowD o] ∧ r.length ≤ 1000 ∧ o.length ≤ 1000 ∧ Q (onlD (wayOf r o 0)) h
theorem has_way_of (G : Top T C) : Has T 2 "way_of" ["row", "out"] sp_way_of := by
  refine has_of G.d_way_of sc_way_of hv_way_of (fun ds h Q ⟨r, o, e, _⟩ => by subst e; rfl) (fun _ _ _ _ _ _ us hl => match us, hl with | [_, _], _ => rfl) fun X c ds h Q ⟨r, o, e, h1, h2, q⟩ => ?_
  subst e
  refine lss_cons (ls_set c 2 rfl rfl ((ll_disp la_nil) _ fun p hp => ?_))
  refine lss_cons (ls_set c 3 rfl rfl (lx_int _ ?_))
  refine lss_cons (ls_for c (li_tup (lx_name c 1 rfl rfl rfl) ⟨fun k ρ hh => ∃ (pre : List Nat) (pl : Nat), k ≤ o.length ∧ pre.length = k ∧ pl ≤ 1000 ∧ ρ = [some (rowD r), some (rowD o), some (.ref p), some (.int pl), none] ∧ hh = updD h p (.lst (pre.map fun j => .int (j : Nat))) ∧ wayOf r o 0 = (wayOf r (o.drop k) pl).map (pre ++ ·), ?_, fun _ _ _ _ => trivial, ?_, ?_⟩))
  · refine ⟨[], 0, Nat.zero_le _, rfl, by omega, rfl, rfl, ?_⟩
    rw [List.drop_zero]
    cases wayOf r o 0 <;> rfl
  · rintro k d ρ1 hh hd ⟨pre, pl, hk, hpl, hp2, rfl, rfl, hw⟩
    obtain ⟨l, hl, rfl⟩ := map_get hd
    have hk' : k < o.length := (List.getElem?_eq_some_iff.mp hl).1
    refine ⟨_, lg_name c 4 rfl rfl ?_⟩
    have hdr : o.drop k = l :: o.drop (k + 1) := by
      rw [List.drop_eq_getElem_cons hk']
      congr 1
      exact (List.getElem?_eq_some_iff.mp hl).2
    rw [hdr, wayOf] at hw
    refine lss_cons (ls_set c 3 rfl rfl ((lx_call (z := onatD (nextP r l pl)) c (has_next_place G) (by decide) (by decide +kernel) (la_cons (lx_name c 0 rfl rfl rfl) (la_cons (lx_name c 3 rfl rfl rfl) (la_cons (lx_name c 4 rfl rfl rfl) la_nil))) fun Q q => ⟨r, pl, l, rfl, h1, hp2, q⟩) _ ?_))
    cases e : nextP r l pl with
    | none =>
      rw [e] at hw
      refine lss_cons (ls_ifB (lb_cmp (lx_name c 3 rfl rfl rfl) lx_non (by walk_at "fy cmp")) (fun hb => lss_one (ls_ret (lx_non _ ?_))) (fun hb => nomatch (show true = false from hb)))
      rw [hw] at q
      exact ⟨h, Sub.new hp, q⟩
    | some j =>
      rw [e] at hw
      have hj := nextP_lt e
      refine lss_cons (ls_ifB (lb_cmp (lx_name c 3 rfl rfl rfl) lx_non (by walk_at "fy cmp")) (fun hb => nomatch (show false = true from hb)) (fun hb => lss_nil ?_))
      refine lss_one (ls_append (xs0 := pre.map fun j => .int (j : Nat)) (lx_name c 2 rfl rfl rfl) updD_same ((lx_name c 3 rfl rfl rfl) _ ⟨_, updD_same, by rw [List.length_map]; omega, ?_⟩))
      refine ⟨_, _, ?_, Sub.refl _, pre ++ [j], j, hk', by rw [List.length_append, hpl]; rfl, by omega, rfl, ?_, ?_⟩
      · walk_at "fy wk"
      · rw [updD_updD, List.map_append]
        rfl
      · rw [hw]
        show Option.map (pre ++ ·) (Option.map (j :: ·) (wayOf r (o.drop (k + 1)) j)) = _
        rw [Option.map_map]
        congr 1
        funext x
        show pre ++ (j :: x) = pre ++ [j] ++ x
        rw [List.append_assoc]
        rfl
  · rintro ρ1 hh ⟨pre, pl, hk, hpl, hp2, rfl, rfl, hw⟩
    rw [List.length_map, List.drop_length, wayOf] at hw
    refine lss_one (ls_ret ((lx_callTy c (cb_tupL updD_same) (la_cons (lx_name c 2 rfl rfl rfl) la_nil) (by decide +kernel) G.b_tuple (by decide +kernel)) _ ?_))
    rw [hw] at q
    refine ⟨h, Sub.new hp, ?_⟩
    have e : onlD (Option.map (pre ++ ·) (some [])) = D.tup (pre.map fun j => .int (j : Nat)) := by
      show D.tup ((pre ++ []).map _) = _
      rw [List.append_nil]
    rw [e] at q
    exact q
/-! ### exchanges -/
def sp_is_exchange : FS := fun ds h Q => ∃ a b c m : Int, ds = [.tup [.int a, .int b, .int c], .int m] ∧ Q (.bl (decide (0 ≤ a ∧ a < b ∧ b < c ∧ c ≤ m))) h
theorem has_is_exchange (G : Top T C) : Has T 1 "is_exchange" ["thing", "lanes"] sp_is_exchange := by
  refine has_of G.d_is_exchange sc_is_exchange hv_is_exchange (fun ds h Q ⟨a, b, c, m, e, _⟩ => by subst e; rfl) (fun _ _ _ _ _ _ us hl => match us, hl with | [_, _], _ => rfl) fun X c ds h Q ⟨i, j, l, m, e, q⟩ => ?_
  subst e
  refine lss_one (ls_ret ((lx_chainN lx_int (ch_link (lx_ix (lx_name c 0 rfl rfl rfl) lx_int (ix2_T rfl)) f2_le fun _ => ch_link (lx_ix (lx_name c 0 rfl rfl rfl) lx_int (ix2_T rfl)) f2_lt fun _ => ch_link (lx_ix (lx_name c 0 rfl rfl rfl) lx_int (ix2_T rfl)) f2_lt fun _ => ch_last (lx_name c 1 rfl rfl rfl) f2_le)) _ ?_))
  rw [← Bool.decide_and, ← Bool.decide_and, ← Bool.decide_and]
  exact Fg.of q
def exD (e : Nat × Nat × Nat) : D := .tup [.int e.1, .int e.2.1, .int e.2.2]
theorem flat_len {α β : Type} (f : α → List β) (m : Nat) : ∀ l : List α, (∀ x ∈ l, (f x).length ≤ m) → (l.flatMap f).length ≤ l.length * m
  | [], _ => by simp
  | x :: l, h => by
    rw [List.flatMap_cons, List.length_append, List.length_cons, Nat.succ_mul]
    have h1 := h x List.mem_cons_self
    have h2 := flat_len f m l fun y hy => h y (List.mem_cons_of_mem _ hy)
    omega
def exsB (n a b : Nat) : List (Nat × Nat × Nat) := (List.range (n - b)).map fun l => (a, b, b + 1 + l)
theorem exsA_eq (n a : Nat) : exsA n a = (List.range (n - 1 - a)).flatMap fun j => exsB n a (a + 1 + j) := rfl
theorem exsA_len (n a : Nat) : (exsA n a).length ≤ n * n := by
  rw [exsA_eq]
  refine Nat.le_trans (flat_len _ n _ fun x _ => ?_) (Nat.mul_le_mul_right _ ?_)
  · unfold exsB
    rw [List.length_map, List.length_range]
    omega
  · rw [List.length_range]; omega
theorem range_flat_succ {β : Type} (f : Nat → List β) (i : Nat) : (List.range (i + 1)).flatMap f = (List.range i).flatMap f ++ f i := by
  rw [List.range_succ, List.flatMap_append]
  simp
def sp_all_exchanges : FS := fun ds h Q => ∃ n : Nat, ds = [.int n] ∧ n ≤ 20 ∧ ∀ p, h p = none → Q (.ref p) (updD h p (.lst ((exs n).map exD)))
theorem has_all_exchanges (G : Top T C) : Has T 1 "all_exchanges" ["lanes"] sp_all_exchanges := by
  refine has_of G.d_all_exchanges sc_all_exchanges hv_all_exchanges (fun ds h Q ⟨n, e, _⟩ => by subst e; rfl) (fun _ _ _ _ _ _ us hl => match us, hl with | [_], _ => rfl) fun X c ds h Q ⟨n, e, h1, q⟩ => ?_
  subst e
  have hnn : n * n ≤ 400 := Nat.mul_le_mul h1 h1
  refine lss_cons (ls_set c 1 rfl rfl ((ll_disp la_nil) _ fun p hp => ?_))
  refine lss_cons (ls_for c (li_range1 c (lx_bin (lx_name c 0 rfl rfl rfl) lx_int (by walk_at "fy op")) (by decide +kernel) G.b_range ⟨by omega, by omega⟩ ⟨fun i ρ hh => ρ = [some (.int n), some (.ref p), none, none, none] ∧ hh = updD h p (.lst (((List.range i).flatMap (exsA n)).map exD)), ⟨rfl, rfl⟩, fun _ _ _ _ => trivial, ?_, ?_⟩))
  · rintro i d ρ1 hh hd ⟨rfl, rfl⟩
    have hi := (List.getElem?_eq_some_iff.mp hd).1
    rw [rngD_len] at hi
    rw [rngD_get hi, Int.zero_add] at hd
    cases hd
    refine ⟨_, lg_name c 2 rfl rfl ?_⟩
    refine lss_one (ls_for c (li_range2 c (lx_bin (lx_name c 2 rfl rfl rfl) lx_int (by walk_at "fy op")) (lx_name c 0 rfl rfl rfl) (by decide +kernel) G.b_range ⟨by omega, by omega, by omega, by omega⟩ ⟨fun j ρ hh => ρ = [some (.int n), some (.ref p), some (.int i), none, none] ∧ hh = updD h p (.lst (((List.range i).flatMap (exsA n) ++ (List.range j).flatMap fun j => exsB n i (i + 1 + j)).map exD)), ⟨rfl, by rw [List.range_zero, List.flatMap_nil, List.append_nil]⟩, fun _ _ _ _ => trivial, ?_, ?_⟩))
    · rintro j d ρ1 hh hd ⟨rfl, rfl⟩
      have hj := (List.getElem?_eq_some_iff.mp hd).1
      rw [rngD_len] at hj
      rw [rngD_get hj] at hd
      cases hd
      have hjn : i + 1 + j < n := by omega
      refine ⟨_, lg_name c 3 rfl rfl ?_⟩
      refine lss_one (ls_extend (res := (exsB n i (i + 1 + j)).map exD) (lx_name c 1 rfl rfl rfl) updD_same (ll_comp c (own := [("c", 4)]) (ds := rngD (i + 1 + j + 1) (n - (i + 1 + j))) (by decide +kernel) (is := [4]) (by simp) (fun d3 => [some (.int n), some (.ref p), some (.int i), some (.int ((i : Int) + 1 + j)), some d3]) (fun R k => li_range2 c (lx_bin (lx_name c 3 rfl rfl rfl) lx_int (by walk_at "fy op")) (lx_bin (lx_name c 0 rfl rfl rfl) lx_int (by walk_at "fy op")) (by decide +kernel) G.b_range ⟨by omega, by omega, by omega, by omega⟩ (by
          have e1 : ((n : Int) + 1 - (i + 1 + j + 1)).toNat = n - (i + 1 + j) := by omega
          rw [e1]
          exact k _ _ (Sub.refl _) fun _ _ _ => trivial)) (by rw [rngD_len, List.length_map]; unfold exsB; rw [List.length_map, List.length_range]) (by rw [rngD_len]; omega) (fun i d hd X' b => lg_name (blk_ctx c b rfl rfl) 4 rfl rfl rfl) fun i2 d3 rr hh hd hr2 sb X' b => ?_) ?_ ?_)
      · have hi2 := (List.getElem?_eq_some_iff.mp hd).1
        rw [rngD_len] at hi2
        rw [rngD_get hi2] at hd
        cases hd
        unfold exsB at hr2
        rw [List.getElem?_map, List.getElem?_map, List.getElem?_range hi2] at hr2
        cases hr2
        refine lx_eq (lx_tup (la_cons (lx_name (blk_ctx c b rfl rfl) 2 rfl rfl rfl) (la_cons (lx_name (blk_ctx c b rfl rfl) 3 rfl rfl rfl) (la_cons (lx_name (blk_ctx c b rfl rfl) 4 rfl rfl rfl) la_nil)))) ?_
        show D.tup _ = D.tup [.int ((i : Nat) : Int), .int ((i + 1 + j : Nat) : Int), .int ((i + 1 + j + 1 + i2 : Nat) : Int)]
        congr 3
      · have g1 := flat_len (exsA n) (n * n) (List.range i) fun x _ => exsA_len n x
        have g2 := flat_len (fun j => exsB n i (i + 1 + j)) n (List.range j) fun x _ => by unfold exsB; rw [List.length_map, List.length_range]; omega
        rw [List.length_range] at g1 g2
        rw [List.length_map, List.length_map, List.length_append]
        unfold exsB at *
        rw [List.length_map, List.length_range]
        have g3 : i * (n * n) ≤ 20 * 400 := Nat.mul_le_mul (by omega) hnn
        have g4 : j * n ≤ 20 * 20 := Nat.mul_le_mul (by omega) h1
        omega
      · refine ⟨_, _, ?_, Sub.refl _, rfl, ?_⟩
        · walk_at "fy wk"
        · rw [updD_updD, range_flat_succ, ← List.append_assoc, List.map_append (l₂ := exsB n i (i + 1 + j))]
    · rintro ρ1 hh ⟨rfl, rfl⟩
      refine ⟨_, _, ?_, Sub.refl _, rfl, ?_⟩
      · walk_at "fy wk"
      · rw [range_flat_succ, exsA_eq n i, rngD_len, show ((n : Int) - (i + 1)).toNat = n - 1 - i by omega]
  · rintro ρ1 hh ⟨rfl, rfl⟩
    refine lss_one (ls_ret ((lx_name c 1 rfl rfl rfl) _ ?_))
    rw [rngD_len, show ((n : Int) - 1).toNat = n - 1 by omega]
    exact Fg.of (q p hp)
end Fy
end
section
set_option linter.all false
set_option maxRecDepth 100000
set_option maxHeartbeats 4000000
namespace Fy
open PySem PySem.Spec PyProof.Rows L2
local macro_rules | `(tactic| walk_at "fy op") => `(tactic| first
  | exact f2_add | exact f2_sub | exact f2_cat (by first | assumption | omega | (simp only [List.length_append, cutD_len] <;> omega)) | exact f2_and | exact f2_mod (by omega) | exact f2_fdiv ⟨by omega, by omega⟩ | exact f2_mul (by unfold CMul; omega))
local macro_rules | `(tactic| walk_at "fy cmp") => `(tactic| first
  | exact f2_lt | exact f2_le | exact f2_gt | exact f2_ge | exact f2_eqI | exact f2_neI | exact f2_eqS | exact f2_isN | exact f2_notN)
local macro_rules | `(tactic| walk_at "fy ix") => `(tactic| first
  | exact ix2_T (by first | assumption | rfl) | exact ix2_L (by assumption) (by assumption))
local macro_rules | `(tactic| walk_at "fy wk") => `(tactic| repeat' (first | exact Paired.nil | exact True.intro | rfl | apply Paired.cons))
variable {T : Tx} {C : Addr} {X : Cx} {h : HD}
theorem sorted_uniq : ∀ {a b : List Int}, a.Pairwise (· < ·) → b.Pairwise (· < ·) → (∀ k, k ∈ a ↔ k ∈ b) → a = b
  | [], [], _, _, _ => rfl
  | [], y :: b, _, _, h => by have := (h y).mpr List.mem_cons_self; simp at this
  | x :: a, [], _, _, h => by have := (h x).mp List.mem_cons_self; simp at this
  | x :: a, y :: b, ha, hb, h => by
    obtain ⟨h1, h2⟩ := List.pairwise_cons.mp ha
    obtain ⟨h3, h4⟩ := List.pairwise_cons.mp hb
    have e : x = y := by
      rcases List.mem_cons.mp ((h x).mp List.mem_cons_self) with z | z
      · exact z
      · rcases List.mem_cons.mp ((h y).mpr List.mem_cons_self) with w | w
        · exact w.symm
        · have := h3 x z; have := h1 y w; omega
    subst e
    congr 1
    refine sorted_uniq h2 h4 fun k => ⟨fun hk => ?_, fun hk => ?_⟩
    · rcases List.mem_cons.mp ((h k).mp (List.mem_cons_of_mem _ hk)) with z | z
      · have := h1 k hk; omega
      · exact z
    · rcases List.mem_cons.mp ((h k).mpr (List.mem_cons_of_mem _ hk)) with z | z
      · have := h3 k hk; omega
      · exact z
def sp_outs_of : FS := fun ds h Q => ∃ (r ls : List Int) (n : Nat), ds = [rowD r, .int n] ∧ r.length < 63 ∧ ls.Pairwise (· < ·) ∧ (∀ k, k ∈ ls ↔ k ∈ r) ∧ n ≤ 12 ∧ 1 ≤ ls.length ∧ ls.length ≤ 64 ∧ ls.length ^ n ≤ 4096 ∧ ∀ p, h p = none → Q (.ref p) (updD h p (.lst ((rowsOf ls n).map rowD)))
theorem has_outs_of (G : Top T C) : Has T 1 "outs_of" ["row", "lanes"] sp_outs_of := by
  refine has_of G.d_outs_of sc_outs_of hv_outs_of (fun ds h Q ⟨r, ls, n, e, _⟩ => by subst e; rfl) (fun _ _ _ _ _ _ us hl => match us, hl with | [_, _], _ => rfl) fun X c ds h0 Q ⟨r, ls, n, e, hr63, hls, hmem, hn, h1, h64, h4, q⟩ => ?_
  subst e
  have hpow : ∀ i, i + 1 ≤ n → ls.length ^ i * ls.length ≤ 4096 := fun i hi => by
    rw [← Nat.pow_succ]
    exact Nat.le_trans (Nat.pow_le_pow_right h1 hi) h4
  refine lss_cons (ls_set c 2 rfl rfl ((ll_sset (ns := r) c (ll_callTy c cbl_listT (la_cons (lx_name c 0 rfl rfl rfl) la_nil) (by decide +kernel) G.b_list (by decide +kernel)) hr63 (res := ls.map .int) (fun ns' hp hm => by rw [sorted_uniq hp hls fun k => (hm k).trans (hmem k).symm]) (by decide +kernel) G.b_set (by decide +kernel) G.b_sorted) _ fun pl hpl => ?_))
  generalize hh0 : updD h0 pl (.lst (ls.map .int)) = h
  have epl : h pl = some (.lst (ls.map .int)) := by rw [← hh0]; exact updD_same
  have sb0 : Sub h0 h := by rw [← hh0]; exact Sub.new hpl
  have q' : ∀ p, h p = none → Fg (Q (.ref p)) (updD h p (.lst ((rowsOf ls n).map rowD))) := fun p hp => by
    have hp0 : h0 p = none := by
      cases e : h0 p with
      | none => rfl
      | some o => rw [sb0 p o e] at hp; cases hp
    exact ⟨_, sb0.upd p _, q p hp0⟩
  refine lss_cons (ls_set c 3 rfl rfl ((ll_disp (la_cons (lx_tup la_nil) la_nil)) _ fun p hp => ?_))
  refine lss_cons (ls_for c (li_range1 c (lx_name c 1 rfl rfl rfl) (by decide +kernel) G.b_range ⟨by omega, by omega⟩ ⟨fun i ρ hh => i ≤ n ∧ ∃ p, h p = none ∧ ρ = [some (rowD r), some (.int n), some (.ref pl), some (.ref p), none, none, none, none] ∧ hh = updD h p (.lst ((rowsOf ls i).map rowD)), ⟨Nat.zero_le _, p, hp, rfl, rfl⟩, fun _ _ _ _ => trivial, ?_, ?_⟩))
  · rintro i d ρ1 hh hd ⟨_, p, hp, rfl, rfl⟩
    have hi : i < n := by
      have := (List.getElem?_eq_some_iff.mp hd).1
      rw [rngD_len] at this
      omega
    refine ⟨_, lg_name c 4 rfl rfl ?_⟩
    refine lss_cons (ls_set c 5 rfl rfl ((ll_disp la_nil) _ fun p2 hp2 => ?_))
    obtain ⟨hp2', hne⟩ := fresh2 hp2
    refine lss_cons (ls_for c (li_list (lx_name c 3 rfl rfl rfl) (by rw [updD_ne hne.symm, updD_same]) ⟨fun j ρ hh => j ≤ (rowsOf ls i).length ∧ ρ = [some (rowD r), some (.int n), some (.ref pl), some (.ref p), some d, some (.ref p2), none, none] ∧ hh = updD (updD h p (.lst ((rowsOf ls i).map rowD))) p2 (.lst ((growTo ls (rowsOf ls i) j).map rowD)), ?_, ?_, ?_, ?_⟩))
    · exact ⟨Nat.zero_le _, rfl, by simp [growTo]⟩
    · rintro j ρ hh ⟨_, rfl, rfl⟩
      rw [updD_ne hne.symm, updD_same]
    · rintro j d2 ρ2 hh2 hd2 ⟨hj, rfl, rfl⟩
      obtain ⟨o, ho, rfl⟩ := map_get hd2
      have hj' : j < (rowsOf ls i).length := (List.getElem?_eq_some_iff.mp ho).1
      refine ⟨_, lg_name c 6 rfl rfl ?_⟩
      have hlen : o.length = i := (rowsOf_row _ _ _ (List.mem_of_getElem? ho)).1
      have ecur : updD (updD h p (.lst ((rowsOf ls i).map rowD))) p2 (.lst ((growTo ls (rowsOf ls i) j).map rowD)) pl = some (.lst (ls.map .int)) := by
        rw [updD_ne (neN epl hp2'), updD_ne (neN epl hp)]
        exact epl
      refine lss_one (ls_extend (res := (ls.map fun l => o ++ [l]).map rowD) (lx_name c 5 rfl rfl rfl) updD_same (ll_comp c (own := [("letter", 7)]) (ds := ls.map .int) (by decide +kernel) (is := [7]) (by simp) (fun d3 => [some (rowD r), some (.int n), some (.ref pl), some (.ref p), some d, some (.ref p2), some (rowD o), some d3]) (fun R k => li_list (lx_name c 2 rfl rfl rfl) ecur (k _ _ (Sub.refl _) fun p' acc hp' => by rw [updD_ne (neN ecur hp')]; exact ecur)) (by rw [List.length_map, List.length_map, List.length_map]) (by rw [List.length_map]; omega) (fun i d hd X' b => lg_name (blk_ctx c b rfl rfl) 7 rfl rfl rfl) fun i2 d3 rr hh hd hr2 sb X' b => ?_) ?_ ?_)
      · obtain ⟨l, hl, rfl⟩ := map_get hd
        rw [List.getElem?_map, List.getElem?_map, hl] at hr2
        cases hr2
        refine lx_eq (lx_bin (lx_name (blk_ctx c b rfl rfl) 6 rfl rfl rfl) (lx_tup (la_cons (lx_name (blk_ctx c b rfl rfl) 7 rfl rfl rfl) la_nil)) (f2_cat ?_)) ?_
        · rw [List.length_map]
          show o.length + 1 ≤ 100000
          omega
        · show D.tup _ = D.tup _
          rw [List.map_append]
          rfl
      · have g1 := growTo_len ls (rowsOf ls i) j
        rw [rowsOf_len] at g1
        have g2 := hpow i hi
        rw [List.length_map, List.length_map, List.length_map]
        omega
      · refine ⟨_, _, ?_, Sub.refl _, hj', rfl, ?_⟩
        · walk_at "fy wk"
        · rw [updD_updD, growTo_succ _ _ _ ho, List.map_append]
    · rintro ρ hh ⟨_, rfl, rfl⟩
      rw [List.length_map, growTo_all]
      refine lss_one (ls_set c 3 rfl rfl ((lx_name c 5 rfl rfl rfl) _ ?_))
      refine ⟨_, _, ?_, Sub.upd (Sub.new hp) p2 _, hi, p2, hp2', rfl, rfl⟩
      walk_at "fy wk"
  · rintro ρ1 hh ⟨_, p, hp, rfl, rfl⟩
    refine lss_one (ls_ret ((lx_name c 3 rfl rfl rfl) _ ?_))
    rw [rngD_len]
    exact q' p hp
end Fy
end
section
set_option linter.all false
set_option maxRecDepth 100000
set_option maxHeartbeats 4000000
namespace Fy
open PySem PySem.Spec PyProof.Rows L2
local macro_rules | `(tactic| walk_at "fy op") => `(tactic| first
  | exact f2_add | exact f2_sub | exact f2_cat (by first | assumption | omega | (simp only [List.length_append, cutD_len] <;> omega)) | exact f2_and | exact f2_mod (by omega) | exact f2_fdiv ⟨by omega, by omega⟩ | exact f2_mul (by unfold CMul; omega))
local macro_rules | `(tactic| walk_at "fy cmp") => `(tactic| first
  | exact f2_lt | exact f2_le | exact f2_gt | exact f2_ge | exact f2_eqI | exact f2_neI | exact f2_eqS | exact f2_isN | exact f2_notN)
local macro_rules | `(tactic| walk_at "fy ix") => `(tactic| first
  | exact ix2_T (by first | assumption | rfl) | exact ix2_L (by assumption) (by assumption))
local macro_rules | `(tactic| walk_at "fy wk") => `(tactic| repeat' (first | exact Paired.nil | exact True.intro | rfl | apply Paired.cons))
variable {T : Tx} {C : Addr} {X : Cx} {h : HD}
/-! ### falls -/
theorem cutD_tail (ds : List D) : cutD ds (some 1) none = ds.drop 1 := cutD_from ds 1
def pairF (pre : Rho) : D → Rho
  | .tup [x, y] => pre ++ [some x, some y]
  | _ => []
def fallsL : List Int → List Bool
  | x :: y :: r => decide (y < x) :: fallsL (y :: r)
  | _ => []
theorem fallsL_len : ∀ r : List Int, (fallsL r).length = r.length - 1
  | [] => rfl
  | [_] => rfl
  | x :: y :: r => by
    rw [fallsL, List.length_cons, fallsL_len (y :: r)]
    simp
theorem fallsL_get : ∀ (r : List Int) (i : Nat) (x y : Int), r[i]? = some x → r[i + 1]? = some y → (fallsL r)[i]? = some (decide (y < x))
  | [], _, _, _, h, _ => by simp at h
  | [_], 0, _, _, _, h => by simp at h
  | [_], _ + 1, _, _, h, _ => by simp at h
  | a :: b :: r, 0, x, y, h1, h2 => by
    simp at h1 h2
    subst h1 h2
    rfl
  | a :: b :: r, i + 1, x, y, h1, h2 => by
    rw [fallsL, List.getElem?_cons_succ]
    exact fallsL_get (b :: r) i x y (by simpa using h1) (by simpa using h2)
theorem fallsL_any : ∀ r : List Int, (fallsL r).any id = !rises r
  | [] => rfl
  | [_] => rfl
  | x :: y :: r => by
    rw [fallsL, List.any_cons, fallsL_any (y :: r), rises]
    by_cases h : y < x
    · simp [h, Int.not_le.mpr h]
    · simp [h, Int.not_lt.mp h]
def sp_falls : FS := fun ds h Q => ∃ r : List Int, ds = [rowD r] ∧ r.length ≤ 1000 ∧ Q (.bl (!rises r)) h
theorem has_falls (G : Top T C) : Has T 1 "falls" ["lanes"] sp_falls := by
  refine has_of G.d_falls sc_falls hv_falls (fun ds h Q ⟨r, e, _⟩ => by subst e; rfl) (fun _ _ _ _ _ _ us hl => match us, hl with | [_], _ => rfl) fun X c ds h Q ⟨r, e, h1, q⟩ => ?_
  subst e
  have hz : (zipD (r.map D.int) (cutD (r.map D.int) (some 1) none)).length = (fallsL r).length := by
    rw [zipD_len, cutD_tail, List.length_drop, List.length_map, fallsL_len]
    omega
  refine lss_one (ls_ret ((lx_callBL c (fun p hp => cb_any c (bs := fallsL r) updD_same) (ll_comp c (own := [("one", 1), ("other", 2)]) (ds := zipD (r.map .int) (cutD (r.map .int) (some 1) none)) (by decide +kernel) (is := [1] ++ ([2] ++ [])) (by simp) (pairF [some (rowD r)]) (fun R k => li_zipT c (lx_name c 0 rfl rfl rfl) (lx_cutT (lx_name c 0 rfl rfl rfl) (lo_some lx_int) lo_none) (by decide +kernel) G.b_zip (k _ _ (Sub.refl _) fun _ _ _ => trivial)) (by rw [hz, List.length_map]) (by rw [hz, fallsL_len]; omega) (fun i d hd X' b => ?_) fun i d rr hh hd hr sb X' b => ?_) (by decide +kernel) G.b_any (by decide +kernel)) _ ?_))
  · have hi := (List.getElem?_eq_some_iff.mp hd).1
    unfold zipD at hd
    obtain ⟨⟨x, y⟩, hxy, rfl⟩ := map_get hd
    exact lg_tup (blk_ctx c b rfl rfl) (lgs_cons (lg_name (blk_ctx c b rfl rfl) 1 rfl rfl (lgs_cons (lg_name (blk_ctx c b rfl rfl) 2 rfl rfl (lgs_nil rfl))))) rfl
  · unfold zipD at hd
    obtain ⟨⟨x, y⟩, hxy, rfl⟩ := map_get hd
    rw [List.getElem?_zip_eq_some, cutD_tail, List.getElem?_drop] at hxy
    obtain ⟨hx, hy⟩ := hxy
    obtain ⟨a, ha, rfl⟩ := map_get hx
    obtain ⟨b', hb', rfl⟩ := map_get hy
    rw [List.getElem?_map, fallsL_get r i a b' ha (by rw [Nat.add_comm]; exact hb')] at hr
    cases hr
    exact lx_cmp (lx_name (blk_ctx c b rfl rfl) 1 rfl rfl rfl) (lx_name (blk_ctx c b rfl rfl) 2 rfl rfl rfl) f2_gt
  · rw [fallsL_any]
    exact Fg.of q
/-! ### going through by exchanges: the state -/
def rowK (r : List Int) : List Key := r.map Sum.inl
theorem rowK_kd (r : List Int) : (rowK r).map kd = r.map D.int := by
  unfold rowK
  rw [List.map_map]
  rfl
theorem rowK_inj : ∀ {r s : List Int}, rowK r = rowK s → r = s
  | [], [], _ => rfl
  | [], _ :: _, h => by cases h
  | _ :: _, [], h => by cases h
  | x :: r, y :: s, h => by
    have h1 := (List.cons.inj h).1
    have h2 := (List.cons.inj h).2
    rw [Sum.inl.inj h1, rowK_inj h2]
def WD (W : BW) : List (List Key × D) := W.map fun p => (rowK p.1, .int (p.2 : Nat))
def WL (W : BW) : List D := W.map fun p => rowD p.1
def bGet (W : BW) (r : List Int) : Option Nat := (W.find? fun p => decide (p.1 = r)).map (·.2)
theorem valD_WD (W : BW) (r : List Int) : valD (WD W) (rowK r) = (bGet W r).map fun d => .int (d : Nat) := by
  unfold valD bGet WD
  induction W with
  | nil => rfl
  | cons p W ih =>
    rw [List.map_cons, List.find?_cons, List.find?_cons]
    by_cases z : p.1 = r
    · simp [z]
    · have z2 : ¬ rowK p.1 = rowK r := fun w => z (rowK_inj w)
      simp only [z, z2, decide_false]
      exact ih
theorem bGet_none {W : BW} {r : List Int} : bGet W r = none ↔ r ∉ W.map (·.1) := by
  unfold bGet
  rw [Option.map_eq_none_iff, List.find?_eq_none]
  constructor
  · intro h hm
    obtain ⟨p, hp, rfl⟩ := List.mem_map.mp hm
    exact h p hp (decide_eq_true rfl)
  · intro h p hp hd
    exact h (List.mem_map.mpr ⟨p, hp, of_decide_eq_true hd⟩)
theorem bGet_app {W V : BW} {r : List Int} {d : Nat} (h : bGet W r = some d) : bGet (W ++ V) r = some d := by
  unfold bGet at h ⊢
  rw [List.find?_append]
  cases e : W.find? fun p => decide (p.1 = r) with
  | none => rw [e] at h; cases h
  | some p => rw [e] at h; exact h
theorem bAdd_app (d : Nat) (W : BW) (t : List Int) : ∃ V, bAdd d W t = W ++ V := by
  unfold bAdd
  split
  · exact ⟨[], (List.append_nil _).symm⟩
  · exact ⟨_, rfl⟩
theorem bAdd_len (d : Nat) (W : BW) (t : List Int) : (bAdd d W t).length ≤ W.length + 1 := by
  unfold bAdd
  split
  · omega
  · rw [List.length_append]; exact Nat.le_refl _
theorem putD_WD {W : BW} {t : List Int} {d : Nat} (h : t ∉ W.map (·.1)) : putD (WD W) (rowK t) (.int (d : Nat)) = WD (W ++ [(t, d)]) := by
  unfold putD
  rw [if_neg]
  · unfold WD
    rw [List.map_append]
    rfl
  · rw [List.any_eq_true]
    rintro ⟨kv, h1, h2⟩
    unfold WD at h1
    obtain ⟨p, hp, rfl⟩ := List.mem_map.mp h1
    exact h (List.mem_map.mpr ⟨p, hp, rowK_inj (of_decide_eq_true h2)⟩)
theorem bTurn_take (es : List (Nat × Nat × Nat)) (W : BW) (r : List Int) (d i : Nat) {e : Nat × Nat × Nat} (h : es[i]? = some e) : bTurn (es.take (i + 1)) W r d = bAdd d (bTurn (es.take i) W r d) (exch r e.1 e.2.1 e.2.2) := by
  unfold bTurn
  rw [List.take_add_one, h, List.foldl_append]
  rfl
theorem bTurn_app (es : List (Nat × Nat × Nat)) (W : BW) (r : List Int) (d : Nat) : ∃ V, bTurn es W r d = W ++ V := by
  unfold bTurn
  induction es generalizing W with
  | nil => exact ⟨[], (List.append_nil _).symm⟩
  | cons e es ih =>
    obtain ⟨V1, h1⟩ := bAdd_app d W (exch r e.1 e.2.1 e.2.2)
    obtain ⟨V2, h2⟩ := ih (bAdd d W (exch r e.1 e.2.1 e.2.2))
    exact ⟨V1 ++ V2, by rw [List.foldl_cons, h2, h1, List.append_assoc]⟩
theorem bTurn_len (es : List (Nat × Nat × Nat)) (W : BW) (r : List Int) (d : Nat) : (bTurn es W r d).length ≤ W.length + es.length := by
  unfold bTurn
  induction es generalizing W with
  | nil => exact Nat.le_refl _
  | cons e es ih =>
    have h1 := bAdd_len d W (exch r e.1 e.2.1 e.2.2)
    have h2 := ih (bAdd d W (exch r e.1 e.2.1 e.2.2))
    rw [List.foldl_cons, List.length_cons]
    omega
theorem exs_len (n : Nat) (h : n ≤ 20) : (exs n).length ≤ 8000 := by
  unfold exs
  have h1 := flat_len (exsA n) (n * n) (List.range (n - 1)) fun x _ => exsA_len n x
  rw [List.length_range] at h1
  have h2 : (n - 1) * (n * n) ≤ 20 * (20 * 20) := Nat.mul_le_mul (by omega) (Nat.mul_le_mul h h)
  omega
theorem exs_ok {n a b c : Nat} (h : (a, b, c) ∈ exs n) : a < b ∧ b < c ∧ c ≤ n := by
  unfold exs exsA at h
  obtain ⟨a', h1, h2⟩ := List.mem_flatMap.mp h
  obtain ⟨j, h3, h4⟩ := List.mem_flatMap.mp h2
  obtain ⟨l, h5, h6⟩ := List.mem_map.mp h4
  rw [List.mem_range] at h1 h3 h5
  cases h6
  omega
theorem exs_mem {n a b c : Nat} (h1 : a < b) (h2 : b < c) (h3 : c ≤ n) : (a, b, c) ∈ exs n := by
  unfold exs exsA
  refine List.mem_flatMap.mpr ⟨a, by rw [List.mem_range]; omega, List.mem_flatMap.mpr ⟨b - (a + 1), by rw [List.mem_range]; omega, List.mem_map.mpr ⟨c - (b + 1), by rw [List.mem_range]; omega, ?_⟩⟩⟩
  rw [Prod.mk.injEq, Prod.mk.injEq]
  omega
theorem Sub.at {h hh : HD} (s : Sub h hh) {p : Addr} {o : DO} (e : hh p = some o) : Sub (updD h p o) hh := fun a u q => by
  by_cases z : a = p
  · subst z; rw [updD_same] at q; cases q; exact e
  · rw [updD_ne z] at q; exact s a u q
/-- the found, the waiting and the exchanges as they stand -/
structure BInv (h0 : HD) (pf pw pe : Addr) (n : Nat) (W : BW) (hh : HD) : Prop where
  sb : Sub h0 hh
  f0 : h0 pf = none
  w0 : h0 pw = none
  ne : pw ≠ pe
  f : hh pf = some (.dT (WD W))
  w : hh pw = some (.lst (WL W))
  e : hh pe = some (.lst ((exs n).map exD))
theorem BInv.add {h0 hh : HD} {pf pw pe : Addr} {n : Nat} {W : BW} (I : BInv h0 pf pw pe n W hh) (t : List Int) (d : Nat) : BInv h0 pf pw pe n (W ++ [(t, d)]) (updD (updD hh pf (.dT (WD (W ++ [(t, d)])))) pw (.lst (WL W ++ [rowD t]))) := by
  have n1 : pf ≠ pw := neD I.f I.w (fun z => nomatch z)
  have n2 : pe ≠ pf := neD I.e I.f (fun z => nomatch z)
  refine ⟨(I.sb.put _ I.f0).put _ I.w0, I.f0, I.w0, I.ne, by rw [updD_ne n1, updD_same], ?_, by rw [updD_ne I.ne.symm, updD_ne n2]; exact I.e⟩
  rw [updD_same]
  unfold WL
  rw [List.map_append]
  rfl
end Fy
end
section
set_option linter.all false
set_option maxRecDepth 100000
set_option maxHeartbeats 4000000
namespace Fy
open PySem PySem.Spec PyProof.Rows L2
local macro_rules | `(tactic| walk_at "fy op") => `(tactic| first
  | exact f2_add | exact f2_sub | exact f2_cat (by first | assumption | omega | (simp only [List.length_append, cutD_len] <;> omega)) | exact f2_and | exact f2_mod (by omega) | exact f2_fdiv ⟨by omega, by omega⟩ | exact f2_mul (by unfold CMul; omega))
local macro_rules | `(tactic| walk_at "fy cmp") => `(tactic| first
  | exact f2_lt | exact f2_le | exact f2_gt | exact f2_ge | exact f2_eqI | exact f2_neI | exact f2_eqS | exact f2_isN | exact f2_notN)
local macro_rules | `(tactic| walk_at "fy ix") => `(tactic| first
  | exact ix2_T (by first | assumption | rfl) | exact ix2_L (by assumption) (by assumption))
local macro_rules | `(tactic| walk_at "fy wk") => `(tactic| repeat' (first | exact Paired.nil | exact True.intro | rfl | apply Paired.cons))
variable {T : Tx} {C : Addr} {X : Cx} {h : HD}
def rowT (r : List Int) : D := .tup ((rowK r).map kd)
theorem rowT_eq (r : List Int) : rowT r = rowD r := by unfold rowT rowD; rw [rowK_kd]
def stGet : List Stmt → Nat → Stmt := fun l i => l.getD i (.Pass ⟨0, 0, 0, 0⟩)
def whBody : Stmt → List Stmt
  | .While _ b _ _ => b
  | _ => []
theorem in_unknotted (G : Top T C) {k : Nat} {h0 hh : HD} {pf pw pe : Addr} {n : Nat} {W : BW} {r : List Int} {d : Nat} {ai : Int} {s : D} {m : D} {E : EndsD} {st : Stmt} (hst : st = stGet (whBody (stGet (defBody s_unknotted) 4)) 2) (c : Ctx X T (k + 1) n_unknotted (defScope s_unknotted) v_unknotted v_unknotted) (hn : n ≤ 20) (hr : r.length = n) (hg : bGet W r = some d) (hW : W.length ≤ 50000) (I : BInv h0 pf pw pe n W hh)
    (q : ∀ ρ hh, ρ = [some (s), some (.ref pf), some (.ref pw), some (.ref pe), some (.int ai), some (rowT r), none, none, none, none] → BInv h0 pf pw pe n (bTurn (exs n) W r d) hh → E.nx ρ hh) : LS X st [some (s), some (.ref pf), some (.ref pw), some (.ref pe), some (.int ai), some (rowT r), none, none, none, none] hh E := by
  subst hst
  have he := exs_len n hn
  refine ls_for c (li_list (lx_name c 3 rfl rfl rfl) I.e ⟨fun i ρ hh => ρ = [some (s), some (.ref pf), some (.ref pw), some (.ref pe), some (.int ai), some (rowT r), none, none, none, none] ∧ BInv h0 pf pw pe n (bTurn ((exs n).take i) W r d) hh, ⟨rfl, I⟩, fun i ρ hh hP => hP.2.e, ?_, ?_⟩)
  · rintro i dd ρ1 hh ed ⟨rfl, I⟩
    obtain ⟨⟨a, b, cc⟩, hi, rfl⟩ := map_get ed
    obtain ⟨h1, h2, h3⟩ := exs_ok (List.mem_of_getElem? hi)
    have et := bTurn_take (exs n) W r d i hi
    obtain ⟨V, eV⟩ := bTurn_app ((exs n).take i) W r d
    have hgi : bGet (bTurn ((exs n).take i) W r d) r = some d := by rw [eV]; exact bGet_app hg
    have hlen := bTurn_len ((exs n).take i) W r d
    have hlt : ((exs n).take i).length ≤ 8000 := by rw [List.length_take]; omega
    refine ⟨_, lg_tup c (lgs_cons (lg_name c 6 rfl rfl (lgs_cons (lg_name c 7 rfl rfl (lgs_cons (lg_name c 8 rfl rfl (lgs_nil ?_))))))) rfl⟩
    refine lss_cons (ls_set c 9 rfl rfl ((lx_call (z := rowT (exch r a b cc)) c (has_exchanged_by G) (Nat.le_add_left ..) (by decide +kernel) (la_cons (lx_name c 5 rfl rfl rfl) (la_cons (lx_name c 6 rfl rfl rfl) (la_cons (lx_name c 7 rfl rfl rfl) (la_cons (lx_name c 8 rfl rfl rfl) la_nil)))) fun Q q => ⟨(rowK r).map kd, a, b, cc, rfl, by rw [List.length_map]; unfold rowK; rw [List.length_map]; omega, by omega, by omega, by rw [rowK_kd, ← exch_map, ← rowK_kd]; exact q⟩) _ ?_))
    refine lss_one (ls_ifB (lb_dnotin c (lx_name c 9 rfl rfl rfl) (lx_name c 1 rfl rfl rfl) (DGD.ofT I.f)) (fun hb => ?_) (fun hb => ?_))
    · rw [valD_WD] at hb
      have hno : exch r a b cc ∉ (bTurn ((exs n).take i) W r d).map (·.1) := by
        rw [← bGet_none]
        cases e : bGet (bTurn ((exs n).take i) W r d) (exch r a b cc) with
        | none => rfl
        | some x => rw [e] at hb; cases hb
      have eb : bTurn ((exs n).take (i + 1)) W r d = bTurn ((exs n).take i) W r d ++ [(exch r a b cc, d + 1)] := by
        rw [et]
        unfold bAdd
        rw [if_neg hno]
      have I2 := I.add (exch r a b cc) (d + 1)
      rw [← eb] at I2
      refine lss_cons (ls_dput (v := .int ((d + 1 : Nat) : Int)) c (lx_eq (lx_bin (lx_dget c (lx_name c 1 rfl rfl rfl) (lx_name c 5 rfl rfl rfl) (z := .int (d : Nat)) (by have := DGD.ofT (ks := rowK r) I.f; rw [valD_WD, hgi] at this; exact this)) lx_int f2_add) rfl) (lx_name c 1 rfl rfl rfl) (lx_name c 9 rfl rfl rfl) (.inr ⟨_, rowK (exch r a b cc), I.f, rfl, by unfold WD; rw [List.length_map]; omega, rfl⟩) ?_)
      rw [putD_WD hno, ← eb]
      have n1 : pf ≠ pw := neD I.f I.w (fun z => nomatch z)
      refine lss_one (ls_append (xs0 := WL (bTurn ((exs n).take i) W r d)) (lx_name c 2 rfl rfl rfl) (by rw [updD_ne n1.symm]; exact I.w) ((lx_name c 9 rfl rfl rfl) _ ⟨_, by rw [updD_ne n1.symm]; exact I.w, by unfold WL; rw [List.length_map]; omega, ?_⟩))
      refine ⟨_, _, ?_, Sub.refl _, rfl, ?_⟩
      · walk_at "fy wk"
      · rw [show rowT (exch r a b cc) = rowD (exch r a b cc) from rowT_eq _]
        exact I2
    · rw [valD_WD] at hb
      have hyes : exch r a b cc ∈ (bTurn ((exs n).take i) W r d).map (·.1) := by
        rcases Classical.em (exch r a b cc ∈ (bTurn ((exs n).take i) W r d).map (·.1)) with z | z
        · exact z
        · rw [bGet_none.mpr z] at hb; cases hb
      refine lss_nil ⟨_, _, ?_, Sub.refl _, rfl, ?_⟩
      · walk_at "fy wk"
      · rw [et]
        unfold bAdd
        rw [if_pos hyes]
        exact I
  · rintro ρ1 hh ⟨rfl, I⟩
    rw [List.length_map, List.take_length] at I
    exact q _ hh rfl I
theorem in_spread_from (G : Top T C) {k : Nat} {h0 hh : HD} {pf pw pe : Addr} {n : Nat} {W : BW} {r : List Int} {d : Nat} {ai : Int} {s : D} {m : D} {E : EndsD} {st : Stmt} (hst : st = stGet (whBody (stGet (defBody s_spread_from) 4)) 2) (c : Ctx X T (k + 1) n_spread_from (defScope s_spread_from) v_spread_from v_spread_from) (hn : n ≤ 20) (hr : r.length = n) (hg : bGet W r = some d) (hW : W.length ≤ 50000) (I : BInv h0 pf pw pe n W hh)
    (q : ∀ ρ hh, ρ = [some (s), some (m), some (.ref pf), some (rowT r), some (.ref pw), some (.ref pe), some (.int ai), none, none, none, none] → BInv h0 pf pw pe n (bTurn (exs n) W r d) hh → E.nx ρ hh) : LS X st [some (s), some (m), some (.ref pf), some (rowT r), some (.ref pw), some (.ref pe), some (.int ai), none, none, none, none] hh E := by
  subst hst
  have he := exs_len n hn
  refine ls_for c (li_list (lx_name c 5 rfl rfl rfl) I.e ⟨fun i ρ hh => ρ = [some (s), some (m), some (.ref pf), some (rowT r), some (.ref pw), some (.ref pe), some (.int ai), none, none, none, none] ∧ BInv h0 pf pw pe n (bTurn ((exs n).take i) W r d) hh, ⟨rfl, I⟩, fun i ρ hh hP => hP.2.e, ?_, ?_⟩)
  · rintro i dd ρ1 hh ed ⟨rfl, I⟩
    obtain ⟨⟨a, b, cc⟩, hi, rfl⟩ := map_get ed
    obtain ⟨h1, h2, h3⟩ := exs_ok (List.mem_of_getElem? hi)
    have et := bTurn_take (exs n) W r d i hi
    obtain ⟨V, eV⟩ := bTurn_app ((exs n).take i) W r d
    have hgi : bGet (bTurn ((exs n).take i) W r d) r = some d := by rw [eV]; exact bGet_app hg
    have hlen := bTurn_len ((exs n).take i) W r d
    have hlt : ((exs n).take i).length ≤ 8000 := by rw [List.length_take]; omega
    refine ⟨_, lg_tup c (lgs_cons (lg_name c 7 rfl rfl (lgs_cons (lg_name c 8 rfl rfl (lgs_cons (lg_name c 9 rfl rfl (lgs_nil ?_))))))) rfl⟩
    refine lss_cons (ls_set c 10 rfl rfl ((lx_call (z := rowT (exch r a b cc)) c (has_exchanged_by G) (Nat.le_add_left ..) (by decide +kernel) (la_cons (lx_name c 3 rfl rfl rfl) (la_cons (lx_name c 7 rfl rfl rfl) (la_cons (lx_name c 8 rfl rfl rfl) (la_cons (lx_name c 9 rfl rfl rfl) la_nil)))) fun Q q => ⟨(rowK r).map kd, a, b, cc, rfl, by rw [List.length_map]; unfold rowK; rw [List.length_map]; omega, by omega, by omega, by rw [rowK_kd, ← exch_map, ← rowK_kd]; exact q⟩) _ ?_))
    refine lss_one (ls_ifB (lb_dnotin c (lx_name c 10 rfl rfl rfl) (lx_name c 2 rfl rfl rfl) (DGD.ofT I.f)) (fun hb => ?_) (fun hb => ?_))
    · rw [valD_WD] at hb
      have hno : exch r a b cc ∉ (bTurn ((exs n).take i) W r d).map (·.1) := by
        rw [← bGet_none]
        cases e : bGet (bTurn ((exs n).take i) W r d) (exch r a b cc) with
        | none => rfl
        | some x => rw [e] at hb; cases hb
      have eb : bTurn ((exs n).take (i + 1)) W r d = bTurn ((exs n).take i) W r d ++ [(exch r a b cc, d + 1)] := by
        rw [et]
        unfold bAdd
        rw [if_neg hno]
      have I2 := I.add (exch r a b cc) (d + 1)
      rw [← eb] at I2
      refine lss_cons (ls_dput (v := .int ((d + 1 : Nat) : Int)) c (lx_eq (lx_bin (lx_dget c (lx_name c 2 rfl rfl rfl) (lx_name c 3 rfl rfl rfl) (z := .int (d : Nat)) (by have := DGD.ofT (ks := rowK r) I.f; rw [valD_WD, hgi] at this; exact this)) lx_int f2_add) rfl) (lx_name c 2 rfl rfl rfl) (lx_name c 10 rfl rfl rfl) (.inr ⟨_, rowK (exch r a b cc), I.f, rfl, by unfold WD; rw [List.length_map]; omega, rfl⟩) ?_)
      rw [putD_WD hno, ← eb]
      have n1 : pf ≠ pw := neD I.f I.w (fun z => nomatch z)
      refine lss_one (ls_append (xs0 := WL (bTurn ((exs n).take i) W r d)) (lx_name c 4 rfl rfl rfl) (by rw [updD_ne n1.symm]; exact I.w) ((lx_name c 10 rfl rfl rfl) _ ⟨_, by rw [updD_ne n1.symm]; exact I.w, by unfold WL; rw [List.length_map]; omega, ?_⟩))
      refine ⟨_, _, ?_, Sub.refl _, rfl, ?_⟩
      · walk_at "fy wk"
      · rw [show rowT (exch r a b cc) = rowD (exch r a b cc) from rowT_eq _]
        exact I2
    · rw [valD_WD] at hb
      have hyes : exch r a b cc ∈ (bTurn ((exs n).take i) W r d).map (·.1) := by
        rcases Classical.em (exch r a b cc ∈ (bTurn ((exs n).take i) W r d).map (·.1)) with z | z
        · exact z
        · rw [bGet_none.mpr z] at hb; cases hb
      refine lss_nil ⟨_, _, ?_, Sub.refl _, rfl, ?_⟩
      · walk_at "fy wk"
      · rw [et]
        unfold bAdd
        rw [if_pos hyes]
        exact I
  · rintro ρ1 hh ⟨rfl, I⟩
    rw [List.length_map, List.take_length] at I
    exact q _ hh rfl I
end Fy
end
section
set_option linter.all false
set_option maxRecDepth 100000
set_option maxHeartbeats 4000000
namespace Fy
open PySem PySem.Spec PyProof.Rows L2
local macro_rules | `(tactic| walk_at "fy op") => `(tactic| first
  | exact f2_add | exact f2_sub | exact f2_cat (by first | assumption | omega | (simp only [List.length_append, cutD_len] <;> omega)) | exact f2_and | exact f2_mod (by omega) | exact f2_fdiv ⟨by omega, by omega⟩ | exact f2_mul (by unfold CMul; omega))
local macro_rules | `(tactic| walk_at "fy cmp") => `(tactic| first
  | exact f2_lt | exact f2_le | exact f2_gt | exact f2_ge | exact f2_eqI | exact f2_neI | exact f2_eqS | exact f2_isN | exact f2_notN)
local macro_rules | `(tactic| walk_at "fy ix") => `(tactic| first
  | exact ix2_T (by first | assumption | rfl) | exact ix2_L (by assumption) (by assumption))
local macro_rules | `(tactic| walk_at "fy wk") => `(tactic| repeat' (first | exact Paired.nil | exact True.intro | rfl | apply Paired.cons))
variable {T : Tx} {C : Addr} {X : Cx} {h : HD}
theorem bAdd_nodup {d : Nat} {W : BW} {t : List Int} (h : (W.map (·.1)).Nodup) : ((bAdd d W t).map (·.1)).Nodup := by
  unfold bAdd
  split
  · exact h
  · rename_i hn
    rw [List.map_append, List.nodup_append]
    refine ⟨h, by simp, fun a ha b hb => ?_⟩
    rw [List.map_cons, List.map_nil, List.mem_singleton] at hb
    subst hb
    exact fun z => hn (z ▸ ha)
theorem bTurn_nodup {es : List (Nat × Nat × Nat)} {W : BW} {r : List Int} {d : Nat} (h : (W.map (·.1)).Nodup) : ((bTurn es W r d).map (·.1)).Nodup := by
  unfold bTurn
  induction es generalizing W with
  | nil => exact h
  | cons e es ih => exact ih (bAdd_nodup h)
theorem bTurn_all {P : List Int → Prop} {es : List (Nat × Nat × Nat)} {W : BW} {r : List Int} {d : Nat} (h : ∀ p ∈ W, P p.1) (he : ∀ e ∈ es, P (exch r e.1 e.2.1 e.2.2)) : ∀ p ∈ bTurn es W r d, P p.1 := by
  unfold bTurn
  induction es generalizing W with
  | nil => exact h
  | cons e es ih =>
    refine ih (fun p hp => ?_) fun e' he' => he e' (List.mem_cons_of_mem _ he')
    dsimp only at hp
    unfold bAdd at hp
    split at hp
    · exact h p hp
    · rcases List.mem_append.mp hp with z | z
      · exact h p z
      · rw [List.mem_singleton.mp z]
        exact he e List.mem_cons_self
theorem bfs_nodup {es : List (Nat × Nat × Nat)} {W0 : BW} (h : (W0.map (·.1)).Nodup) : ∀ k, ((bfs es W0 k).map (·.1)).Nodup
  | 0 => h
  | k + 1 => by
    rw [bfs]
    split
    · exact bTurn_nodup (bfs_nodup h k)
    · exact bfs_nodup h k
theorem bfs_lens {n : Nat} {W0 : BW} (h : ∀ p ∈ W0, p.1.length = n) : ∀ k, ∀ p ∈ bfs (exs n) W0 k, p.1.length = n
  | 0 => h
  | k + 1 => by
    rw [bfs]
    split
    · rename_i p hp
      have h1 := bfs_lens h k p (List.mem_of_getElem? hp)
      refine bTurn_all (P := fun r => r.length = n) (bfs_lens h k) fun e he => ?_
      obtain ⟨a, b, c⟩ := e
      obtain ⟨h2, h3, h4⟩ := exs_ok he
      show (exch p.1 a b c).length = n
      rw [exch_len _ (by omega) (by omega) (by omega), h1]
    · exact bfs_lens h k
theorem bGet_at {W : BW} (h : (W.map (·.1)).Nodup) {k : Nat} {r : List Int} {d : Nat} (e : W[k]? = some (r, d)) : bGet W r = some d := by
  induction W generalizing k with
  | nil => simp at e
  | cons p W ih =>
    rw [List.map_cons, List.nodup_cons] at h
    unfold bGet
    rw [List.find?_cons]
    cases k with
    | zero =>
      rw [List.getElem?_cons_zero] at e
      cases e
      simp
    | succ k =>
      rw [List.getElem?_cons_succ] at e
      have hne : ¬ p.1 = r := fun z => h.1 (by rw [z]; exact List.mem_map.mpr ⟨(r, d), List.mem_of_getElem? e, rfl⟩)
      rw [decide_eq_false hne]
      exact ih h.2 e
theorem bfs_step {es : List (Nat × Nat × Nat)} {W0 : BW} {k : Nat} {r : List Int} {d : Nat} (e : (bfs es W0 k)[k]? = some (r, d)) : bfs es W0 (k + 1) = bTurn es (bfs es W0 k) r d := by
  rw [bfs, e]
def sp_unknotted : FS := fun ds h Q => ∃ (s : List Int) (K : Nat) (rr : List Int) (d : Nat), ds = [rowD s] ∧ s.length ≤ 20 ∧ (∀ j, j ≤ K → (bfs (exs s.length) [(s, 0)] j).length ≤ 40000) ∧ (bfs (exs s.length) [(s, 0)] K)[K]? = some (rr, d) ∧ rises rr = true ∧
  (∀ j, j < K → ∃ r' d', (bfs (exs s.length) [(s, 0)] j)[j]? = some (r', d') ∧ rises r' = false) ∧ Q (.int (d : Nat)) h
theorem has_unknotted (G : Top T C) : Has T 2 "unknotted" ["lanes"] sp_unknotted := by
  refine has_of G.d_unknotted sc_unknotted hv_unknotted (fun ds h Q ⟨r, _, _, _, e, _⟩ => by subst e; rfl) (fun _ _ _ _ _ _ us hl => match us, hl with | [_], _ => rfl) fun X c ds h Q ⟨s, K, rr, d, e, hn, hlen, hK, hri, hno, q⟩ => ?_
  subst e
  generalize hes : exs s.length = es at hlen hK hno
  have nd : (([(s, 0)] : BW).map (·.1)).Nodup := by simp
  have ln : ∀ p ∈ ([(s, 0)] : BW), p.1.length = s.length := fun p hp => by rw [List.mem_singleton.mp hp]
  have lens : ∀ k, ∀ p ∈ bfs es [(s, 0)] k, p.1.length = s.length := by rw [← hes]; exact bfs_lens ln
  refine lss_cons (ls_set c 1 rfl rfl (le_dispT (ks := rowK s) (d := .int 0) c (fun hh => lx_eq (lx_name c 0 rfl rfl rfl) (rowT_eq s).symm) (fun hh => lx_int) fun pf hpf => ?_))
  refine lss_cons (ls_set c 2 rfl rfl ((ll_disp (la_cons (lx_name c 0 rfl rfl rfl) la_nil)) _ fun pw hpw => ?_))
  obtain ⟨hpw0, nwf⟩ := fresh2 hpw
  refine lss_cons (ls_set c 3 rfl rfl ((ll_call (res := (exs s.length).map exD) c (has_all_exchanges G) (by decide) (by decide +kernel) (la_cons (lx_callB c cb_lenT (la_cons (lx_name c 0 rfl rfl rfl) la_nil) (by decide +kernel) G.b_len (by decide +kernel)) la_nil) fun Q q => ⟨s.length, by rw [List.length_map], hn, q⟩) _ fun pe hpe => ?_))
  obtain ⟨hpe1, new⟩ := fresh2 hpe
  obtain ⟨hpe0, nef⟩ := fresh2 hpe1
  refine lss_cons (ls_set c 4 rfl rfl (lx_int _ ?_))
  have I0 : BInv h pf pw pe s.length (bfs es [(s, 0)] 0) (updD (updD (updD h pf (.dT [(rowK s, .int 0)])) pw (.lst [rowD s])) pe (.lst ((exs s.length).map exD))) := by
    refine ⟨((Sub.new hpf).put _ hpw0).put _ hpe0, hpf, hpw0, new.symm, ?_, ?_, updD_same⟩
    · rw [updD_ne nef.symm, updD_ne nwf.symm, updD_same]
      rfl
    · rw [updD_ne new.symm, updD_same]
      rfl
  refine lss_cons (ls_while c (fun m ρ hh => ∃ k, k ≤ K ∧ m = K - k ∧ ρ = [some (rowD s), some (.ref pf), some (.ref pw), some (.ref pe), some (.int (k : Nat)), none, none, none, none, none] ∧ BInv h pf pw pe s.length (bfs es [(s, 0)] k) hh) K ⟨0, Nat.zero_le _, by simp, rfl, I0⟩ fun m ρ1 hh hP => ?_)
  obtain ⟨k, hk, rfl, rfl, I⟩ := hP
  obtain ⟨r, dk, ek⟩ : ∃ r dk, (bfs es [(s, 0)] k)[k]? = some (r, dk) := by
    rcases Nat.lt_or_ge k K with z | z
    · obtain ⟨r', d', e1, _⟩ := hno k z
      exact ⟨r', d', e1⟩
    · have : k = K := by omega
      subst this
      exact ⟨rr, d, hK⟩
  have hrl : r.length = s.length := lens k _ (List.mem_of_getElem? ek)
  have ewk : ∀ {ρ : Rho}, Ix2 X (.ref pw) (.int (k : Nat)) hh (rowD r) := fun {_} => ix2_L I.w (atI_nat' (by omega) (by
    unfold WL
    rw [List.getElem?_map, Int.toNat_natCast, ek]
    rfl))
  refine (lb_val (lx_call (z := .bl (!rises r)) c (has_falls G) (by decide) (by decide +kernel) (la_cons (lx_ix (lx_name c 2 rfl rfl rfl) (lx_name c 4 rfl rfl rfl) (ewk (ρ := []))) la_nil) fun Q q => ⟨r, rfl, by omega, q⟩)) _ ⟨fun hb => ?_, fun hb => ?_⟩
  · have hkK : k < K := by
      rcases Nat.lt_or_ge k K with z | z
      · exact z
      · have : k = K := by omega
        subst this
        rw [hK] at ek
        cases ek
        rw [hri] at hb
        cases hb
    refine lss_cons (ls_set c 5 rfl rfl ((lx_eq (lx_ix (lx_name c 2 rfl rfl rfl) (lx_name c 4 rfl rfl rfl) (ewk (ρ := []))) (rowT_eq r).symm) _ ?_))
    refine lss_cons (ls_aug c 4 rfl rfl rfl lx_int ?_)
    have nk := bfs_nodup (es := es) nd k
    refine lss_one (in_unknotted (m := .non) (W := bfs es [(s, 0)] k) (r := r) (d := dk) (n := s.length) G rfl c hn hrl (bGet_at nk ek) (by have := hlen k hk; omega) I fun ρ2 hh2 e2 I2 => ?_)
    subst e2
    refine ⟨_, _, ?_, Sub.refl _, K - (k + 1), by omega, k + 1, hkK, rfl, rfl, ?_⟩
    · walk_at "fy wk"
    · rw [hes] at I2
      rw [bfs_step ek]
      exact I2
  · have hkK : k = K := by
      rcases Nat.lt_or_ge k K with z | z
      · obtain ⟨r', d', e1, e2⟩ := hno k z
        rw [e1] at ek
        cases ek
        rw [e2] at hb
        cases hb
      · omega
    subst hkK
    rw [hK] at ek
    cases ek
    have nk := bfs_nodup (es := es) nd k
    refine lss_one (ls_ret ((lx_dget (y := rowT rr) (z := .int (d : Nat)) c (lx_name c 1 rfl rfl rfl) (lx_eq (lx_ix (lx_name c 2 rfl rfl rfl) (lx_name c 4 rfl rfl rfl) (ewk (ρ := []))) (rowT_eq rr).symm) (by have := DGD.ofT (ks := rowK rr) I.f; rw [valD_WD, bGet_at nk hK] at this; exact this)) _ ?_))
    exact ⟨h, I.sb, q⟩
end Fy
end
section
set_option linter.all false
set_option maxRecDepth 100000
set_option maxHeartbeats 4000000
namespace Fy
open PySem PySem.Spec PyProof.Rows L2
local macro_rules | `(tactic| walk_at "fy op") => `(tactic| first
  | exact f2_add | exact f2_sub | exact f2_cat (by first | assumption | omega | (simp only [List.length_append, cutD_len] <;> omega)) | exact f2_and | exact f2_mod (by omega) | exact f2_fdiv ⟨by omega, by omega⟩ | exact f2_mul (by unfold CMul; omega))
local macro_rules | `(tactic| walk_at "fy cmp") => `(tactic| first
  | exact f2_lt | exact f2_le | exact f2_gt | exact f2_ge | exact f2_eqI | exact f2_neI | exact f2_eqS | exact f2_isN | exact f2_notN)
local macro_rules | `(tactic| walk_at "fy ix") => `(tactic| first
  | exact ix2_T (by first | assumption | rfl) | exact ix2_L (by assumption) (by assumption))
local macro_rules | `(tactic| walk_at "fy wk") => `(tactic| repeat' (first | exact Paired.nil | exact True.intro | rfl | apply Paired.cons))
variable {T : Tx} {C : Addr} {X : Cx} {h : HD}
def zs (ss : List (List Int)) : BW := ss.map fun r => (r, 0)
def sp_spread_from : FS := fun ds h Q => ∃ (p : Addr) (ss : List (List Int)) (n K : Nat), ds = [.ref p, .int n] ∧ h p = some (.lst (ss.map rowD)) ∧ (∀ r ∈ ss, r.length = n) ∧ ss.Nodup ∧ n ≤ 20 ∧ (∀ j, j ≤ K → (bfs (exs n) (zs ss) j).length ≤ 40000) ∧
  (∀ j, j < K → j < (bfs (exs n) (zs ss) j).length) ∧ (bfs (exs n) (zs ss) K).length ≤ K ∧ ∀ p', h p' = none → Q (.ref p') (updD h p' (.dT (WD (bfs (exs n) (zs ss) K))))
theorem has_spread_from (G : Top T C) : Has T 2 "spread_from" ["starts", "lanes"] sp_spread_from := by
  refine has_of G.d_spread_from sc_spread_from hv_spread_from (fun ds h Q ⟨_, _, _, _, e, _⟩ => by subst e; rfl) (fun _ _ _ _ _ _ us hl => match us, hl with | [_, _], _ => rfl) fun X c ds h Q ⟨ps, ss, n, K, e, eps, hsl, hnd, hn, hlen, hgo, hend, q⟩ => ?_
  subst e
  generalize hes : exs n = es at hlen hgo hend q
  have nd : ((zs ss).map (·.1)).Nodup := by
    unfold zs
    rw [List.map_map, show ((fun x : List Int × Nat => x.1) ∘ fun r : List Int => (r, 0)) = id from rfl, List.map_id]
    exact hnd
  have ln : ∀ p ∈ zs ss, p.1.length = n := fun p hp => by
    obtain ⟨r, hr, rfl⟩ := List.mem_map.mp hp
    exact hsl r hr
  have lens : ∀ k, ∀ p ∈ bfs es (zs ss) k, p.1.length = n := by rw [← hes]; exact bfs_lens ln
  have h0len : ss.length ≤ 40000 := by
    have := hlen 0 (Nat.zero_le _)
    rw [bfs, zs, List.length_map] at this
    exact this
  refine lss_cons (ls_setDcT 2 c (own := [("row", 3)]) (by decide +kernel) rfl (by decide +kernel) rfl rfl (by decide +kernel) (li_list (lx_name c 0 rfl rfl rfl) eps fun pf hpf => ⟨fun i hh => hh = updD h pf (.dT (WD (zs (ss.take i)))), rfl, fun i hh e => (by subst e; show updD _ _ _ _ = _; rw [updD_ne (neN eps hpf)]; exact eps), fun i d hh hd e => ?_, fun hh e => ?_⟩))
  · subst e
    obtain ⟨r, hr, rfl⟩ := map_get hd
    have hi : i < ss.length := (List.getElem?_eq_some_iff.mp hr).1
    refine ⟨[3], [some (.ref ps), some (.int n), none, some (rowT r), none, none, none, none, none, none, none], rowK r, .int 0, WD (zs (ss.take i)), by simp, fun X' b => lg_name (blk_ctx c b rfl rfl) 3 rfl rfl (by rw [rowT_eq]; rfl), fun X' b => lx_name (blk_ctx c b rfl rfl) 3 rfl rfl rfl, fun X' b => lx_int, updD_same, by unfold WD zs; rw [List.length_map, List.length_map, List.length_take]; omega, ?_⟩
    refine Fg.of ?_
    have hno : r ∉ (zs (ss.take i)).map (·.1) := by
      unfold zs
      rw [List.map_map, show ((fun x : List Int × Nat => x.1) ∘ fun r : List Int => (r, 0)) = id from rfl, List.map_id]
      intro hm
      obtain ⟨j, hj, e⟩ := List.mem_take_iff_getElem.mp hm
      have e2 : ss[i] = r := (List.getElem?_eq_some_iff.mp hr).2
      have := (List.getElem_inj hnd).mp (e.trans e2.symm)
      omega
    rw [updD_updD]
    have := putD_WD (d := 0) hno
    rw [show (D.int ((0 : Nat) : Int)) = .int 0 from rfl] at this
    rw [this]
    congr 3
    unfold zs
    rw [List.take_add_one, hr, List.map_append]
    rfl
  subst e
  rw [List.length_map, List.take_length]
  refine Fg.of ?_
  refine lss_cons (ls_set c 4 rfl rfl ((ll_callTy c (cbl_listL (by rw [updD_ne (neN eps hpf)]; exact eps)) (la_cons (lx_name c 0 rfl rfl rfl) la_nil) (by decide +kernel) G.b_list (by decide +kernel)) _ fun pw hpw => ?_))
  obtain ⟨hpw0, nwf⟩ := fresh2 hpw
  refine lss_cons (ls_set c 5 rfl rfl ((ll_call (res := (exs n).map exD) c (has_all_exchanges G) (by decide) (by decide +kernel) (la_cons (lx_name c 1 rfl rfl rfl) la_nil) fun Q q => ⟨n, rfl, hn, q⟩) _ fun pe hpe => ?_))
  obtain ⟨hpe1, new⟩ := fresh2 hpe
  obtain ⟨hpe0, nef⟩ := fresh2 hpe1
  refine lss_cons (ls_set c 6 rfl rfl (lx_int _ ?_))
  have I0 : BInv h pf pw pe n (bfs es (zs ss) 0) (updD (updD (updD h pf (.dT (WD (zs ss)))) pw (.lst (ss.map rowD))) pe (.lst ((exs n).map exD))) := by
    refine ⟨((Sub.new hpf).put _ hpw0).put _ hpe0, hpf, hpw0, new.symm, ?_, ?_, updD_same⟩
    · rw [updD_ne nef.symm, updD_ne nwf.symm, updD_same]
      rfl
    · rw [updD_ne new.symm, updD_same]
      unfold WL bfs zs
      rw [List.map_map]
      rfl
  refine lss_cons (ls_while c (fun m ρ hh => ∃ k, k ≤ K ∧ m = K - k ∧ ρ = [some (.ref ps), some (.int n), some (.ref pf), none, some (.ref pw), some (.ref pe), some (.int (k : Nat)), none, none, none, none] ∧ BInv h pf pw pe n (bfs es (zs ss) k) hh) K ⟨0, Nat.zero_le _, by simp, rfl, I0⟩ fun m ρ1 hh hP => ?_)
  obtain ⟨k, hk, rfl, rfl, I⟩ := hP
  refine (lb_cmp (lx_name c 6 rfl rfl rfl) (lx_callB c (cb_lenL I.w) (la_cons (lx_name c 4 rfl rfl rfl) la_nil) (by decide +kernel) G.b_len (by decide +kernel)) f2_lt) _ ⟨fun hb => ?_, fun hb => ?_⟩
  · rw [decide_eq_true_eq] at hb
    have hb' : k < (bfs es (zs ss) k).length := by
      unfold WL at hb
      rw [List.length_map] at hb
      omega
    have hkK : k < K := by
      rcases Nat.lt_or_ge k K with z | z
      · exact z
      · have : k = K := by omega
        subst this
        omega
    obtain ⟨⟨r, dk⟩, ek⟩ : ∃ p, (bfs es (zs ss) k)[k]? = some p := ⟨_, List.getElem?_eq_getElem hb'⟩
    have hrl : r.length = n := lens k _ (List.mem_of_getElem? ek)
    have ewk : Ix2 X (.ref pw) (.int (k : Nat)) hh (rowD r) := ix2_L I.w (atI_nat' (by omega) (by
      unfold WL
      rw [List.getElem?_map, Int.toNat_natCast, ek]
      rfl))
    refine lss_cons (ls_set c 3 rfl rfl ((lx_eq (lx_ix (lx_name c 4 rfl rfl rfl) (lx_name c 6 rfl rfl rfl) ewk) (rowT_eq r).symm) _ ?_))
    refine lss_cons (ls_aug c 6 rfl rfl rfl lx_int ?_)
    have nk := bfs_nodup (es := es) nd k
    refine lss_one (in_spread_from (W := bfs es (zs ss) k) (r := r) (d := dk) (n := n) G rfl c hn hrl (bGet_at nk ek) (by have := hlen k hk; omega) I fun ρ2 hh2 e2 I2 => ?_)
    subst e2
    refine ⟨_, _, ?_, Sub.refl _, K - (k + 1), by omega, k + 1, hkK, rfl, rfl, ?_⟩
    · walk_at "fy wk"
    · rw [hes] at I2
      rw [bfs_step ek]
      exact I2
  · rw [decide_eq_false_iff_not] at hb
    have hkK : k = K := by
      rcases Nat.lt_or_ge k K with z | z
      · have := hgo k z
        unfold WL at hb
        rw [List.length_map] at hb
        omega
      · omega
    subst hkK
    refine lss_one (ls_ret ((lx_name c 2 rfl rfl rfl) _ ?_))
    exact ⟨_, Sub.at I.sb I.f, q pf hpf⟩
end Fy
end
section
set_option linter.all false
set_option maxRecDepth 100000
set_option maxHeartbeats 4000000
namespace Fy
open PySem PySem.Spec PyProof.Rows L2
local macro_rules | `(tactic| walk_at "fy op") => `(tactic| first
  | exact f2_add | exact f2_sub | exact f2_cat (by first | assumption | omega | (simp only [List.length_append, cutD_len] <;> omega)) | exact f2_and | exact f2_mod (by omega) | exact f2_fdiv ⟨by omega, by omega⟩ | exact f2_mul (by unfold CMul; omega))
local macro_rules | `(tactic| walk_at "fy cmp") => `(tactic| first
  | exact f2_lt | exact f2_le | exact f2_gt | exact f2_ge | exact f2_eqI | exact f2_neI | exact f2_eqS | exact f2_isN | exact f2_notN)
local macro_rules | `(tactic| walk_at "fy ix") => `(tactic| first
  | exact ix2_T (by first | assumption | rfl) | exact ix2_L (by assumption) (by assumption))
local macro_rules | `(tactic| walk_at "fy wk") => `(tactic| repeat' (first | exact Paired.nil | exact True.intro | rfl | apply Paired.cons))
variable {T : Tx} {C : Addr} {X : Cx} {h : HD}
/-! ### steps -/
def stepD : Stp → D
  | .dbl k => .tup [.str "double", .int k]
  | .strk k => .tup [.str "strike", .int k]
  | .fly a b c => .tup [.str "fly", .int a, .int b, .int c]
  | .cho k w p key o => .tup [.str "choose", .int k, .int w, .int p, .tupF [.tup [rowD key, .int o]]]
def Stp.small : Stp → Prop
  | .cho _ _ _ key _ => key.length ≤ 1000
  | _ => True
def letB (q : Nat) (key : List Int) : Bool := key.all fun x => decide (0 ≤ x ∧ x < q)
def sp_is_letters : FS := fun ds h Q => ∃ (key : List Int) (w q : Nat), ds = [rowD key, .int w, .int q] ∧ key.length ≤ 1000 ∧ Q (.bl (decide (key.length = w) && letB q key)) h
theorem has_is_letters (G : Top T C) : Has T 4 "is_letters" ["thing", "many", "letters"] sp_is_letters := by
  refine has_of G.d_is_letters sc_is_letters hv_is_letters (fun ds h Q ⟨_, _, _, e, _⟩ => by subst e; rfl) (fun _ _ _ _ _ _ us hl => match us, hl with | [_, _, _], _ => rfl) fun X c ds h Q ⟨key, w, qn, e, hl, q⟩ => ?_
  subst e
  refine lss_one (ls_ret ((lx_eq (lx_and (b1 := true) (lx_callB c isi_tt (la_cons (lx_name c 0 rfl rfl rfl) (la_cons (lx_blt c (by decide +kernel) G.b_tuple (by decide +kernel)) la_nil)) (by decide +kernel) G.b_isinstance (by decide +kernel)) (fun _ => (lx_and (lx_cmp (lx_callB c cb_lenT (la_cons (lx_name c 0 rfl rfl rfl) la_nil) (by decide +kernel) G.b_len (by decide +kernel)) (lx_name c 1 rfl rfl rfl) f2_eqI) (fun _ => (lx_one (lx_callBL c (fun p hp => cb_all c (bs := key.map fun x => decide (0 ≤ x ∧ x < (qn : Int))) updD_same) (ll_comp c (own := [("letter", 3)]) (ds := key.map .int) (by decide +kernel) (is := [3]) (by simp) (fun d => [some (rowD key), some (.int w), some (.int qn), some d]) (fun R k => li_tup (lx_name c 0 rfl rfl rfl) (k _ _ (Sub.refl _) fun _ _ _ => trivial)) (by simp) (by simpa using Nat.le_trans hl (by decide)) (fun i d hd X' b => lg_name (blk_ctx c b rfl rfl) 3 rfl rfl rfl) fun i d rr hh hd hr sb X' b => ?_) (by decide +kernel) G.b_all (by decide +kernel)))) (fun _ => rfl))) (fun _ => rfl)) ?_) _ (Fg.of q)))
  · obtain ⟨x, hx, rfl⟩ := map_get hd
    rw [List.getElem?_map, List.getElem?_map, hx] at hr
    cases hr
    exact lx_call (blk_ctx c b rfl rfl) (has_is_index G) (by decide) (by decide +kernel) (la_cons (lx_name (blk_ctx c b rfl rfl) 3 rfl rfl rfl) (la_cons (lx_name (blk_ctx c b rfl rfl) 2 rfl rfl rfl) la_nil)) fun Q q => ⟨x, qn, rfl, q⟩
  · rw [Bool.true_and, List.all_map, List.length_map]
    congr 2
    exact decide_eq_decide.mpr ⟨fun h => by omega, fun h => by omega⟩
def othB (w q : Nat) (key : List Int) (o : Nat) : Bool := (decide (key.length = w) && letB q key) && decide (o < w)
def sp_are_others : FS := fun ds h Q => ∃ (key : List Int) (o w q : Nat), ds = [.tupF [.tup [rowD key, .int o]], .int w, .int q] ∧ key.length ≤ 1000 ∧ Q (.bl (othB w q key o)) h
theorem has_are_others (G : Top T C) : Has T 5 "are_others" ["thing", "wide", "letters"] sp_are_others := by
  refine has_of G.d_are_others sc_are_others hv_are_others (fun ds h Q ⟨_, _, _, _, e, _⟩ => by subst e; rfl) (fun _ _ _ _ _ _ us hl => match us, hl with | [_, _, _], _ => rfl) fun X c ds h Q ⟨key, o, w, qn, e, hl, q⟩ => ?_
  subst e
  refine lss_cons (ls_ifB (bb := false) (lb_w (lw_or (b1 := false) (b2 := false) (lb_not (lb_val (lx_callB c isi_tf (la_cons (lx_name c 0 rfl rfl rfl) (la_cons (lx_blt c (by decide +kernel) G.b_tuple (by decide +kernel)) la_nil)) (by decide +kernel) G.b_isinstance (by decide +kernel)))) (fun _ => (lw_or1 (lb_eq (lb_cmp (lx_callB c cb_lenTF (la_cons (lx_name c 0 rfl rfl rfl) la_nil) (by decide +kernel) G.b_len (by decide +kernel)) (lx_con c (by decide +kernel) G.MOST_OTHERS) f2_gt) (show decide ((64 : Int) < ((1 : Nat) : Int)) = false by decide)))) (fun _ => rfl))) (fun hb => nomatch hb) (fun hb => lss_nil ?_))
  refine lss_cons (ls_for c (li_tupF (lx_name c 0 rfl rfl rfl) ⟨fun i ρ hh => ρ = [some (.tupF [.tup [rowD key, .int o]]), some (.int w), some (.int qn), none, none, none] ∧ hh = h ∧ (1 ≤ i → othB w qn key o = true), ⟨rfl, rfl, fun z => by omega⟩, fun _ _ _ _ => trivial, ?_, ?_⟩))
  · rintro i d ρ1 hh hd ⟨rfl, rfl, _⟩
    have hi := (List.getElem?_eq_some_iff.mp hd).1
    have i0 : i = 0 := by simpa using hi
    subst i0
    rw [List.getElem?_cons_zero] at hd
    cases hd
    refine ⟨_, lg_name c 3 rfl rfl ?_⟩
    refine lss_cons (ls_ifB (bb := false) (lb_w (lw_or (b1 := false) (b2 := false) (lb_not (lb_val (lx_callB c isi_tt (la_cons (lx_name c 3 rfl rfl rfl) (la_cons (lx_blt c (by decide +kernel) G.b_tuple (by decide +kernel)) la_nil)) (by decide +kernel) G.b_isinstance (by decide +kernel)))) (fun _ => (lw_or1 (lb_eq (lb_cmp (lx_callB c cb_lenT (la_cons (lx_name c 3 rfl rfl rfl) la_nil) (by decide +kernel) G.b_len (by decide +kernel)) lx_int f2_neI) (show (!decide (((2 : Nat) : Int) = 2)) = false by decide)))) (fun _ => rfl))) (fun hb => nomatch hb) (fun hb => lss_nil ?_))
    refine lss_one (ls_ifB (bb := !othB w qn key o) (lb_eq (lb_w (lw_or (lb_not (lb_val (lx_call c (has_is_letters G) (by decide) (by decide +kernel) (la_cons (lx_ix (lx_name c 3 rfl rfl rfl) lx_int (ix2_T rfl)) (la_cons (lx_name c 1 rfl rfl rfl) (la_cons (lx_name c 2 rfl rfl rfl) la_nil))) fun Q q => ⟨key, w, qn, rfl, hl, q⟩))) (fun _ => (lw_or1 (lb_not (lb_val (lx_call c (has_is_index G) (by decide) (by decide +kernel) (la_cons (lx_ix (lx_name c 3 rfl rfl rfl) lx_int (ix2_T rfl)) (la_cons (lx_name c 1 rfl rfl rfl) la_nil)) fun Q q => ⟨o, w, rfl, q⟩))))) (fun _ => rfl))) ?_) (fun hb => ?_) (fun hb => ?_))
    · unfold othB
      rw [Bool.not_and (decide _ && _)]
      congr 2
      exact decide_eq_decide.mpr ⟨fun h => by omega, fun h => by omega⟩
    · rw [Bool.not_eq_true'] at hb
      rw [hb] at q
      exact lss_one (ls_ret (lx_bl _ (Fg.of q)))
    · rw [Bool.not_eq_false'] at hb
      refine lss_nil ⟨_, _, ?_, Sub.refl _, rfl, rfl, fun _ => hb⟩
      walk_at "fy wk"
  · rintro ρ1 hh ⟨rfl, rfl, hb⟩
    rw [hb (Nat.le_refl 1)] at q
    refine lss_one (ls_ret ((lx_callBL c (fun p hp => cb_all c (bs := []) updD_same) (ll_comp c (own := [("one", 4), ("other", 5)]) (ds := zipD [.tup [rowD key, .int o]] (cutD [.tup [rowD key, .int o]] (some 1) none)) (rs := []) (by decide +kernel) (is := []) (by simp) (fun d => []) (fun R k => li_zipTF c (lx_name c 0 rfl rfl rfl) (lx_cutTF (ds := [.tup [rowD key, .int o]]) (l := some 1) (u := none) (lx_name c 0 rfl rfl rfl) (lo_some lx_int) lo_none (show ¬ (HT.sIx 1 0 (some 1) = 0 ∧ HT.sIx 1 1 none = 1) by decide)) (by decide +kernel) G.b_zip (k _ _ (Sub.refl _) fun _ _ _ => trivial)) rfl (Nat.zero_le _) (fun i d hd X' b => (by simp [zipD, cutD_tail] at hd)) fun i d rr hh hd hr sb X' b => (by simp [zipD, cutD_tail] at hd)) (by decide +kernel) G.b_all (by decide +kernel)) _ (Fg.of q)))
def nWide : Stp → Int
  | .dbl _ => 2
  | .strk _ => 2
  | .fly _ _ _ => 4
  | .cho _ _ _ _ _ => 5
def sp_is_step_form : FS := fun ds h Q => ∃ s : Stp, ds = [stepD s] ∧ Q (.bl true) h
theorem at0 {x : D} {r : List D} : atI (x :: r) 0 = some x := atI_nat' (by decide) rfl
theorem has_is_step_form (G : Top T C) : Has T 1 "is_step_form" ["thing"] sp_is_step_form := by
  refine has_of G.d_is_step_form sc_is_step_form hv_is_step_form (fun ds h Q ⟨_, e, _⟩ => by subst e; rfl) (fun _ _ _ _ _ _ us hl => match us, hl with | [_], _ => rfl) fun X c ds h Q ⟨s, e, q⟩ => ?_
  subst e
  obtain ⟨dA, es, n, hS, K, k2, k3, k4, k5⟩ := G.sz
  have go : ∀ (x : Str) (r : List D) (m : Int), stepD s = .tup (.str x :: r) → ((r.length + 1 : Nat) : Int) = m → KDct T.K T.w dA x (.int m) → LSs X (defBody s_is_step_form) (startD n_is_step_form [stepD s]) h { nx := fun _ h' => Fg (Q .non) h', rt := fun d h' => Fg (Q d) h' } := by
    intro x r m es hm hk
    rw [es]
    refine lss_cons (ls_ifB (bb := false) (lb_w (lw_or (b1 := false) (b2 := false) (lb_not (lb_val (lx_callB c isi_tt (la_cons (lx_name c 0 rfl rfl rfl) (la_cons (lx_blt c (by decide +kernel) G.b_tuple (by decide +kernel)) la_nil)) (by decide +kernel) G.b_isinstance (by decide +kernel)))) (fun _ => (lw_or (b1 := false) (b2 := false) (lb_eq (lb_cmp (lx_callB c cb_lenT (la_cons (lx_name c 0 rfl rfl rfl) la_nil) (by decide +kernel) G.b_len (by decide +kernel)) lx_int f2_eqI) ?_) (fun _ => (lw_or1 (lb_not (lb_val (lx_callB c isi_ss (la_cons (lx_ix (lx_name c 0 rfl rfl rfl) lx_int (ix2_T at0)) (la_cons (lx_blt c (by decide +kernel) G.b_str (by decide +kernel)) la_nil)) (by decide +kernel) G.b_isinstance (by decide +kernel)))))) (fun _ => rfl))) (fun _ => rfl))) (fun hb => nomatch hb) (fun hb => lss_nil ?_))
    · rw [decide_eq_false_iff_not, List.length_cons]
      omega
    · have hk2 := hk
      obtain ⟨es2, n2, u, q1, q2, q3, q4⟩ := hk2
      refine lss_one (ls_ret ((lx_eq (lx_and (b1 := true) (lb_inKD (r := some u) c K (lx_ix (lx_name c 0 rfl rfl rfl) lx_int (ix2_T at0)) (lx_globR c (by decide +kernel) hS) q3) (fun _ => (lx_one (lx_cmp (lx_callB c cb_lenT (la_cons (lx_name c 0 rfl rfl rfl) la_nil) (by decide +kernel) G.b_len (by decide +kernel)) (lx_ix (lx_globR c (by decide +kernel) hS) (lx_ix (lx_name c 0 rfl rfl rfl) lx_int (ix2_T at0)) (ix2_KD c hk)) f2_eqI))) (fun _ => rfl)) ?_) _ (Fg.of q)))
      rw [Bool.true_and, List.length_cons, hm, decide_eq_true rfl]
  cases s with
  | dbl k => exact go "double" _ 2 rfl rfl k2
  | strk k => exact go "strike" _ 2 rfl rfl k3
  | cho k w p key o => exact go "choose" _ 5 rfl rfl k4
  | fly a b c => exact go "fly" _ 4 rfl rfl k5
end Fy
end
section
set_option linter.all false
set_option maxRecDepth 100000
set_option maxHeartbeats 4000000
namespace Fy
open PySem PySem.Spec PyProof.Rows L2
local macro_rules | `(tactic| walk_at "fy op") => `(tactic| first
  | exact f2_add | exact f2_sub | exact f2_cat (by first | assumption | omega | (simp only [List.length_append, cutD_len] <;> omega)) | exact f2_and | exact f2_mod (by omega) | exact f2_fdiv ⟨by omega, by omega⟩ | exact f2_mul (by unfold CMul; omega))
local macro_rules | `(tactic| walk_at "fy cmp") => `(tactic| first
  | exact f2_lt | exact f2_le | exact f2_gt | exact f2_ge | exact f2_eqI | exact f2_neI | exact f2_eqS | exact f2_isN | exact f2_notN)
local macro_rules | `(tactic| walk_at "fy ix") => `(tactic| first
  | exact ix2_T (by first | assumption | rfl) | exact ix2_L (by assumption) (by assumption))
local macro_rules | `(tactic| walk_at "fy wk") => `(tactic| repeat' (first | exact Paired.nil | exact True.intro | rfl | apply Paired.cons))
variable {T : Tx} {C : Addr} {X : Cx} {h : HD}
def okD (q m : Nat) (s : Stp) : D := if s.ok q m then .int (s.after m : Nat) else .non
def sp_lanes_after : FS := fun ds h Q => ∃ (s : Stp) (m q : Nat), ds = [stepD s, .int m, .int q] ∧ s.small ∧ Q (okD q m s) h
theorem has_lanes_after (G : Top T C) : Has T 6 "lanes_after" ["step", "lanes", "letters"] sp_lanes_after := by
  refine has_of G.d_lanes_after sc_lanes_after hv_lanes_after (fun ds h Q ⟨_, _, _, e, _⟩ => by subst e; rfl) (fun _ _ _ _ _ _ us hl => match us, hl with | [_, _, _], _ => rfl) fun X c ds h Q ⟨s, m, qn, e, hsm, q⟩ => ?_
  subst e
  refine lss_cons (ls_ifB (bb := false) (lb_not (lb_val (lx_call (z := .bl true) c (has_is_step_form G) (by decide) (by decide +kernel) (la_cons (lx_name c 0 rfl rfl rfl) la_nil) fun Q q => ⟨s, rfl, q⟩))) (fun hb => nomatch hb) (fun hb => lss_nil ?_))
  cases s with
  | fly a b cc =>
    refine lss_cons (ls_ifB (bb := true) (lb_eq (lb_cmp (lx_ix (lx_name c 0 rfl rfl rfl) lx_int (ix2_T rfl)) lx_str f2_eqS) (by decide +kernel)) (fun hb => ?_) (fun hb => nomatch hb))
    have ecut : cutD [D.str "fly", .int a, .int b, .int cc] (some 1) none = [.int (a : Nat), .int (b : Nat), .int (cc : Nat)] := cutD_tail _
    refine lss_cons (ls_ifB (bb := !decide (a < b ∧ b < cc ∧ cc ≤ m)) (lb_eq (lb_w (lw_or (lb_not (lb_val (lx_callBL c (fun p hp => cb_all c (bs := [decide (0 ≤ (a : Int) ∧ (a : Int) ≤ m), decide (0 ≤ (b : Int) ∧ (b : Int) ≤ m), decide (0 ≤ (cc : Int) ∧ (cc : Int) ≤ m)]) updD_same) (ll_comp c (own := [("place", 4)]) (ds := cutD [D.str "fly", .int a, .int b, .int cc] (some 1) none) (by decide +kernel) (is := [4]) (by simp) (fun d => [some (stepD (.fly a b cc)), some (.int m), some (.int qn), none, some d]) (fun R k => li_tup (lx_cutT (lx_name c 0 rfl rfl rfl) (lo_some lx_int) lo_none) (k _ _ (Sub.refl _) fun _ _ _ => trivial)) (by rw [ecut]; rfl) (by rw [ecut]; simp) (fun i d hd X' b => lg_name (blk_ctx c b rfl rfl) 4 rfl rfl rfl) fun i d rr hh hd hr sb X' blk => ?_) (by decide +kernel) G.b_all (by decide +kernel)))) (fun _ => (lw_or1 (lb_not (lb_val (lx_call c (has_is_exchange G) (by decide) (by decide +kernel) (la_cons (lx_cutT (lx_name c 0 rfl rfl rfl) (lo_some lx_int) lo_none) (la_cons (lx_name c 1 rfl rfl rfl) la_nil)) fun Q q => ⟨a, b, cc, m, by rw [ecut], q⟩))))) (fun _ => rfl))) ?_) (fun hb => ?_) (fun hb => lss_nil ?_))
    · rw [ecut] at hd
      obtain ⟨x, rfl, rfl⟩ : ∃ x : Nat, d = .int x ∧ rr = .bl (decide (0 ≤ (x : Int) ∧ (x : Int) ≤ m)) := by
        match i, hd, hr with
        | 0, hd, hr => cases hd; cases hr; exact ⟨a, rfl, rfl⟩
        | 1, hd, hr => cases hd; cases hr; exact ⟨b, rfl, rfl⟩
        | 2, hd, hr => cases hd; cases hr; exact ⟨cc, rfl, rfl⟩
        | i + 3, hd, hr => simp at hd
      exact lx_call (blk_ctx c blk rfl rfl) (has_is_between G) (by decide) (by decide +kernel) (la_cons (lx_name (blk_ctx c blk rfl rfl) 4 rfl rfl rfl) (la_cons lx_int (la_cons (lx_name (blk_ctx c blk rfl rfl) 1 rfl rfl rfl) la_nil))) fun Q q => ⟨x, 0, m, rfl, q⟩
    · simp only [List.all_cons, List.all_nil, id, Bool.and_true]
      rw [← Bool.decide_and, ← Bool.decide_and, ← Bool.not_and, ← Bool.decide_and]
      congr 1
      exact decide_eq_decide.mpr ⟨fun h => by omega, fun h => by omega⟩
    · rw [Bool.not_eq_true', decide_eq_false_iff_not] at hb
      refine lss_one (ls_ret (lx_non _ (Fg.of ?_)))
      unfold okD Stp.ok at q
      rw [if_neg (by simpa using hb)] at q
      exact q
    · rw [Bool.not_eq_false', decide_eq_true_eq] at hb
      refine lss_one (ls_ret ((lx_name c 1 rfl rfl rfl) _ (Fg.of ?_)))
      unfold okD Stp.ok at q
      rw [if_pos (by simpa using hb)] at q
      exact q
  | dbl k =>
    refine lss_cons (ls_ifB (bb := false) (lb_eq (lb_cmp (lx_ix (lx_name c 0 rfl rfl rfl) lx_int (ix2_T rfl)) lx_str f2_eqS) (by decide +kernel)) (fun hb => nomatch hb) (fun hb => lss_nil ?_))
    refine lss_cons (ls_ifB (lb_not (lb_val (lx_call c (has_is_index G) (by decide) (by decide +kernel) (la_cons (lx_ix (lx_name c 0 rfl rfl rfl) lx_int (ix2_T rfl)) (la_cons (lx_name c 1 rfl rfl rfl) la_nil)) fun Q q => ⟨k, m, rfl, q⟩))) (fun hb => ?_) (fun hb => lss_nil ?_))
    · rw [Bool.not_eq_true', decide_eq_false_iff_not] at hb
      refine lss_one (ls_ret (lx_non _ (Fg.of ?_)))
      unfold okD Stp.ok at q
      rw [if_neg (by simp; omega)] at q
      exact q
    · rw [Bool.not_eq_false', decide_eq_true_eq] at hb
      refine lss_cons (ls_ifB (bb := true) (lb_eq (lb_cmp (lx_ix (lx_name c 0 rfl rfl rfl) lx_int (ix2_T rfl)) lx_str f2_eqS) (by decide +kernel)) (fun hb2 => ?_) (fun hb => nomatch hb))
      refine lss_one (ls_ret ((lx_bin (lx_name c 1 rfl rfl rfl) lx_int f2_add) _ (Fg.of ?_)))
      unfold okD Stp.ok at q
      rw [if_pos (by simp; omega)] at q
      exact q
  | strk k =>
    refine lss_cons (ls_ifB (bb := false) (lb_eq (lb_cmp (lx_ix (lx_name c 0 rfl rfl rfl) lx_int (ix2_T rfl)) lx_str f2_eqS) (by decide +kernel)) (fun hb => nomatch hb) (fun hb => lss_nil ?_))
    refine lss_cons (ls_ifB (lb_not (lb_val (lx_call c (has_is_index G) (by decide) (by decide +kernel) (la_cons (lx_ix (lx_name c 0 rfl rfl rfl) lx_int (ix2_T rfl)) (la_cons (lx_name c 1 rfl rfl rfl) la_nil)) fun Q q => ⟨k, m, rfl, q⟩))) (fun hb => ?_) (fun hb => lss_nil ?_))
    · rw [Bool.not_eq_true', decide_eq_false_iff_not] at hb
      refine lss_one (ls_ret (lx_non _ (Fg.of ?_)))
      unfold okD Stp.ok at q
      rw [if_neg (by simp; omega)] at q
      exact q
    · rw [Bool.not_eq_false', decide_eq_true_eq] at hb
      refine lss_cons (ls_ifB (bb := false) (lb_eq (lb_cmp (lx_ix (lx_name c 0 rfl rfl rfl) lx_int (ix2_T rfl)) lx_str f2_eqS) (by decide +kernel)) (fun hb => nomatch hb) (fun hb2 => lss_nil ?_))
      refine lss_cons (ls_ifB (bb := true) (lb_eq (lb_cmp (lx_ix (lx_name c 0 rfl rfl rfl) lx_int (ix2_T rfl)) lx_str f2_eqS) (by decide +kernel)) (fun hb2 => ?_) (fun hb => nomatch hb))
      refine lss_one (ls_ret ((lx_bin (lx_name c 1 rfl rfl rfl) lx_int f2_sub) _ (Fg.of ?_)))
      unfold okD Stp.ok at q
      rw [if_pos (by simp; omega)] at q
      have e : ((m : Int) - 1) = ((m - 1 : Nat) : Int) := by omega
      rw [e]
      exact q
  | cho k w p key o =>
    have hkl : key.length ≤ 1000 := hsm
    refine lss_cons (ls_ifB (bb := false) (lb_eq (lb_cmp (lx_ix (lx_name c 0 rfl rfl rfl) lx_int (ix2_T rfl)) lx_str f2_eqS) (by decide +kernel)) (fun hb => nomatch hb) (fun hb => lss_nil ?_))
    refine lss_cons (ls_ifB (lb_not (lb_val (lx_call c (has_is_index G) (by decide) (by decide +kernel) (la_cons (lx_ix (lx_name c 0 rfl rfl rfl) lx_int (ix2_T rfl)) (la_cons (lx_name c 1 rfl rfl rfl) la_nil)) fun Q q => ⟨k, m, rfl, q⟩))) (fun hb => ?_) (fun hb => lss_nil ?_))
    · rw [Bool.not_eq_true', decide_eq_false_iff_not] at hb
      refine lss_one (ls_ret (lx_non _ (Fg.of ?_)))
      unfold okD Stp.ok at q
      rw [if_neg (by rw [decide_eq_true_eq]; omega)] at q
      exact q
    · rw [Bool.not_eq_false', decide_eq_true_eq] at hb
      refine lss_cons (ls_ifB (bb := false) (lb_eq (lb_cmp (lx_ix (lx_name c 0 rfl rfl rfl) lx_int (ix2_T rfl)) lx_str f2_eqS) (by decide +kernel)) (fun hb => nomatch hb) (fun hb2 => lss_nil ?_))
      refine lss_cons (ls_ifB (bb := false) (lb_eq (lb_cmp (lx_ix (lx_name c 0 rfl rfl rfl) lx_int (ix2_T rfl)) lx_str f2_eqS) (by decide +kernel)) (fun hb => nomatch hb) (fun hb2 => lss_nil ?_))
      refine lss_cons (ls_set c 3 rfl rfl ((lx_ix (lx_name c 0 rfl rfl rfl) lx_int (ix2_T rfl)) _ ?_))
      refine lss_cons (ls_ifB (bb := !decide (2 ≤ w ∧ w ≤ 3 ∧ k + w ≤ m ∧ p < w)) (lb_eq (lb_w (lw_or (lb_not (lb_val (lx_call c (has_is_between G) (by decide) (by decide +kernel) (la_cons (lx_name c 3 rfl rfl rfl) (la_cons lx_int (la_cons lx_int la_nil))) fun Q q => ⟨w, 2, 3, rfl, q⟩))) (fun _ => (lw_or (lb_cmp (lx_bin (lx_ix (lx_name c 0 rfl rfl rfl) lx_int (ix2_T rfl)) (lx_name c 3 rfl rfl rfl) f2_add) (lx_name c 1 rfl rfl rfl) f2_gt) (fun _ => (lw_or1 (lb_not (lb_val (lx_call c (has_is_index G) (by decide) (by decide +kernel) (la_cons (lx_ix (lx_name c 0 rfl rfl rfl) lx_int (ix2_T rfl)) (la_cons (lx_name c 3 rfl rfl rfl) la_nil)) fun Q q => ⟨p, w, rfl, q⟩))))) (fun _ => rfl))) (fun _ => rfl))) ?_) (fun hb => ?_) (fun hb => lss_nil ?_))
      · rw [← decide_not, ← decide_not, ← Bool.decide_or, ← Bool.decide_or, ← decide_not]
        exact decide_eq_decide.mpr ⟨fun h => by omega, fun h => by omega⟩
      · rw [Bool.not_eq_true', decide_eq_false_iff_not] at hb
        refine lss_one (ls_ret (lx_non _ (Fg.of ?_)))
        unfold okD Stp.ok at q
        rw [if_neg (by rw [decide_eq_true_eq]; exact fun h => hb ⟨h.2.1, h.2.2.1, h.2.2.2.1, h.2.2.2.2.1⟩)] at q
        exact q
      · rename_i hb1 _ _
        rw [Bool.not_eq_false', decide_eq_true_eq] at hb
        have eok : (Stp.cho k w p key o).ok qn m = othB w qn key o := by
          unfold Stp.ok othB letB
          rw [Bool.eq_iff_iff, decide_eq_true_eq, Bool.and_eq_true, Bool.and_eq_true, decide_eq_true_eq, decide_eq_true_eq, List.all_eq_true]
          simp only [decide_eq_true_eq]
          exact ⟨fun h => ⟨⟨h.2.2.2.2.2.1, h.2.2.2.2.2.2.1⟩, h.2.2.2.2.2.2.2⟩, fun h => ⟨by omega, hb.1, hb.2.1, hb.2.2.1, hb.2.2.2, h.1.1, h.1.2, h.2⟩⟩
        refine lss_cons (ls_ifB (bb := !othB w qn key o) (lb_not (lb_val (lx_call c (has_are_others G) (by decide) (by decide +kernel) (la_cons (lx_ix (lx_name c 0 rfl rfl rfl) lx_int (ix2_T rfl)) (la_cons (lx_name c 3 rfl rfl rfl) (la_cons (lx_name c 2 rfl rfl rfl) la_nil))) fun Q q => ⟨key, o, w, qn, rfl, hkl, q⟩))) (fun hb3 => ?_) (fun hb3 => lss_nil ?_))
        · rw [Bool.not_eq_true'] at hb3
          refine lss_one (ls_ret (lx_non _ (Fg.of ?_)))
          unfold okD at q
          rw [eok, hb3] at q
          exact q
        · rw [Bool.not_eq_false'] at hb3
          refine lss_one (ls_ret ((lx_bin (lx_bin (lx_name c 1 rfl rfl rfl) (lx_name c 3 rfl rfl rfl) f2_sub) lx_int f2_add) _ (Fg.of ?_)))
          unfold okD at q
          rw [eok, hb3, if_pos rfl] at q
          have e : ((m : Int) - w + 1) = ((m + 1 - w : Nat) : Int) := by omega
          rw [e]
          exact q
def sp_can_be : FS := fun ds h Q => ∃ (s : Stp) (m q : Nat), ds = [stepD s, .int m, .int q] ∧ s.small ∧ Q (.bl (s.can q m)) h
theorem has_can_be (G : Top T C) : Has T 7 "can_be" ["step", "lanes", "letters"] sp_can_be := by
  refine has_of G.d_can_be sc_can_be hv_can_be (fun ds h Q ⟨_, _, _, e, _⟩ => by subst e; rfl) (fun _ _ _ _ _ _ us hl => match us, hl with | [_, _, _], _ => rfl) fun X c ds h Q ⟨s, m, qn, e, hsm, q⟩ => ?_
  subst e
  refine lss_cons (ls_set c 3 rfl rfl ((lx_call (z := okD qn m s) c (has_lanes_after G) (by decide) (by decide +kernel) (la_cons (lx_name c 0 rfl rfl rfl) (la_cons (lx_name c 1 rfl rfl rfl) (la_cons (lx_name c 2 rfl rfl rfl) la_nil))) fun Q q => ⟨s, m, qn, rfl, hsm, q⟩) _ ?_))
  unfold Stp.can at q
  cases ho : s.ok qn m with
  | false =>
    have eD : okD qn m s = .non := by unfold okD; rw [ho]; rfl
    rw [eD]
    rw [ho] at q
    refine lss_one (ls_ret ((lx_and (b1 := false) (b2 := false) (lx_cmp (lx_name c 3 rfl rfl rfl) lx_non f2_notN) (fun z => nomatch z) (fun _ => rfl)) _ (Fg.of q)))
  | true =>
    have eD : okD qn m s = .int (s.after m : Nat) := by unfold okD; rw [ho]; rfl
    rw [eD]
    rw [ho] at q
    refine lss_one (ls_ret ((lx_eq (lx_and (b1 := true) (lx_cmp (lx_name c 3 rfl rfl rfl) lx_non f2_notN) (fun _ => (lx_one (lx_chain lx_int (lx_name c 3 rfl rfl rfl) f2_le (fun _ => (lx_con c (by decide +kernel) G.MOST_LANES)) (fun _ => f2_le) (fun _ => rfl)))) (fun _ => rfl)) ?_) _ (Fg.of q)))
    rw [← Bool.decide_and]
    congr 2
    exact decide_eq_decide.mpr ⟨fun h => by omega, fun h => by omega⟩
end Fy
end
section
set_option linter.all false
set_option maxRecDepth 100000
set_option maxHeartbeats 4000000
namespace Fy
open PySem PySem.Spec PyProof.Rows L2
local macro_rules | `(tactic| walk_at "fy op") => `(tactic| first
  | exact f2_add | exact f2_sub | exact f2_cat (by first | assumption | omega | (simp only [List.length_append, cutD_len] <;> omega)) | exact f2_and | exact f2_mod (by omega) | exact f2_fdiv ⟨by omega, by omega⟩ | exact f2_mul (by unfold CMul; omega))
local macro_rules | `(tactic| walk_at "fy cmp") => `(tactic| first
  | exact f2_lt | exact f2_le | exact f2_gt | exact f2_ge | exact f2_eqI | exact f2_neI | exact f2_eqS | exact f2_isN | exact f2_notN)
local macro_rules | `(tactic| walk_at "fy ix") => `(tactic| first
  | exact ix2_T (by first | assumption | rfl) | exact ix2_L (by assumption) (by assumption))
local macro_rules | `(tactic| walk_at "fy wk") => `(tactic| repeat' (first | exact Paired.nil | exact True.intro | rfl | apply Paired.cons))
variable {T : Tx} {C : Addr} {X : Cx} {h : HD}
/-! ### nets -/
theorem hasM_of {m qual : Str} {stm : Stmt} {N ps : List Str} {vt : List Bool} {k : Nat} {fs : FS} (d : ∃ f fd, Meth T.K C m f ∧ Fun T.K m qual stm f fd) (S : FnScope N ps (defScope stm)) (hv : N.map (locB (defScope stm)) = vt) (len : ∀ ds h Q, fs ds h Q → ds.length = ps.length)
    (bi : ∀ (kV doc pm : Value) (an : Option Addr) (cdv ct : Value) (us : List Value), us.length = ps.length → bindArgs (PySem.W.fnOf m qual (defArgs stm) (defBody stm) (defScope stm) .none kV doc pm an cdv ct) ⟨us, []⟩ = pure (ps.zip us))
    (body : ∀ X, Ctx X T k N (defScope stm) vt vt → ∀ ds h Q, fs ds h Q → LSs X (defBody stm) (startD N ds) h { nx := fun _ h' => Fg (Q .non) h', rt := fun d h' => Fg (Q d) h' }) : HasM T C (k + 1) m ps fs := by
  obtain ⟨f, fd, e, F⟩ := d
  exact ⟨f, fd, e, F.binds bi, fn_ok F S hv len body⟩
theorem hasI_of {qual : Str} {stm : Stmt} {N ps : List Str} {vt : List Bool} {k : Nat} {fs : FS} (d : ∃ f fd, Mk T.K C f ∧ Fun T.K "__init__" qual stm f fd) (S : FnScope N ps (defScope stm)) (hv : N.map (locB (defScope stm)) = vt) (len : ∀ ds h Q, fs ds h Q → ds.length = ps.length)
    (bi : ∀ (kV doc pm : Value) (an : Option Addr) (cdv ct : Value) (us : List Value), us.length = ps.length → bindArgs (PySem.W.fnOf "__init__" qual (defArgs stm) (defBody stm) (defScope stm) .none kV doc pm an cdv ct) ⟨us, []⟩ = pure (ps.zip us))
    (body : ∀ X, Ctx X T k N (defScope stm) vt vt → ∀ ds h Q, fs ds h Q → LSs X (defBody stm) (startD N ds) h { nx := fun _ h' => Fg (Q .non) h', rt := fun d h' => Fg (Q d) h' }) : HasI T C (k + 1) ps fs := by
  obtain ⟨f, fd, e, F⟩ := d
  exact ⟨f, fd, e, F.binds bi, fn_ok F S hv len body⟩
/-- the others that belong to a step -/
def othD (h : HD) : Stp → D → Prop
  | .cho _ _ _ key o, d => ∃ r, d = .ref r ∧ h r = some (.dT [(rowK key, .int o)])
  | _, d => d = .non
theorem othD.keep {h h' : HD} (k : ∀ r kvs, h r = some (.dT kvs) → h' r = some (.dT kvs)) : ∀ {s : Stp} {d : D}, othD h s d → othD h' s d
  | .cho _ _ _ _ _, _, ⟨r, e1, e2⟩ => ⟨r, e1, k r _ e2⟩
  | .dbl _, _, e => e
  | .strk _, _, e => e
  | .fly _ _ _, _, e => e
def netF (q m : Nat) (ss : List Stp) (outs : Nat) (oth : D) : List (Str × D) := [("kept_letters", .int q), ("kept_lanes", .int m), ("kept_steps", .tup (ss.map stepD)), ("kept_outs", .int outs), ("kept_others", oth)]
def NetAt (C : Addr) (h : HD) (x : Addr) (q m : Nat) (ss : List Stp) : Prop :=
  ∃ oth os, h x = some (.ins C (netF q m ss (lanesB m ss) (.ref oth))) ∧ h oth = some (.lst os) ∧ Paired (othD h) ss os
theorem NetAt.sub {h h' : HD} {x : Addr} {q m : Nat} {ss : List Stp} (n : NetAt C h x q m ss) (s : Sub h h') : NetAt C h' x q m ss := by
  obtain ⟨oth, os, e1, e2, p⟩ := n
  exact ⟨oth, os, s _ _ e1, s _ _ e2, Paired.mapP p fun _ _ z => z.keep fun r kvs e => s _ _ e⟩
theorem putFD_lt {f : Str} {v : D} {n : Nat} : ∀ {l : List (Str × D)}, l.length < n → (putFD f v l).length < n + 1
  | [], h => by
    show 1 < n + 1
    simp at h
    omega
  | (g, x) :: r, h => by
    unfold putFD
    rw [List.length_cons] at h
    split
    · rw [List.length_cons]; omega
    · rw [List.length_cons]
      have := putFD_lt (f := f) (v := v) (n := n - 1) (l := r) (by omega)
      omega
def sp_keep : FS := fun ds h Q => ∃ (h0 : HD) (x : Addr) (q m : Nat) (ss : List Stp), ds = [.ref x, .int q, .int m, .tup (ss.map stepD), .int (lanesB m ss : Nat)] ∧ h0 x = none ∧ h = updD h0 x (.ins C []) ∧ ss.length ≤ 1000 ∧ ∀ h', Sub h0 h' → NetAt C h' x q m ss → Q .non h'
theorem snoc_paired {α β : Type} {F : α → β → Prop} {l : List α} {m : List β} (p : Paired F l m) {a : α} {b : β} (h : F a b) : Paired F (l ++ [a]) (m ++ [b]) := by
  induction p with
  | nil => exact .cons h .nil
  | cons h' t ih => exact .cons h' ih
theorem has_keep (G : Top T C) : HasM T C 1 "keep" ["self", "letters", "lanes", "steps", "outs"] (sp_keep (C := C)) := by
  refine hasM_of G.m_keep sc_Net_keep hv_Net_keep (fun ds h Q ⟨_, _, _, _, _, e, _⟩ => by subst e; rfl) (fun _ _ _ _ _ _ us hl => match us, hl with | [_, _, _, _, _], _ => rfl) fun X c ds h Q ⟨h0, x, qn, m, ss, e, hx0, eh, hlen, q⟩ => ?_
  subst e
  subst eh
  refine lss_cons (ls_fld (p := x) c ((lx_name c 1 rfl rfl rfl) _ ⟨_, updD_same, by decide, lx_name c 0 rfl rfl rfl, ?_⟩) G.cl G.n_kept_letters)
  rw [updD_updD]
  refine lss_cons (ls_fld (p := x) c ((lx_name c 2 rfl rfl rfl) _ ⟨_, updD_same, Nat.lt_of_lt_of_le (putFD_lt (show ([] : List (Str × D)).length < 1 by decide)) (by decide), lx_name c 0 rfl rfl rfl, ?_⟩) G.cl G.n_kept_lanes)
  rw [updD_updD]
  refine lss_cons (ls_fld (p := x) c ((lx_name c 3 rfl rfl rfl) _ ⟨_, updD_same, Nat.lt_of_lt_of_le (putFD_lt (putFD_lt (show ([] : List (Str × D)).length < 1 by decide))) (by decide), lx_name c 0 rfl rfl rfl, ?_⟩) G.cl G.n_kept_steps)
  rw [updD_updD]
  refine lss_cons (ls_fld (p := x) c ((lx_name c 4 rfl rfl rfl) _ ⟨_, updD_same, Nat.lt_of_lt_of_le (putFD_lt (putFD_lt (putFD_lt (show ([] : List (Str × D)).length < 1 by decide)))) (by decide), lx_name c 0 rfl rfl rfl, ?_⟩) G.cl G.n_kept_outs)
  rw [updD_updD]
  generalize hF : putFD "kept_outs" (.int (lanesB m ss : Nat)) (putFD "kept_steps" (.tup (ss.map stepD)) (putFD "kept_lanes" (.int m) (putFD "kept_letters" (.int qn) []))) = F4
  have hF' : F4 = ([("kept_letters", .int qn), ("kept_lanes", .int m), ("kept_steps", .tup (ss.map stepD)), ("kept_outs", .int (lanesB m ss : Nat))] : List (Str × D)) := by
    rw [← hF]
    rfl
  generalize hh1 : updD h0 x (.ins C F4) = h1
  have e1 : h1 x = some (.ins C F4) := by rw [← hh1]; exact updD_same
  have sb1 : Sub h0 h1 := by rw [← hh1]; exact Sub.new hx0
  refine lss_one (ls_fld (p := x) c (le_comp c (own := [("step", 5)]) (by decide +kernel) (li_tup (lx_name c 3 rfl rfl rfl) fun p hp => ⟨fun i acc hh => Sub h1 hh ∧ hh p = some (.lst acc) ∧ Paired (othD hh) (ss.take i) acc ∧ acc.length = i, ?_, fun i acc hh ⟨_, e, _⟩ => ⟨e, trivial⟩, ?_, ?_⟩)) G.cl G.n_kept_others)
  · exact ⟨Sub.new hp, updD_same, .nil, rfl⟩
  · rintro i d acc hh hd ⟨sb, ep, pr, hal⟩
    obtain ⟨s, hs, rfl⟩ := map_get hd
    have hi : i < ss.length := (List.getElem?_eq_some_iff.mp hs).1
    refine ⟨[5], [some (.ref x), some (.int qn), some (.int m), some (.tup (ss.map stepD)), some (.int (lanesB m ss : Nat)), some (stepD s)], by simp, fun X' b => lg_name (blk_ctx c b rfl rfl) 5 rfl rfl rfl, fun X' b => lif_nil ⟨fun _ X2 b2 => ?_, fun z => nomatch z⟩⟩
    have et : ss.take (i + 1) = ss.take i ++ [s] := by rw [List.take_add_one, hs]; rfl
    have fin : ∀ {hh' : HD} {r : D}, Sub hh hh' → othD hh' s r → (∀ kvs, hh' p ≠ some (.dT kvs)) → Fg ((fun (i : Nat) (acc : List D) (hh : HD) => Sub h1 hh ∧ hh p = some (.lst acc) ∧ Paired (othD hh) (ss.take i) acc ∧ acc.length = i) (i + 1) (acc ++ [r])) (updD hh' p (.lst (acc ++ [r]))) := fun {hh' r} sb2 ho hpn => by
      have kk : ∀ r' kvs, hh' r' = some (.dT kvs) → updD hh' p (.lst (acc ++ [r])) r' = some (.dT kvs) := fun r' kvs e => by
        rw [updD_ne]
        · exact e
        · intro z; subst z; exact hpn _ e
      refine Fg.of ⟨(sb.trans sb2).put _ hp, updD_same, ?_, by rw [List.length_append, hal]; rfl⟩
      rw [et]
      exact snoc_paired (Paired.mapP pr fun _ _ z => (z.keep fun r' kvs e => sb2 _ _ e).keep kk) (ho.keep kk)
    have hpn : ∀ kvs, hh p ≠ some (.dT kvs) := fun kvs z => by rw [ep] at z; cases z
    cases s with
    | cho k w pp key o =>
      refine le_if (b1 := true) (lb_eq (lb_cmp (lx_ix (lx_name (blk_ctx c b2 rfl rfl) 5 rfl rfl rfl) lx_int (ix2_T rfl)) lx_str f2_eqS) (by decide +kernel)) (fun _ => ?_) (fun z => nomatch z)
      refine le_dictT1 (ks := rowK key) (d := .int o) (blk_ctx c b2 rfl rfl) (lx_eq (lx_ix (lx_name (blk_ctx c b2 rfl rfl) 5 rfl rfl rfl) lx_int (ix2_T rfl)) (by rw [rowK_kd]; rfl)) (by decide +kernel) G.b_dict (by decide +kernel) fun p2 hp2 => ?_
      refine ⟨by omega, by rw [updD_ne (neN ep hp2)]; exact ep, ?_⟩
      exact fin (Sub.new hp2) ⟨p2, rfl, updD_same⟩ fun kvs z => by rw [updD_ne (neN ep hp2)] at z; exact hpn kvs z
    | dbl k =>
      refine le_if (b1 := false) (lb_eq (lb_cmp (lx_ix (lx_name (blk_ctx c b2 rfl rfl) 5 rfl rfl rfl) lx_int (ix2_T rfl)) lx_str f2_eqS) (by decide +kernel)) (fun z => nomatch z) (fun _ => lx_non _ ⟨by omega, ep, fin (Sub.refl _) rfl hpn⟩)
    | strk k =>
      refine le_if (b1 := false) (lb_eq (lb_cmp (lx_ix (lx_name (blk_ctx c b2 rfl rfl) 5 rfl rfl rfl) lx_int (ix2_T rfl)) lx_str f2_eqS) (by decide +kernel)) (fun z => nomatch z) (fun _ => lx_non _ ⟨by omega, ep, fin (Sub.refl _) rfl hpn⟩)
    | fly a b' cc =>
      refine le_if (b1 := false) (lb_eq (lb_cmp (lx_ix (lx_name (blk_ctx c b2 rfl rfl) 5 rfl rfl rfl) lx_int (ix2_T rfl)) lx_str f2_eqS) (by decide +kernel)) (fun z => nomatch z) (fun _ => lx_non _ ⟨by omega, ep, fin (Sub.refl _) rfl hpn⟩)
  · rintro acc hh ⟨sb, ep, pr, hal⟩
    rw [List.length_map, List.take_length] at pr
    refine Fg.of ⟨F4, sb _ _ e1, by rw [hF']; simp, lx_name c 0 rfl rfl rfl, ?_⟩
    refine Fg.of (q _ ((sb1.trans sb).put _ hx0) ?_)
    have nxp : p ≠ x := neD ep (sb _ _ e1) (fun z => nomatch z)
    refine ⟨p, acc, ?_, by rw [updD_ne nxp]; exact ep, Paired.mapP pr fun _ _ z => z.keep fun r kvs e => ?_⟩
    · rw [updD_same, hF']
      rfl
    · rw [updD_ne]
      · exact e
      · intro z; subst z; rw [sb _ _ e1] at e; cases e
end Fy
end
section
set_option linter.all false
set_option maxRecDepth 100000
set_option maxHeartbeats 4000000
namespace Fy
open PySem PySem.Spec PyProof.Rows L2
local macro_rules | `(tactic| walk_at "fy op") => `(tactic| first
  | exact f2_add | exact f2_sub | exact f2_cat (by first | assumption | omega | (simp only [List.length_append, cutD_len] <;> omega)) | exact f2_and | exact f2_mod (by omega) | exact f2_fdiv ⟨by omega, by omega⟩ | exact f2_mul (by unfold CMul; omega))
local macro_rules | `(tactic| walk_at "fy cmp") => `(tactic| first
  | exact f2_lt | exact f2_le | exact f2_gt | exact f2_ge | exact f2_eqI | exact f2_neI | exact f2_eqS | exact f2_isN | exact f2_notN)
local macro_rules | `(tactic| walk_at "fy ix") => `(tactic| first
  | exact ix2_T (by first | assumption | rfl) | exact ix2_L (by assumption) (by assumption))
local macro_rules | `(tactic| walk_at "fy wk") => `(tactic| repeat' (first | exact Paired.nil | exact True.intro | rfl | apply Paired.cons))
variable {T : Tx} {C : Addr} {X : Cx} {h : HD}
section
variable {X' : Cx} {k : Nat} {N : List Str} {sc : Scope} {vt st vt' st' : List Bool} {ρ : Rho} {tg iter cond elt : Expr} {ds : List D} {pos : Pos}
/-- a comprehension with a test; both leave the heap as it is -/
theorem ll_compIf {scope : Scope} {own : List (Str × Nat)} (c : Ctx X T k N sc vt st) (ok : blkC N sc scope own = true) {is : List Nat} (his : ∀ i ∈ is, i ∈ own.map (·.2)) (f : D → Rho) (t : D → Bool) (g : D → D)
    (hi : ∀ R : List D → (HD → Prop) → HD → Prop, (∀ G h1, Sub h h1 → (∀ p acc, h1 p = none → G (updD h1 p (.lst acc))) → R ds G h1) → LI X tg iter ρ h R)
    (hz : ds.length ≤ 90000)
    (ht : ∀ (i : Nat) (d : D), ds[i]? = some d → ∀ X', Blk X scope X' → LG X' tg d (wipeD ρ (own.map (·.2))) is fun ρ' => ρ' = f d)
    (hb : ∀ (i : Nat) (d : D) hh, ds[i]? = some d → Sub h hh → ∀ X', Blk X scope X' → LB X' cond (f d) hh (t d) hh)
    (he : ∀ (i : Nat) (d : D) hh, ds[i]? = some d → t d = true → Sub h hh → ∀ X', Blk X scope X' → LX X' elt (f d) hh (g d) hh)
    (hs : ∀ x, foldedSetIterable iter X.env x = pure x := by intro _; rfl) : LL X (.ListComp elt [⟨tg, iter, [cond], 0⟩] scope pos) ρ h ((ds.filter t).map g) := fun Q q =>
  le_comp c ok (hi _ fun G h1 sb hG p hp => ⟨fun i acc hh => i ≤ ds.length ∧ acc = ((ds.take i).filter t).map g ∧ hh = updD h1 p (.lst acc), ⟨Nat.zero_le _, rfl, rfl⟩, fun i acc hh ⟨_, _, e⟩ => by
      subst e
      exact ⟨updD_same, hG p _ hp⟩, fun i d acc hh hd ⟨hle, e1, e2⟩ => by
      subst e1 e2
      have hlt : i < ds.length := (List.getElem?_eq_some_iff.mp hd).1
      refine ⟨is, f d, his, fun X' b => ht i d hd X' b, fun X' b => lif_one (hb i d _ hd (sb.trans (Sub.new hp)) X' b _ ⟨fun ht' X2 b2 => he i d _ hd ht' (sb.trans (Sub.new hp)) X2 b2 _ ⟨?_, updD_same, Fg.of ⟨hlt, ?_, ?_⟩⟩, fun ht' => Fg.of ⟨hlt, ?_, rfl⟩⟩)⟩
      · rw [List.length_map]
        have h1 := List.length_filter_le t (ds.take i)
        rw [List.length_take] at h1
        omega
      · rw [List.take_add_one, hd, List.filter_append, List.map_append]
        show _ = _ ++ List.map g (List.filter t [d])
        rw [List.filter_cons_of_pos ht']
        rfl
      · rw [updD_updD]
      · rw [List.take_add_one, hd, List.filter_append, List.map_append]
        show _ = _ ++ List.map g (List.filter t [d])
        rw [List.filter_cons_of_neg (by rw [ht']; exact Bool.false_ne_true)]
        simp, fun acc hh ⟨_, e1, e2⟩ => by
      subst e1 e2
      rw [List.take_length]
      exact Fg.to (sb.upd p _) (q p (by cases e : h p with | none => rfl | some o => rw [sb p o e] at hp; cases hp))⟩) hs
end
/-- len(..) of a new list -/
theorem cb_lenN {p : Addr} {ds : List D} : CB X (.builtin "len") [.ref p] (updD h p (.lst ds)) (.int ds.length) (updD h p (.lst ds)) := cb_lenL updD_same
/-- what a net's fields say -/
theorem NetAt.fld {x : Addr} {q m : Nat} {ss : List Stp} (n : NetAt C h x q m ss) : ∃ oth, h x = some (.ins C (netF q m ss (lanesB m ss) (.ref oth))) := let ⟨oth, _, e, _⟩ := n; ⟨oth, e⟩
def sp_steps : FS := fun ds h Q => ∃ (x : Addr) (q m : Nat) (ss : List Stp), ds = [.ref x] ∧ NetAt C h x q m ss ∧ Q (.tup (ss.map stepD)) h
theorem has_steps (G : Top T C) : HasM T C 1 "steps" ["self"] (sp_steps (C := C)) := by
  refine hasM_of G.m_steps sc_Net_steps hv_Net_steps (fun ds h Q ⟨_, _, _, _, e, _⟩ => by subst e; rfl) (fun _ _ _ _ _ _ us hl => match us, hl with | [_], _ => rfl) fun X c ds h Q ⟨x, qn, m, ss, e, n, q⟩ => ?_
  subst e
  obtain ⟨oth, e1⟩ := n.fld
  exact lss_one (ls_ret ((lx_fld c (lx_name c 0 rfl rfl rfl) e1 G.cl G.n_kept_steps rfl) _ (Fg.of q)))
def sp_outs : FS := fun ds h Q => ∃ (x : Addr) (q m : Nat) (ss : List Stp), ds = [.ref x] ∧ NetAt C h x q m ss ∧ Q (.int (lanesB m ss : Nat)) h
theorem has_outs (G : Top T C) : HasM T C 1 "outs" ["self"] (sp_outs (C := C)) := by
  refine hasM_of G.m_outs sc_Net_outs hv_Net_outs (fun ds h Q ⟨_, _, _, _, e, _⟩ => by subst e; rfl) (fun _ _ _ _ _ _ us hl => match us, hl with | [_], _ => rfl) fun X c ds h Q ⟨x, qn, m, ss, e, n, q⟩ => ?_
  subst e
  obtain ⟨oth, e1⟩ := n.fld
  exact lss_one (ls_ret ((lx_fld c (lx_name c 0 rfl rfl rfl) e1 G.cl G.n_kept_outs rfl) _ (Fg.of q)))
def isFlyD : D → Bool
  | .tup (.str x :: _) => decide (x = ("fly" : Str))
  | _ => false
theorem isFlyD_eq (s : Stp) : isFlyD (stepD s) = s.isFly := by
  cases s with
  | dbl k => show decide (("double" : Str) = "fly") = false; decide +kernel
  | strk k => show decide (("strike" : Str) = "fly") = false; decide +kernel
  | fly a b c => show decide (("fly" : Str) = "fly") = true; decide +kernel
  | cho k w p key o => show decide (("choose" : Str) = "fly") = false; decide +kernel
theorem step0 (s : Stp) : ∃ x r, stepD s = .tup (.str x :: r) ∧ s.isFly = decide (x = ("fly" : Str)) := by
  cases s with
  | dbl k => exact ⟨_, _, rfl, by show false = decide (("double" : Str) = "fly"); decide +kernel⟩
  | strk k => exact ⟨_, _, rfl, by show false = decide (("strike" : Str) = "fly"); decide +kernel⟩
  | fly a b c => exact ⟨_, _, rfl, by show true = decide (("fly" : Str) = "fly"); decide +kernel⟩
  | cho k w p key o => exact ⟨_, _, rfl, by show false = decide (("choose" : Str) = "fly"); decide +kernel⟩
def sp_flyovers : FS := fun ds h Q => ∃ (x : Addr) (q m : Nat) (ss : List Stp), ds = [.ref x] ∧ NetAt C h x q m ss ∧ ss.length ≤ 1000 ∧ Q (.int (flies ss : Nat)) h
theorem has_flyovers (G : Top T C) : HasM T C 1 "flyovers" ["self"] (sp_flyovers (C := C)) := by
  refine hasM_of G.m_flyovers sc_Net_flyovers hv_Net_flyovers (fun ds h Q ⟨_, _, _, _, e, _⟩ => by subst e; rfl) (fun _ _ _ _ _ _ us hl => match us, hl with | [_], _ => rfl) fun X c ds h Q ⟨x, qn, m, ss, e, n, hl, q⟩ => ?_
  subst e
  obtain ⟨oth, e1⟩ := n.fld
  refine lss_one (ls_ret ((lx_callBL c (fun p hp => cb_lenN) (ll_compIf c (own := [("step", 1)]) (ds := ss.map stepD) (by decide +kernel) (is := [1]) (by simp) (fun d => [some (.ref x), some d]) isFlyD (fun _ => .int 1) (fun R k => li_tup (lx_fld c (lx_name c 0 rfl rfl rfl) e1 G.cl G.n_kept_steps rfl) (k _ _ (Sub.refl _) fun _ _ _ => trivial)) (by rw [List.length_map]; omega) (fun i d hd X' b => lg_name (blk_ctx c b rfl rfl) 1 rfl rfl rfl) (fun i d hh hd sb X' b => ?_) fun i d hh hd ht sb X' b => lx_int) (by decide +kernel) G.b_len (by decide +kernel)) _ (Fg.of ?_)))
  · obtain ⟨s, hs, rfl⟩ := map_get hd
    obtain ⟨y, r, ey, ef⟩ := step0 s
    rw [isFlyD_eq, ef, ey]
    exact lb_cmp (lx_ix (lx_name (blk_ctx c b rfl rfl) 1 rfl rfl rfl) lx_int (ix2_T at0)) lx_str f2_eqS
  · have e2 : (((ss.map stepD).filter isFlyD).map fun _ => D.int 1).length = flies ss := by
      rw [List.length_map, List.filter_map, List.length_map]
      unfold flies
      congr 2
      funext s
      exact isFlyD_eq s
    rw [e2]
    exact q
def StA (h : HD) (d : D) (ss : List Stp) : Prop := d = .tup (ss.map stepD) ∨ ∃ p, d = .ref p ∧ h p = some (.lst (ss.map stepD))
theorem lanesB_take {m : Nat} {ss : List Stp} {i : Nat} {s : Stp} (h : ss[i]? = some s) : lanesB m (ss.take (i + 1)) = s.after (lanesB m (ss.take i)) := by
  unfold lanesB
  rw [List.take_add_one, h, List.foldl_append]
  rfl
theorem cans_at {q : Nat} : ∀ {m : Nat} {ss : List Stp}, cans q m ss = true → ∀ {i : Nat} {s : Stp}, ss[i]? = some s → s.can q (lanesB m (ss.take i)) = true
  | _, [], _, _, _, h => by simp at h
  | m, t :: ss, hc, 0, s, h => by
    rw [cans, Bool.and_eq_true] at hc
    simp at h
    subst h
    exact hc.1
  | m, t :: ss, hc, i + 1, s, h => by
    rw [cans, Bool.and_eq_true] at hc
    exact cans_at hc.2 (i := i) (by simpa using h)
theorem can_ok {q m : Nat} {s : Stp} (h : s.can q m = true) : s.ok q m = true ∧ 1 ≤ s.after m ∧ s.after m ≤ 1000 := by
  unfold Stp.can at h
  rw [Bool.and_eq_true, decide_eq_true_eq] at h
  exact h
def Smalls (ss : List Stp) : Prop := ∀ s ∈ ss, s.small
theorem li_enumSt {k : Nat} {N : List Str} {sc : Scope} {vt st : List Bool} {ρ : Rho} {a : Expr} {pos tpos p0 : Pos} {elts : List Expr} {kk : Nat} {sd : D} {ss : List Stp} {R : List D → (HD → Prop) → HD → Prop} (c : Ctx X T k N sc vt st) (hst : StA h sd ss) (ha : LX X a ρ h sd h) (hg : globB sc "enumerate" = true) (hm : T.mg "enumerate" = none)
    (q : ∀ G : HD → Prop, G h → R (enD (ss.map stepD)) G h) (hs : starEach [a] X.env = [(false, eval a X.env)] := by rfl) : LI X (.Tuple elts kk tpos) (.Call (.Name "enumerate" p0) [a] [] pos) ρ h R := by
  rcases hst with e | ⟨p, e, ep⟩
  · subst e
    exact li_enumT c ha hg hm (q _ trivial) hs
  · subst e
    exact li_enumL c ha ep hg hm (q _ ep) hs
theorem li_St {tg : Expr} {ρ : Rho} {a : Expr} {sd : D} {ss : List Stp} {R : List D → (HD → Prop) → HD → Prop} (hst : StA h sd ss) (ha : LX X a ρ h sd h) (q : ∀ G : HD → Prop, G h → R (ss.map stepD) G h) : LI X tg a ρ h R := by
  rcases hst with e | ⟨p, e, ep⟩
  · subst e
    exact li_tup ha (q _ trivial)
  · subst e
    exact li_list ha ep (q _ ep)
/-- tuple(steps) -/
theorem cb_tupSt {sd : D} {ss : List Stp} (hst : StA h sd ss) : CB X (.type "tuple") [sd] h (.tup (ss.map stepD)) h := by
  rcases hst with e | ⟨p, e, ep⟩
  · subst e
    exact cb_tupT
  · subst e
    exact cb_tupL ep
def sp_init : FS := fun ds h Q => ∃ (h0 : HD) (x : Addr) (q m : Nat) (sd : D) (ss : List Stp), ds = [.ref x, .int q, .int m, sd] ∧ h0 x = none ∧ h = updD h0 x (.ins C []) ∧ StA h0 sd ss ∧ 1 ≤ q ∧ q ≤ 4 ∧ 1 ≤ m ∧ m ≤ 1000 ∧ cans q m ss = true ∧ Smalls ss ∧ ss.length ≤ 1000 ∧
  ∀ h', Sub h0 h' → NetAt C h' x q m ss → Q .non h'
theorem has_init (G : Top T C) : HasI T C 8 ["self", "letters", "lanes", "steps"] (sp_init (C := C)) := by
  refine hasI_of G.mkN sc_Net_init hv_Net_init (fun ds h Q ⟨_, _, _, _, _, _, e, _⟩ => by subst e; rfl) (fun _ _ _ _ _ _ us hl => match us, hl with | [_, _, _, _], _ => rfl) fun X c ds h Q ⟨h0, x, qn, m, sd, ss, e, hx0, eh, hst, q1, q4, m1, m2, hc, hsm, hlen, q⟩ => ?_
  subst e
  have hst' : StA h sd ss := by
    rcases hst with e | ⟨p, e, ep⟩
    · exact .inl e
    · exact .inr ⟨p, e, by rw [eh, updD_ne (neN ep hx0)]; exact ep⟩
  refine lss_cons (ls_ifB (bb := false) (lb_not (lb_val (lx_call (z := .bl true) c (has_is_between G) (by decide) (by decide +kernel) (la_cons (lx_name c 1 rfl rfl rfl) (la_cons lx_int (la_cons (lx_con c (by decide +kernel) G.MOST_LETTERS_checks) la_nil))) fun Q q => ⟨qn, 1, 4, rfl, by rw [decide_eq_true (by omega)]; exact q⟩))) (fun hb => nomatch hb) (fun hb => lss_nil ?_))
  refine lss_cons (ls_ifB (bb := false) (lb_not (lb_val (lx_call (z := .bl true) c (has_is_between G) (by decide) (by decide +kernel) (la_cons (lx_name c 2 rfl rfl rfl) (la_cons lx_int (la_cons (lx_con c (by decide +kernel) G.MOST_LANES) la_nil))) fun Q q => ⟨m, 1, 1000, rfl, by rw [decide_eq_true (by omega)]; exact q⟩))) (fun hb => nomatch hb) (fun hb => lss_nil ?_))
  refine lss_cons (ls_ifB (bb := false) (lb_not (lb_val (lx_callB c (cb_isiLT (by
      rcases hst' with e | ⟨p, e, ep⟩
      · exact .inl ⟨_, e⟩
      · exact .inr ⟨p, _, e, ep⟩)) (la_cons (lx_name c 3 rfl rfl rfl) (la_cons (lx_tup (la_cons (lx_blt c (by decide +kernel) G.b_list (by decide +kernel)) (la_cons (lx_blt c (by decide +kernel) G.b_tuple (by decide +kernel)) la_nil))) la_nil)) (by decide +kernel) G.b_isinstance (by decide +kernel)))) (fun hb => nomatch hb) (fun hb => lss_nil ?_))
  refine lss_cons (ls_set c 4 rfl rfl ((lx_name c 2 rfl rfl rfl) _ ?_))
  refine lss_cons (ls_for c (li_enumSt c hst' (lx_name c 3 rfl rfl rfl) (by decide +kernel) G.b_enumerate fun Gp hG => ⟨fun i ρ hh => ρ = [some (.ref x), some (.int qn), some (.int m), some sd, some (.int (lanesB m (ss.take i) : Nat)), none, none] ∧ hh = h, ⟨rfl, rfl⟩, fun i ρ hh hP => by rw [hP.2]; exact hG, ?_, ?_⟩))
  · rintro i d ρ1 hh hd ⟨rfl, rfl⟩
    rw [enD_get] at hd
    cases hs : (ss.map stepD)[i]? with
    | none => rw [hs] at hd; cases hd
    | some d' =>
      rw [hs] at hd
      cases hd
      obtain ⟨s, hs', rfl⟩ := map_get hs
      have hcan := cans_at hc hs'
      have hsml := hsm s (List.mem_of_getElem? hs')
      refine ⟨_, lg_tup c (lgs_cons (lg_name c 5 rfl rfl (lgs_cons (lg_name c 6 rfl rfl (lgs_nil ?_))))) rfl⟩
      refine lss_cons (ls_ifB (bb := false) (lb_not (lb_val (lx_call (z := .bl true) c (has_can_be G) (by decide) (by decide +kernel) (la_cons (lx_name c 6 rfl rfl rfl) (la_cons (lx_name c 4 rfl rfl rfl) (la_cons (lx_name c 1 rfl rfl rfl) la_nil))) fun Q q => ⟨s, _, qn, rfl, hsml, by rw [hcan]; exact q⟩))) (fun hb => nomatch hb) (fun hb => lss_nil ?_))
      refine lss_one (ls_set c 4 rfl rfl ((lx_call (z := .int (lanesB m (ss.take (i + 1)) : Nat)) c (has_lanes_after G) (by decide) (by decide +kernel) (la_cons (lx_name c 6 rfl rfl rfl) (la_cons (lx_name c 4 rfl rfl rfl) (la_cons (lx_name c 1 rfl rfl rfl) la_nil))) fun Q q => ⟨s, _, qn, rfl, hsml, by unfold okD; rw [(can_ok hcan).1, if_pos rfl, ← lanesB_take hs']; exact q⟩) _ ?_))
      refine ⟨_, _, ?_, Sub.refl _, rfl, rfl⟩
      walk_at "fy wk"
  · rintro ρ1 hh ⟨rfl, rfl⟩
    rw [enD_len, List.length_map, List.take_length]
    refine lss_one (ls_expr (le_meth (p := x) (fl := []) c (has_keep G) (by decide) (lx_name c 0 rfl rfl rfl) (by rw [eh]; exact updD_same) G.cl rfl ((la_cons (lx_name c 1 rfl rfl rfl) (la_cons (lx_name c 2 rfl rfl rfl) (la_cons (lx_callTy c (cb_tupSt hst') (la_cons (lx_name c 3 rfl rfl rfl) la_nil) (by decide +kernel) G.b_tuple (by decide +kernel)) (la_cons (lx_name c 4 rfl rfl rfl) la_nil)))) _ ⟨h0, x, qn, m, ss, rfl, hx0, eh, hlen, fun h' sb n => ?_⟩)))
    exact Fg.of (q h' sb n)
end Fy
end
section
set_option linter.all false
set_option maxRecDepth 100000
set_option maxHeartbeats 4000000
namespace Fy
open PySem PySem.Spec PyProof.Rows L2
local macro_rules | `(tactic| walk_at "fy op") => `(tactic| first
  | exact f2_add | exact f2_sub | exact f2_cat (by first | assumption | omega | (simp only [List.length_append, cutD_len] <;> omega)) | exact f2_and | exact f2_mod (by omega) | exact f2_fdiv ⟨by omega, by omega⟩ | exact f2_mul (by unfold CMul; omega))
local macro_rules | `(tactic| walk_at "fy cmp") => `(tactic| first
  | exact f2_lt | exact f2_le | exact f2_gt | exact f2_ge | exact f2_eqI | exact f2_neI | exact f2_eqS | exact f2_isN | exact f2_notN)
local macro_rules | `(tactic| walk_at "fy ix") => `(tactic| first
  | exact ix2_T (by first | assumption | rfl) | exact ix2_L (by assumption) (by assumption))
local macro_rules | `(tactic| walk_at "fy wk") => `(tactic| repeat' (first | exact Paired.nil | exact True.intro | rfl | apply Paired.cons))
variable {T : Tx} {C : Addr} {X : Cx} {h : HD}
section
variable {ρ : Rho} {a b : Expr} {pos : Pos} {xs zs : List D}
/-- two new lists put together -/
theorem ll_cat (ha : LL X a ρ h xs) (hb : ∀ hh, Sub h hh → LL X b ρ hh zs) (hz : xs.length + zs.length ≤ 100000) : LL X (.BinOp a .Add b pos) ρ h (xs ++ zs) := fun Q q =>
  le_of (pe_op op_cat pe_we pe_we) fun σ H hs hr => (ha (fun d h' => ∃ p, d = .ref p ∧ h p = none ∧ h' = updD h p (.lst xs)) fun p hp => ⟨p, rfl, hp, rfl⟩).use hs hr fun v H1 d1 h1 t1 r1 e1 ⟨p, ed, hp, eh⟩ => by
    subst ed eh
    refine (hb _ (Sub.new hp) (fun d h' => ∃ p2, d = .ref p2 ∧ updD h p (.lst xs) p2 = none ∧ h' = updD (updD h p (.lst xs)) p2 (.lst zs)) fun p2 hp2 => ⟨p2, rfl, hp2, rfl⟩).use (hs.mono t1) r1 fun v2 H2 d2 h2 t2 r2 e2 ⟨p2, ed2, hp2, eh2⟩ => ?_
    subst ed2 eh2
    have n12 : p ≠ p2 := neN updD_same hp2
    obtain ⟨vs, ev, dv⟩ := r2.lst (a := p) (ds := xs) (by rw [updD_ne n12]; exact updD_same)
    obtain ⟨ws, ew, dw⟩ := r2.lst (a := p2) (ds := zs) updD_same
    refine ⟨p, p2, vs, ws, e1.ref_inv, e2.ref_inv, ev, ew, by rw [dv.length, dw.length, sizeLine_eq]; omega, fun p3 hp3 => ?_⟩
    have sb : Sub h (updD (updD h p (.lst xs)) p2 (.lst zs)) := (Sub.new hp).trans (Sub.new hp2)
    exact lnew (t1.trans t2) (r2.sub sb) (dv.append dw) hp3 q
end
def natsD (L : List Nat) : List D := L.map fun i => .int (i : Nat)
theorem natsD_len (L : List Nat) : (natsD L).length = L.length := List.length_map ..
def sp_exchanged_byL : FS := fun ds h Q => ∃ (p : Addr) (r : List D) (a b c : Nat), ds = [.ref p, .int a, .int b, .int c] ∧ h p = some (.lst r) ∧ r.length ≤ 1000 ∧ a ≤ b ∧ b ≤ c ∧ ∀ p', h p' = none → Q (.ref p') (updD h p' (.lst (exch r a b c)))
theorem has_exchanged_byL (G : Top T C) : Has T 1 "exchanged_by" ["row", "a", "b", "c"] sp_exchanged_byL := by
  refine has_of G.d_exchanged_by sc_exchanged_by hv_exchanged_by (fun ds h Q ⟨_, _, _, _, _, e, _⟩ => by subst e; rfl) (fun _ _ _ _ _ _ us hl => match us, hl with | [_, _, _, _], _ => rfl) fun X c ds h Q ⟨p, r, i, j, l, e, hp, hl, h1, h2, q⟩ => ?_
  subst e
  have ee : exch r i j l = cutD r none (some (i : Nat)) ++ cutD r (some (j : Nat)) (some (l : Nat)) ++ cutD r (some (i : Nat)) (some (j : Nat)) ++ cutD r (some (l : Nat)) none := by
    rw [cutD_to, cutD_mid _ _ _ h2, cutD_mid _ _ _ h1, cutD_from]
    rfl
  have hb : ∀ lo hi, (cutD r lo hi).length ≤ 1000 := fun lo hi => by
    unfold cutD
    rw [List.length_take, List.length_drop]
    omega
  rw [ee] at q
  refine lss_one (ls_ret ((ll_cat (ll_cat (ll_cat (ll_cutL (lx_name c 0 rfl rfl rfl) lo_none (lo_some (lx_name c 1 rfl rfl rfl)) hp) (fun hh s => ll_cutL (lx_name c 0 rfl rfl rfl) (lo_some (lx_name c 2 rfl rfl rfl)) (lo_some (lx_name c 3 rfl rfl rfl)) (s _ _ hp)) ?_) (fun hh s => ll_cutL (lx_name c 0 rfl rfl rfl) (lo_some (lx_name c 1 rfl rfl rfl)) (lo_some (lx_name c 2 rfl rfl rfl)) (s _ _ hp)) ?_) (fun hh s => ll_cutL (lx_name c 0 rfl rfl rfl) (lo_some (lx_name c 3 rfl rfl rfl)) lo_none (s _ _ hp)) ?_) _ fun p' hp' => Fg.of (q p' hp')))
  · have := hb none (some (i : Nat)); have := hb (some (j : Nat)) (some (l : Nat)); omega
  · rw [List.length_append]; have := hb none (some (i : Nat)); have := hb (some (j : Nat)) (some (l : Nat)); have := hb (some (i : Nat)) (some (j : Nat)); omega
  · rw [List.length_append, List.length_append]; have := hb none (some (i : Nat)); have := hb (some (j : Nat)) (some (l : Nat)); have := hb (some (i : Nat)) (some (j : Nat)); have := hb (some (l : Nat)) none; omega
def sp_place_by : FS := fun ds h Q => ∃ (k w p : Nat) (key : List Int) (o : Nat) (r : Addr) (ls : List Int), ds = [stepD (.cho k w p key o), .ref r, rowD ls] ∧ h r = some (.dT [(rowK key, .int o)]) ∧ Q (.int ((if ls = key then o else p : Nat))) h
theorem has_place_by (G : Top T C) : Has T 1 "place_by" ["step", "others", "letters"] sp_place_by := by
  refine has_of G.d_place_by sc_place_by hv_place_by (fun ds h Q ⟨_, _, _, _, _, _, _, e, _⟩ => by subst e; rfl) (fun _ _ _ _ _ _ us hl => match us, hl with | [_, _, _], _ => rfl) fun X c ds h Q ⟨k, w, p, key, o, r, ls, e, hr, q⟩ => ?_
  subst e
  have e2 : (valD [(rowK key, D.int o)] (rowK ls)).getD (.int p) = .int ((if ls = key then o else p : Nat)) := by
    unfold valD
    by_cases hk : ls = key
    · rw [List.find?_cons_of_pos (by rw [decide_eq_true_eq, hk]), if_pos hk]; rfl
    · rw [List.find?_cons_of_neg (by rw [decide_eq_true_eq]; exact fun z => hk (rowK_inj z).symm), if_neg hk]; rfl
  refine lss_one (ls_ret ((lx_eq (lx_dget2 c (lx_name c 1 rfl rfl rfl) (lx_eq (lx_name c 2 rfl rfl rfl) (show rowD ls = .tup ((rowK ls).map kd) by rw [rowK_kd]; rfl)) (lx_ix (lx_name c 0 rfl rfl rfl) lx_int (ix2_T (z := .int p) rfl)) (.inr ⟨_, hr⟩) (DGD.ofT hr) ⟨rfl, rfl, rfl, rfl⟩) e2) _ (Fg.of q)))
def atF (row : List Int) (i : Nat) : Int := row.getD i 0
theorem atF_get {row : List Int} {i : Nat} (h : i < row.length) : (row.map D.int)[i]? = some (.int (atF row i)) := by
  rw [List.getElem?_map, List.getElem?_eq_getElem h]
  unfold atF
  rw [List.getD_eq_getElem?_getD, List.getElem?_eq_getElem h]
  rfl
theorem natsD_get {L : List Nat} {i j : Nat} (h : L[i]? = some j) : (natsD L)[i]? = some (.int (j : Nat)) := by
  unfold natsD
  rw [List.getElem?_map, h]
  rfl
def sp_work : FS := fun ds h Q => ∃ (s : Stp) (od : D) (pl : Addr) (L : List Nat) (row : List Int) (q : Nat), ds = [stepD s, od, .ref pl, rowD row] ∧ othD h s od ∧ h pl = some (.lst (natsD L)) ∧ s.ok q L.length = true ∧ L.length ≤ 1000 ∧ (∀ i ∈ L, i < row.length) ∧ Q .non (updD h pl (.lst (natsD (s.run (atF row) L))))
theorem has_work (G : Top T C) : Has T 2 "work" ["step", "others", "lanes", "bears"] sp_work := by
  refine has_of G.d_work sc_work hv_work (fun ds h Q ⟨_, _, _, _, _, _, e, _⟩ => by subst e; rfl) (fun _ _ _ _ _ _ us hl => match us, hl with | [_, _, _, _], _ => rfl) fun X c ds h Q ⟨s, od, pl, L, row, qn, e, ho, hpl, hok, hL, hrow, q⟩ => ?_
  subst e
  cases s with
  | dbl k =>
    have hk : k < L.length := of_decide_eq_true hok
    refine lss_cons (ls_set c 4 rfl rfl ((lx_ix (lx_name c 0 rfl rfl rfl) lx_int (ix2_T (z := .int k) rfl)) _ ?_))
    refine lss_one (ls_ifB (bb := true) (lb_eq (lb_cmp (lx_ix (lx_name c 0 rfl rfl rfl) lx_int (ix2_T rfl)) lx_str f2_eqS) (by decide +kernel)) (fun _ => ?_) (fun z => nomatch z))
    refine lss_one (ls_insert (lx_name c 2 rfl rfl rfl) hpl (lx_name c 4 rfl rfl rfl) (lx_ix (lx_name c 2 rfl rfl rfl) (lx_name c 4 rfl rfl rfl) (ix2_L hpl (atI_nat' (by omega) (natsD_get (i := k) (j := L[k]) (by rw [List.getElem?_eq_getElem hk]))))) (by omega) (by omega) (by rw [natsD_len]; omega) ?_)
    refine Fg.of ?_
    have e3 : natsD ((Stp.dbl k).run (atF row) L) = (natsD L).take k ++ [D.int (L[k] : Nat)] ++ (natsD L).drop k := by
      unfold Stp.run natsD
      simp only [List.map_append, List.map_take, List.map_drop]
      rw [List.take_add_one, List.getElem?_map, List.getElem?_eq_getElem hk]
      rfl
    rw [Int.toNat_natCast, ← e3]
    exact q
  | strk k =>
    have hk : k < L.length := of_decide_eq_true hok
    refine lss_cons (ls_set c 4 rfl rfl ((lx_ix (lx_name c 0 rfl rfl rfl) lx_int (ix2_T (z := .int k) rfl)) _ ?_))
    refine lss_one (ls_ifB (bb := false) (lb_eq (lb_cmp (lx_ix (lx_name c 0 rfl rfl rfl) lx_int (ix2_T rfl)) lx_str f2_eqS) (by decide +kernel)) (fun z => nomatch z) (fun _ => ?_))
    refine lss_one (ls_ifB (bb := true) (lb_eq (lb_cmp (lx_ix (lx_name c 0 rfl rfl rfl) lx_int (ix2_T rfl)) lx_str f2_eqS) (by decide +kernel)) (fun _ => ?_) (fun z => nomatch z))
    refine lss_one (ls_popAt (lx_name c 2 rfl rfl rfl) hpl (lx_name c 4 rfl rfl rfl) (by omega) (by rw [natsD_len]; exact hk) (by rw [natsD_len]; omega) ?_)
    refine Fg.of ?_
    have e3 : natsD ((Stp.strk k).run (atF row) L) = (natsD L).eraseIdx (Int.toNat (k : Nat)) := by
      unfold Stp.run natsD
      rw [List.map_append, List.map_take, List.map_drop, Int.toNat_natCast, List.eraseIdx_eq_take_drop_succ]
    rw [← e3]
    exact q
  | fly i j l =>
    have hk : i < j ∧ j < l ∧ l ≤ L.length := of_decide_eq_true hok
    refine lss_cons (ls_set c 4 rfl rfl ((lx_ix (lx_name c 0 rfl rfl rfl) lx_int (ix2_T (z := .int i) rfl)) _ ?_))
    refine lss_one (ls_ifB (bb := false) (lb_eq (lb_cmp (lx_ix (lx_name c 0 rfl rfl rfl) lx_int (ix2_T rfl)) lx_str f2_eqS) (by decide +kernel)) (fun z => nomatch z) (fun _ => ?_))
    refine lss_one (ls_ifB (bb := false) (lb_eq (lb_cmp (lx_ix (lx_name c 0 rfl rfl rfl) lx_int (ix2_T rfl)) lx_str f2_eqS) (by decide +kernel)) (fun z => nomatch z) (fun _ => ?_))
    refine lss_one (ls_ifB (bb := true) (lb_eq (lb_cmp (lx_ix (lx_name c 0 rfl rfl rfl) lx_int (ix2_T rfl)) lx_str f2_eqS) (by decide +kernel)) (fun _ => ?_) (fun z => nomatch z))
    refine lss_one (ls_slput (p := pl) (l := none) (u := none) (i := 0) (j := (natsD L).length) (ll_call (res := exch (natsD L) i j l) c (has_exchanged_byL G) (by decide) (by decide +kernel) (la_cons (lx_name c 2 rfl rfl rfl) (la_cons (lx_ix (lx_name c 0 rfl rfl rfl) lx_int (ix2_T (z := .int i) rfl)) (la_cons (lx_ix (lx_name c 0 rfl rfl rfl) lx_int (ix2_T (z := .int j) rfl)) (la_cons (lx_ix (lx_name c 0 rfl rfl rfl) lx_int (ix2_T (z := .int l) rfl)) la_nil)))) fun Q q => ⟨pl, natsD L, i, j, l, rfl, hpl, by rw [natsD_len]; exact hL, by omega, by omega, q⟩) (fun hh => lx_name c 2 rfl rfl rfl) (fun _ => lo_none) (fun _ => lo_none) hpl (by omega) (by omega) (by exact bounds_all) ?_ ?_)
    · rw [exch_len _ (by omega) (by omega) (by rw [natsD_len]; omega), natsD_len]
      omega
    · refine Fg.of ?_
      rw [List.take_zero, List.drop_length, List.nil_append, List.append_nil]
      have e3 : natsD ((Stp.fly i j l).run (atF row) L) = exch (natsD L) i j l := exch_map _ _ _ _ _
      rw [← e3]
      exact q
  | cho k w p key o =>
    have hk : k < L.length ∧ 2 ≤ w ∧ w ≤ 3 ∧ k + w ≤ L.length ∧ p < w ∧ key.length = w ∧ (∀ x ∈ key, 0 ≤ x ∧ x < qn) ∧ o < w := of_decide_eq_true hok
    obtain ⟨h1, h2, h3, h4, h5, h6, h7, h8⟩ := hk
    obtain ⟨r, e, hr⟩ := ho
    subst e
    refine lss_cons (ls_set c 4 rfl rfl ((lx_ix (lx_name c 0 rfl rfl rfl) lx_int (ix2_T (z := .int k) rfl)) _ ?_))
    refine lss_one (ls_ifB (bb := false) (lb_eq (lb_cmp (lx_ix (lx_name c 0 rfl rfl rfl) lx_int (ix2_T rfl)) lx_str f2_eqS) (by decide +kernel)) (fun z => nomatch z) (fun _ => ?_))
    refine lss_one (ls_ifB (bb := false) (lb_eq (lb_cmp (lx_ix (lx_name c 0 rfl rfl rfl) lx_int (ix2_T rfl)) lx_str f2_eqS) (by decide +kernel)) (fun z => nomatch z) (fun _ => ?_))
    refine lss_one (ls_ifB (bb := false) (lb_eq (lb_cmp (lx_ix (lx_name c 0 rfl rfl rfl) lx_int (ix2_T rfl)) lx_str f2_eqS) (by decide +kernel)) (fun z => nomatch z) (fun _ => ?_))
    refine lss_cons (ls_set c 5 rfl rfl ((ll_cutL (lx_name c 2 rfl rfl rfl) (lo_some (lx_name c 4 rfl rfl rfl)) (lo_some (lx_eq (lx_bin (lx_name c 4 rfl rfl rfl) (lx_ix (lx_name c 0 rfl rfl rfl) lx_int (ix2_T (z := .int w) rfl)) f2_add) (show D.int ((k : Int) + w) = .int ((k + w : Nat)) by rw [Int.natCast_add]))) hpl) _ fun p2 hp2 => ?_))
    rw [cutD_mid _ _ _ (by omega), Nat.add_sub_cancel_left]
    have n2 : pl ≠ p2 := neN hpl hp2
    have e2 : updD h p2 (.lst (((natsD L).drop k).take w)) p2 = some (.lst (((natsD L).drop k).take w)) := updD_same
    generalize hh1 : updD h p2 (.lst (((natsD L).drop k).take w)) = hh at e2
    have sb : Sub h hh := by rw [← hh1]; exact Sub.new hp2
    have hseen : ((natsD L).drop k).take w = natsD ((L.drop k).take w) := by
      unfold natsD
      rw [List.map_take, List.map_drop]
    have hsl : ((L.drop k).take w).length = w := by rw [List.length_take, List.length_drop]; omega
    refine lss_cons (ls_set c 6 rfl rfl ((lx_call (z := .int ((if ((L.drop k).take w).map (atF row) = key then o else p : Nat))) c (has_place_by G) (by decide) (by decide +kernel) (la_cons (lx_name c 0 rfl rfl rfl) (la_cons (lx_name c 1 rfl rfl rfl) (la_cons (lx_callTyL c (fun p3 hp3 => cb_tupL updD_same) (ll_comp c (own := [("lane", 7)]) (rs := (((L.drop k).take w).map (atF row)).map D.int) (ds := natsD ((L.drop k).take w)) (by decide +kernel) (is := [7]) (by simp) (fun d => [some (stepD (.cho k w p key o)), some (.ref r), some (.ref pl), some (rowD row), some (.int k), some (.ref p2), none, some d]) (fun R kk => li_list (lx_name c 5 rfl rfl rfl) e2 (by
        rw [hseen]
        refine kk _ _ (Sub.refl _) fun p3 acc hp3 => ?_
        rw [updD_ne (neN e2 hp3)]
        rw [← hseen]
        exact e2)) (by rw [natsD_len, List.length_map, List.length_map]) (by rw [natsD_len, hsl]; omega) (fun i d hd X' b => lg_name (blk_ctx c b rfl rfl) 7 rfl rfl rfl) fun i d r' hh' hd hr' sb' X' b => ?_) (by decide +kernel) G.b_tuple (by decide +kernel)) la_nil))) fun Q q => ⟨k, w, p, key, o, r, _, rfl, sb _ _ hr, q⟩) _ ?_))
    · obtain ⟨j, hj, rfl⟩ := map_get hd
      have hjm : j < row.length := hrow j (List.mem_of_mem_drop (List.mem_of_mem_take (List.mem_of_getElem? hj)))
      rw [List.getElem?_map, List.getElem?_map, hj] at hr'
      cases hr'
      exact lx_ix (lx_name (blk_ctx c b rfl rfl) 3 rfl rfl rfl) (lx_name (blk_ctx c b rfl rfl) 7 rfl rfl rfl) (ix2_T (atI_nat' (by omega) (atF_get hjm)))
    · generalize hpp : (if ((L.drop k).take w).map (atF row) = key then o else p) = pp
      have hpw : pp < w := by
        rw [← hpp]
        split <;> assumption
      have hkp : k + pp < L.length := by omega
      have hsp : ((natsD L).drop k |>.take w)[pp]? = some (.int (L[k + pp] : Nat)) := by
        rw [hseen]
        refine natsD_get ?_
        rw [List.getElem?_take_of_lt hpw, List.getElem?_drop, List.getElem?_eq_getElem hkp]
      refine lss_one (ls_slput (p := pl) (l := some (k : Nat)) (u := some ((k + w : Nat))) (i := k) (j := k + w) (ll_disp (la_cons (lx_ix (lx_name c 5 rfl rfl rfl) (lx_name c 6 rfl rfl rfl) (ix2_L e2 (atI_nat' (by omega) hsp))) la_nil)) (fun hh => lx_name c 2 rfl rfl rfl) (fun _ => lo_some (lx_name c 4 rfl rfl rfl)) (fun _ => lo_some (lx_eq (lx_bin (lx_name c 4 rfl rfl rfl) (lx_ix (lx_name c 0 rfl rfl rfl) lx_int (ix2_T (z := .int w) rfl)) f2_add) (show D.int ((k : Int) + w) = .int ((k + w : Nat)) by rw [Int.natCast_add]))) (sb _ _ hpl) (by omega) (by rw [natsD_len]; omega) (bounds_mid (by omega) (by rw [natsD_len]; omega)) (by rw [natsD_len]; show _ + 1 ≤ _; omega) ?_)
      have e3 : natsD ((Stp.cho k w p key o).run (atF row) L) = (natsD L).take k ++ [D.int (L[k + pp] : Nat)] ++ (natsD L).drop (k + w) := by
        have e4 : (Stp.cho k w p key o).run (atF row) L = L.take k ++ (L.drop (k + pp)).take 1 ++ L.drop (k + w) := by rw [← hpp]; rfl
        rw [e4, List.drop_eq_getElem_cons hkp]
        unfold natsD
        rw [List.map_append, List.map_append, List.map_take, List.map_drop]
        rfl
      rw [← e3]
      refine Fg.to ?_ q
      rw [← hh1]
      exact Sub.upd (Sub.new hp2) _ _
end Fy
end
section
set_option linter.all false
set_option maxRecDepth 100000
set_option maxHeartbeats 4000000
namespace Fy
open PySem PySem.Spec PyProof.Rows L2
local macro_rules | `(tactic| walk_at "fy op") => `(tactic| first
  | exact f2_add | exact f2_sub | exact f2_cat (by first | assumption | omega | (simp only [List.length_append, cutD_len] <;> omega)) | exact f2_and | exact f2_mod (by omega) | exact f2_fdiv ⟨by omega, by omega⟩ | exact f2_mul (by unfold CMul; omega))
local macro_rules | `(tactic| walk_at "fy cmp") => `(tactic| first
  | exact f2_lt | exact f2_le | exact f2_gt | exact f2_ge | exact f2_eqI | exact f2_neI | exact f2_eqS | exact f2_isN | exact f2_notN)
local macro_rules | `(tactic| walk_at "fy ix") => `(tactic| first
  | exact ix2_T (by first | assumption | rfl) | exact ix2_L (by assumption) (by assumption))
local macro_rules | `(tactic| walk_at "fy wk") => `(tactic| repeat' (first | exact Paired.nil | exact True.intro | rfl | apply Paired.cons))
variable {T : Tx} {C : Addr} {X : Cx} {h : HD}
theorem run_len {α : Type} {f : α → Int} {q : Nat} {s : Stp} {L : List α} (h : s.ok q L.length = true) : (s.run f L).length = s.after L.length := by
  cases s with
  | dbl k =>
    have hk : k < L.length := of_decide_eq_true h
    show (L.take (k + 1) ++ L.drop k).length = L.length + 1
    rw [List.length_append, List.length_take, List.length_drop]
    omega
  | strk k =>
    have hk : k < L.length := of_decide_eq_true h
    show (L.take k ++ L.drop (k + 1)).length = L.length - 1
    rw [List.length_append, List.length_take, List.length_drop]
    omega
  | fly i j l =>
    have hk : i < j ∧ j < l ∧ l ≤ L.length := of_decide_eq_true h
    exact exch_len _ (by omega) (by omega) (by omega)
  | cho k w p key o =>
    have hk : k < L.length ∧ 2 ≤ w ∧ w ≤ 3 ∧ k + w ≤ L.length ∧ p < w ∧ key.length = w ∧ (∀ x ∈ key, 0 ≤ x ∧ x < q) ∧ o < w := of_decide_eq_true h
    show (L.take k ++ ((L.drop (k + (if ((L.drop k).take w).map f = key then o else p))).take 1) ++ L.drop (k + w)).length = L.length + 1 - w
    rw [List.length_append, List.length_append, List.length_take, List.length_take, List.length_drop, List.length_drop]
    split <;> omega
theorem exch_mem {α : Type} {r : List α} {a b c : Nat} {x : α} (h : x ∈ exch r a b c) : x ∈ r := by
  unfold exch at h
  rw [List.mem_append, List.mem_append, List.mem_append] at h
  rcases h with ((h | h) | h) | h
  · exact List.mem_of_mem_take h
  · exact List.mem_of_mem_drop (List.mem_of_mem_take h)
  · exact List.mem_of_mem_drop (List.mem_of_mem_take h)
  · exact List.mem_of_mem_drop h
theorem run_mem {α : Type} {f : α → Int} {s : Stp} {L : List α} {x : α} (h : x ∈ s.run f L) : x ∈ L := by
  cases s with
  | dbl k =>
    rcases List.mem_append.mp (show x ∈ L.take (k + 1) ++ L.drop k from h) with h | h
    · exact List.mem_of_mem_take h
    · exact List.mem_of_mem_drop h
  | strk k =>
    rcases List.mem_append.mp (show x ∈ L.take k ++ L.drop (k + 1) from h) with h | h
    · exact List.mem_of_mem_take h
    · exact List.mem_of_mem_drop h
  | fly i j l => exact exch_mem (show x ∈ exch L i j l from h)
  | cho k w p key o =>
    rcases List.mem_append.mp (show x ∈ L.take k ++ ((L.drop (k + (if ((L.drop k).take w).map f = key then o else p))).take 1) ++ L.drop (k + w) from h) with h | h
    · rcases List.mem_append.mp h with h | h
      · exact List.mem_of_mem_take h
      · exact List.mem_of_mem_drop (List.mem_of_mem_take h)
    · exact List.mem_of_mem_drop h
theorem runs_take {α : Type} {f : α → Int} {ss : List Stp} {L : List α} {i : Nat} {s : Stp} (h : ss[i]? = some s) : runs f (ss.take (i + 1)) L = s.run f (runs f (ss.take i) L) := by
  unfold runs
  rw [List.take_add_one, h, List.foldl_append]
  rfl
theorem runs_len {α : Type} {f : α → Int} {q : Nat} : ∀ {ss : List Stp} {L : List α}, cans q L.length ss = true → (runs f ss L).length = lanesB L.length ss
  | [], _, _ => rfl
  | s :: ss, L, h => by
    rw [cans, Bool.and_eq_true] at h
    have e := run_len (f := f) (can_ok h.1).1
    show (runs f ss (s.run f L)).length = lanesB (s.after L.length) ss
    rw [← e]
    exact runs_len (by rw [e]; exact h.2)
theorem runs_mem {α : Type} {f : α → Int} {x : α} : ∀ {ss : List Stp} {L : List α}, x ∈ runs f ss L → x ∈ L
  | [], _, h => h
  | s :: ss, L, h => run_mem (f := f) (s := s) (runs_mem (ss := ss) (L := s.run f L) h)
theorem cans_take {q : Nat} : ∀ {m : Nat} {ss : List Stp} (i : Nat), cans q m ss = true → cans q m (ss.take i) = true
  | _, _, 0, _ => by rw [List.take_zero]; rfl
  | _, [], i + 1, _ => rfl
  | m, s :: ss, i + 1, h => by
    rw [List.take_succ_cons]
    rw [cans, Bool.and_eq_true] at h ⊢
    exact ⟨h.1, cans_take i h.2⟩
theorem lanes_le {q : Nat} : ∀ {ss : List Stp} {m : Nat}, cans q m ss = true → 1 ≤ m → m ≤ 1000 → 1 ≤ lanesB m ss ∧ lanesB m ss ≤ 1000
  | [], _, _, h1, h2 => ⟨h1, h2⟩
  | s :: ss, m, h, _, _ => by
    rw [cans, Bool.and_eq_true] at h
    obtain ⟨h3, h4⟩ := (can_ok h.1).2
    exact lanes_le (m := s.after m) h.2 h3 h4
theorem rngD_nats (n : Nat) : rngD 0 n = natsD (List.range n) := by
  unfold rngD natsD
  congr 1
  funext i
  rw [Int.zero_add]
theorem paired_len {α β : Type} {F : α → β → Prop} {l : List α} {m : List β} (p : Paired F l m) : l.length = m.length := by
  induction p with
  | nil => rfl
  | cons _ _ ih => rw [List.length_cons, List.length_cons, ih]
theorem oth_flat {h : HD} : ∀ {ss : List Stp} {os : List D}, Paired (othD h) ss os → os.all D.flat = true
  | [], [], .nil => rfl
  | s :: ss, d :: os, .cons e p => by
    rw [List.all_cons, Bool.and_eq_true]
    refine ⟨?_, oth_flat p⟩
    cases s with
    | cho k w pp key o =>
      obtain ⟨r, e1, _⟩ := (show ∃ r, d = .ref r ∧ h r = some (.dT [(rowK key, .int o)]) from e)
      rw [e1]; rfl
    | dbl k => rw [show d = .non from e]; rfl
    | strk k => rw [show d = .non from e]; rfl
    | fly a b c => rw [show d = .non from e]; rfl
/-- a net that stands -/
structure NetOk (q m : Nat) (ss : List Stp) : Prop where
  q1 : 1 ≤ q
  q4 : q ≤ 4
  m1 : 1 ≤ m
  m9 : m ≤ 12
  qm : q ^ m ≤ 4096
  can : cans q m ss = true
  sm : Smalls ss
  len : ss.length ≤ 1000
def sp_sources : FS := fun ds h Q => ∃ (x : Addr) (q m : Nat) (ss : List Stp) (row : List Int), ds = [.ref x, rowD row] ∧ NetAt C h x q m ss ∧ NetOk q m ss ∧ row.length = m ∧ ∀ p, h p = none → Q (.ref p) (updD h p (.lst (natsD (srcs row ss))))
theorem has_sources (G : Top T C) : Has T 3 "sources" ["net", "row"] (sp_sources (C := C)) := by
  refine has_of G.d_sources sc_sources hv_sources (fun ds h Q ⟨_, _, _, _, _, e, _⟩ => by subst e; rfl) (fun _ _ _ _ _ _ us hl => match us, hl with | [_, _], _ => rfl) fun X c ds h Q ⟨x, qn, m, ss, row, e, n, ok, hr, q⟩ => ?_
  subst e
  obtain ⟨oth, os, e1, e2, pr⟩ := n
  refine lss_cons (ls_set c 2 rfl rfl ((ll_listRg c (n := (row.length : Nat)) (lx_eq (lx_callB c cb_lenT (la_cons (lx_name c 1 rfl rfl rfl) la_nil) (by decide +kernel) G.b_len (by decide +kernel)) (by rw [List.length_map])) (by omega) (by have := ok.m9; omega) (by decide +kernel) G.b_range (by decide +kernel) G.b_list) _ fun pl hp => ?_))
  have nx : x ≠ pl := neN e1 hp
  have no : oth ≠ pl := neN e2 hp
  have hol := paired_len pr
  refine lss_cons (ls_for c (li_zipTL (p := oth) (es := os) c (lx_fld c (lx_name c 0 rfl rfl rfl) (by rw [updD_ne nx]; exact e1) G.cl G.n_kept_steps rfl) (lx_fld c (lx_name c 0 rfl rfl rfl) (by rw [updD_ne nx]; exact e1) G.cl G.n_kept_others rfl) (by rw [updD_ne no]; exact e2) (oth_flat pr) (by decide +kernel) G.b_zip ⟨fun i ρ hh => ρ = [some (.ref x), some (rowD row), some (.ref pl), none, none] ∧ hh = updD h pl (.lst (natsD (runs (atF row) (ss.take i) (List.range row.length)))), ⟨rfl, ?_⟩, fun i ρ hh ⟨_, e⟩ => by rw [e]; show updD _ _ _ _ = _; rw [updD_ne no]; exact e2, ?_, ?_⟩))
  · rw [List.take_zero, Int.toNat_natCast, rngD_nats]
    rfl
  · rintro i d ρ1 hh hd ⟨rfl, rfl⟩
    have hi : i < ss.length := by
      have := (List.getElem?_eq_some_iff.mp hd).1
      rw [zipD_len, List.length_map] at this
      omega
    have hs : ss[i]? = some ss[i] := List.getElem?_eq_getElem hi
    generalize ss[i] = s at hs
    obtain ⟨od, ho, hoo⟩ := pget pr hs
    rw [zipD_get (d := stepD s) (e := od) (by rw [List.getElem?_map, hs]; rfl) ho] at hd
    cases hd
    refine ⟨_, lg_tup c (lgs_cons (lg_name c 3 rfl rfl (lgs_cons (lg_name c 4 rfl rfl (lgs_nil ?_))))) rfl⟩
    have hc := cans_at ok.can hs
    have hlen : (runs (atF row) (ss.take i) (List.range row.length)).length = lanesB m (ss.take i) := by
      rw [runs_len (q := qn) (by rw [List.length_range, hr]; exact cans_take i ok.can), List.length_range, hr]
    refine lss_one (ls_expr (le_call c (has_work G) (by decide) (by decide +kernel) ((la_cons (lx_name c 3 rfl rfl rfl) (la_cons (lx_name c 4 rfl rfl rfl) (la_cons (lx_name c 2 rfl rfl rfl) (la_cons (lx_name c 1 rfl rfl rfl) la_nil)))) _ ⟨s, od, pl, _, row, qn, rfl, hoo.keep fun r kvs e => by rw [updD_ne (neN e hp)]; exact e, updD_same, by rw [hlen]; exact (can_ok hc).1, by rw [hlen]; exact (lanes_le (cans_take i ok.can) ok.m1 (by have := ok.m9; omega)).2, fun j hj => by have := runs_mem hj; rwa [List.mem_range] at this, ?_⟩)))
    rw [updD_updD, ← runs_take hs]
    refine ⟨_, _, ?_, Sub.refl _, rfl, rfl⟩
    walk_at "fy wk"
  · rintro ρ1 hh ⟨rfl, rfl⟩
    rw [zipD_len, List.length_map, ← hol, Nat.min_self, List.take_length]
    exact lss_one (ls_ret ((lx_name c 2 rfl rfl rfl) _ (Fg.of (q pl hp))))
def sp_run_of : FS := fun ds h Q => ∃ (x : Addr) (q m : Nat) (ss : List Stp) (row : List Int), ds = [.ref x, rowD row] ∧ NetAt C h x q m ss ∧ NetOk q m ss ∧ row.length = m ∧ Q (rowD (outOf row ss)) h
theorem srcs_mem {row : List Int} {ss : List Stp} {i : Nat} (h : i ∈ srcs row ss) : i < row.length := by
  have := runs_mem h
  rwa [List.mem_range] at this
theorem srcs_len {q : Nat} {row : List Int} {ss : List Stp} (h : cans q row.length ss = true) : (srcs row ss).length = lanesB row.length ss := by
  have := runs_len (f := fun i => row.getD i 0) (q := q) (ss := ss) (L := List.range row.length) (by rw [List.length_range]; exact h)
  rwa [List.length_range] at this
theorem has_run_of (G : Top T C) : Has T 4 "run_of" ["net", "row"] (sp_run_of (C := C)) := by
  refine has_of G.d_run_of sc_run_of hv_run_of (fun ds h Q ⟨_, _, _, _, _, e, _⟩ => by subst e; rfl) (fun _ _ _ _ _ _ us hl => match us, hl with | [_, _], _ => rfl) fun X c ds h Q ⟨x, qn, m, ss, row, e, n, ok, hr, q⟩ => ?_
  subst e
  have hl : (srcs row ss).length ≤ 1000 := by
    rw [srcs_len (q := qn) (by rw [hr]; exact ok.can), hr]
    exact (lanes_le ok.can ok.m1 (by have := ok.m9; omega)).2
  refine lss_one (ls_ret ((lx_callTyL c (fun p3 hp3 => cb_tupL updD_same) (ll_comp c (own := [("lane", 2)]) (rs := (outOf row ss).map D.int) (ds := natsD (srcs row ss)) (by decide +kernel) (is := [2]) (by simp) (fun d => [some (.ref x), some (rowD row), some d]) (fun R kk => li_ll (ll_call (res := natsD (srcs row ss)) c (has_sources G) (by decide) (by decide +kernel) (la_cons (lx_name c 0 rfl rfl rfl) (la_cons (lx_name c 1 rfl rfl rfl) la_nil)) fun Q q => ⟨x, qn, m, ss, row, rfl, n, ok, hr, q⟩) fun p2 hp2 => kk _ _ (Sub.new hp2) fun p3 acc hp3 => by
        rw [updD_ne (neN updD_same hp3)]
        exact updD_same) (by rw [natsD_len, List.length_map]; unfold outOf; rw [List.length_map]) (by rw [natsD_len]; omega) (fun i d hd X' b => lg_name (blk_ctx c b rfl rfl) 2 rfl rfl rfl) fun i d r' hh' hd hr' sb' X' b => ?_) (by decide +kernel) G.b_tuple (by decide +kernel)) _ (Fg.of q)))
  obtain ⟨j, hj, rfl⟩ := map_get hd
  have hjm : j < row.length := srcs_mem (List.mem_of_getElem? hj)
  unfold outOf at hr'
  rw [List.getElem?_map, List.getElem?_map, hj] at hr'
  cases hr'
  exact lx_ix (lx_name (blk_ctx c b rfl rfl) 1 rfl rfl rfl) (lx_name (blk_ctx c b rfl rfl) 2 rfl rfl rfl) (ix2_T (atI_nat' (by omega) (atF_get hjm)))
theorem max_ex : ∀ {ns : List Int}, ns ≠ [] → ∃ m ∈ ns, ∀ y ∈ ns, y ≤ m
  | [x], _ => ⟨x, by simp, by simp⟩
  | x :: y :: r, _ => by
    obtain ⟨m, h1, h2⟩ := max_ex (ns := y :: r) (by simp)
    by_cases h : x ≤ m
    · exact ⟨m, List.mem_cons_of_mem _ h1, fun z hz => by
        rcases List.mem_cons.mp hz with e | hz
        · rw [e]; exact h
        · exact h2 z hz⟩
    · exact ⟨x, by simp, fun z hz => by
        rcases List.mem_cons.mp hz with e | hz
        · rw [e]; exact Int.le_refl _
        · have := h2 z hz; omega⟩
def RowFor (q m : Nat) (r : List Int) : Prop := r.length = m ∧ ∀ x ∈ r, 0 ≤ x ∧ x < q
def sp_is_row_for : FS := fun ds h Q => ∃ (x : Addr) (q m : Nat) (ss : List Stp) (row : List Int), ds = [.ref x, rowD row] ∧ NetAt C h x q m ss ∧ NetOk q m ss ∧ RowFor q m row ∧ Q (.bl true) h
theorem has_is_row_for (G : Top T C) : Has T 5 "is_row_for" ["net", "thing"] (sp_is_row_for (C := C)) := by
  refine has_of G.d_is_row_for sc_is_row_for hv_is_row_for (fun ds h Q ⟨_, _, _, _, _, e, _⟩ => by subst e; rfl) (fun _ _ _ _ _ _ us hl => match us, hl with | [_, _], _ => rfl) fun X c ds h Q ⟨x, qn, m, ss, row, e, n, ok, ⟨hr, hx⟩, q⟩ => ?_
  subst e
  obtain ⟨oth, e1⟩ := n.fld
  have h1 := ok.m1
  have h9 := ok.m9
  have h4 := ok.q4
  obtain ⟨mx, hm1, hm2⟩ := max_ex (ns := row) (by intro z; rw [z] at hr; simp at hr; omega)
  refine lss_one (ls_ret ((lx_eq (lx_and (b1 := true) (b2 := true) (lx_call (z := .bl true) c (has_is_row G) (by decide) (by decide +kernel) (la_cons (lx_name c 1 rfl rfl rfl) la_nil) fun Q q => ⟨row, rfl, by omega, ?_⟩) (fun _ => (lx_eq (lx_and (b1 := true) (b2 := true) (lx_eq (lx_cmp (lx_callB c cb_lenT (la_cons (lx_name c 1 rfl rfl rfl) la_nil) (by decide +kernel) G.b_len (by decide +kernel)) (lx_fld c (lx_name c 0 rfl rfl rfl) e1 G.cl G.n_kept_lanes rfl) f2_eqI) (by rw [List.length_map, hr, decide_eq_true rfl])) (fun _ => (lx_one (lx_eq (lx_cmp (lx_callB c (cb_maxTu c hm1 hm2) (la_cons (lx_name c 1 rfl rfl rfl) la_nil) (by decide +kernel) G.b_max (by decide +kernel)) (lx_fld c (lx_name c 0 rfl rfl rfl) e1 G.cl G.n_kept_letters rfl) f2_lt) (by rw [decide_eq_true (hx mx hm1).2])))) (fun z => nomatch z)) rfl)) (fun z => nomatch z)) rfl) _ (Fg.of q)))
  have e3 : (decide (1 ≤ row.length ∧ row.length ≤ 1000) && row.all fun x => decide (0 ≤ x ∧ x < 4)) = true := by
    rw [Bool.and_eq_true, decide_eq_true_eq, List.all_eq_true]
    exact ⟨by omega, fun y hy => decide_eq_true ⟨(hx y hy).1, by have := (hx y hy).2; omega⟩⟩
  rw [e3]
  exact q
def sp_check_row_for : FS := fun ds h Q => ∃ (x : Addr) (q m : Nat) (ss : List Stp) (row : List Int), ds = [.ref x, rowD row] ∧ NetAt C h x q m ss ∧ NetOk q m ss ∧ RowFor q m row ∧ Q .non h
theorem has_check_row_for (G : Top T C) : Has T 6 "check_row_for" ["net", "thing"] (sp_check_row_for (C := C)) := by
  refine has_of G.d_check_row_for sc_check_row_for hv_check_row_for (fun ds h Q ⟨_, _, _, _, _, e, _⟩ => by subst e; rfl) (fun _ _ _ _ _ _ us hl => match us, hl with | [_, _], _ => rfl) fun X c ds h Q ⟨x, qn, m, ss, row, e, n, ok, hr, q⟩ => ?_
  subst e
  exact lss_one (ls_ifB (bb := false) (lb_not (lb_val (lx_call (z := .bl true) c (has_is_row_for G) (by decide) (by decide +kernel) (la_cons (lx_name c 0 rfl rfl rfl) (la_cons (lx_name c 1 rfl rfl rfl) la_nil)) fun Q q => ⟨x, qn, m, ss, row, rfl, n, ok, hr, q⟩))) (fun hb => nomatch hb) (fun hb => lss_nil (Fg.of q)))
def behind (m : Nat) (ss : List Stp) : List Nat := (List.range (ss.length + 1)).map fun i => lanesB m (ss.take i)
def behindTo (m : Nat) (ss : List Stp) (n : Nat) : List Nat := (List.range (n + 1)).map fun i => lanesB m (ss.take i)
theorem behindTo_len (m : Nat) (ss : List Stp) (n : Nat) : (behindTo m ss n).length = n + 1 := by
  unfold behindTo; rw [List.length_map, List.length_range]
theorem behindTo_succ {m : Nat} {ss : List Stp} {n : Nat} {s : Stp} (h : ss[n]? = some s) : natsD (behindTo m ss (n + 1)) = natsD (behindTo m ss n) ++ [.int (s.after (lanesB m (ss.take n)) : Nat)] := by
  unfold behindTo natsD
  rw [List.range_succ (n := n + 1), List.map_append, List.map_append, List.map_singleton, List.map_singleton, lanesB_take h]
theorem atI_last {α : Type} {xs : List α} {n : Nat} {x : α} (hl : xs.length = n + 1) (h : xs[n]? = some x) : atI xs (-1) = some x := by
  have e : ixN xs.length (-1) = some n := by
    rw [hl]
    unfold ixN
    rw [if_neg (by omega)]
    first | (rw [if_pos (by omega)]; congr 1; omega) | (split <;> (first | (congr 1; omega) | omega))
  show (ixN xs.length (-1)).bind _ = _
  rw [e]
  exact h
theorem behindTo_last (m : Nat) (ss : List Stp) (n : Nat) : atI (natsD (behindTo m ss n)) (-1) = some (.int (lanesB m (ss.take n) : Nat)) := by
  refine atI_last (n := n) (by rw [natsD_len, behindTo_len]) (natsD_get ?_)
  unfold behindTo
  rw [List.getElem?_map, List.getElem?_range (by omega)]
  rfl
def sp_lanes_behind : FS := fun ds h Q => ∃ (x : Addr) (q m : Nat) (ss : List Stp), ds = [.ref x] ∧ NetAt C h x q m ss ∧ NetOk q m ss ∧ ∀ p, h p = none → Q (.ref p) (updD h p (.lst (natsD (behind m ss))))
theorem has_lanes_behind (G : Top T C) : Has T 7 "lanes_behind" ["net"] (sp_lanes_behind (C := C)) := by
  refine has_of G.d_lanes_behind sc_lanes_behind hv_lanes_behind (fun ds h Q ⟨_, _, _, _, e, _⟩ => by subst e; rfl) (fun _ _ _ _ _ _ us hl => match us, hl with | [_], _ => rfl) fun X c ds h Q ⟨x, qn, m, ss, e, n, ok, q⟩ => ?_
  subst e
  obtain ⟨oth, e1⟩ := n.fld
  have hln := ok.len
  refine lss_cons (ls_set c 1 rfl rfl ((ll_disp (la_cons (lx_fld c (lx_name c 0 rfl rfl rfl) e1 G.cl G.n_kept_lanes rfl) la_nil)) _ fun p hp => ?_))
  have nx : x ≠ p := neN e1 hp
  refine lss_cons (ls_for c (li_tup (lx_fld c (lx_name c 0 rfl rfl rfl) (by rw [updD_ne nx]; exact e1) G.cl G.n_kept_steps rfl) ⟨fun i ρ hh => ρ = [some (.ref x), some (.ref p), none] ∧ hh = updD h p (.lst (natsD (behindTo m ss i))), ⟨rfl, rfl⟩, fun _ _ _ _ => trivial, ?_, ?_⟩))
  · rintro i d ρ1 hh hd ⟨rfl, rfl⟩
    obtain ⟨s, hs, rfl⟩ := map_get hd
    have hi : i < ss.length := (List.getElem?_eq_some_iff.mp hs).1
    refine ⟨_, lg_name c 2 rfl rfl ?_⟩
    have e2 : updD h p (.lst (natsD (behindTo m ss i))) p = some (.lst (natsD (behindTo m ss i))) := updD_same
    have e3 : updD h p (.lst (natsD (behindTo m ss i))) x = some (.ins C (netF qn m ss (lanesB m ss) (.ref oth))) := by rw [updD_ne nx]; exact e1
    refine lss_one (ls_append (lx_name c 1 rfl rfl rfl) e2 ((lx_call (z := .int (s.after (lanesB m (ss.take i)) : Nat)) c (has_lanes_after G) (by decide) (by decide +kernel) (la_cons (lx_name c 2 rfl rfl rfl) (la_cons (lx_ix (lx_name c 1 rfl rfl rfl) (lx_neg lx_int) (ix2_L e2 (behindTo_last m ss i))) (la_cons (lx_fld c (lx_name c 0 rfl rfl rfl) e3 G.cl G.n_kept_letters rfl) la_nil))) fun Q q => ⟨s, _, qn, rfl, ok.sm s (List.mem_of_getElem? hs), ?_⟩) _ ⟨_, e2, by rw [natsD_len, behindTo_len]; omega, ?_⟩))
    · unfold okD
      rw [(can_ok (cans_at ok.can hs)).1, if_pos rfl]
      exact q
    · rw [updD_updD, ← behindTo_succ hs]
      refine ⟨_, _, ?_, Sub.refl _, rfl, rfl⟩
      walk_at "fy wk"
  · rintro ρ1 hh ⟨rfl, rfl⟩
    rw [List.length_map]
    exact lss_one (ls_ret ((lx_name c 1 rfl rfl rfl) _ (Fg.of (q p hp))))
def sp_check_all : FS := fun ds h Q => ∃ (x : Addr) (q m : Nat) (ss : List Stp), ds = [.ref x] ∧ NetAt C h x q m ss ∧ NetOk q m ss ∧ Q .non h
theorem has_check_all (G : Top T C) : Has T 3 "check_all" ["net"] (sp_check_all (C := C)) := by
  refine has_of G.d_check_all sc_check_all hv_check_all (fun ds h Q ⟨_, _, _, _, e, _⟩ => by subst e; rfl) (fun _ _ _ _ _ _ us hl => match us, hl with | [_], _ => rfl) fun X c ds h Q ⟨x, qn, m, ss, e, n, ok, q⟩ => ?_
  subst e
  obtain ⟨oth, e1⟩ := n.fld
  exact lss_one (ls_expr ((lx_call (z := .non) (h2 := h) c (has_check_listed G) (by decide) (by decide +kernel) (la_cons (lx_fld c (lx_name c 0 rfl rfl rfl) e1 G.cl G.n_kept_letters rfl) (la_cons (lx_fld c (lx_name c 0 rfl rfl rfl) e1 G.cl G.n_kept_lanes rfl) la_nil)) fun Q q => ⟨qn, m, rfl, ok.q4, ok.m9, ok.qm, q⟩) _ (Fg.of q)))
def sp_all_ins : FS := fun ds h Q => ∃ (x : Addr) (q m : Nat) (ss : List Stp), ds = [.ref x] ∧ NetAt C h x q m ss ∧ NetOk q m ss ∧ ∀ p, h p = none → Q (.ref p) (updD h p (.lst ((rowsOf (lets q) m).map rowD)))
theorem has_all_ins (G : Top T C) : Has T 4 "all_ins" ["net"] (sp_all_ins (C := C)) := by
  refine has_of G.d_all_ins sc_all_ins hv_all_ins (fun ds h Q ⟨_, _, _, _, e, _⟩ => by subst e; rfl) (fun _ _ _ _ _ _ us hl => match us, hl with | [_], _ => rfl) fun X c ds h Q ⟨x, qn, m, ss, e, n, ok, q⟩ => ?_
  subst e
  obtain ⟨oth, e1⟩ := n.fld
  refine lss_cons (ls_expr ((lx_call (z := .non) (h2 := h) c (has_check_all G) (by decide) (by decide +kernel) (la_cons (lx_name c 0 rfl rfl rfl) la_nil) fun Q q => ⟨x, qn, m, ss, rfl, n, ok, q⟩) _ ?_))
  exact lss_one (ls_ret ((ll_call (res := (rowsOf (lets qn) m).map rowD) c (has_rows_of G) (by decide) (by decide +kernel) (la_cons (lx_fld c (lx_name c 0 rfl rfl rfl) e1 G.cl G.n_kept_letters rfl) (la_cons (lx_fld c (lx_name c 0 rfl rfl rfl) e1 G.cl G.n_kept_lanes rfl) la_nil)) fun Q q => ⟨qn, m, rfl, ok.m9, ok.q1, by have := ok.q4; omega, ok.qm, q⟩) _ fun p hp => Fg.of (q p hp)))
def sp_check_other : FS := fun ds h Q => ∃ (x y : Addr) (q m m' : Nat) (ss ss' : List Stp), ds = [.ref x, .ref y] ∧ NetAt C h x q m ss ∧ NetAt C h y q m' ss' ∧ Q .non h
theorem has_check_other (G : Top T C) : Has T 1 "check_other" ["net", "thing"] (sp_check_other (C := C)) := by
  refine has_of G.d_check_other sc_check_other hv_check_other (fun ds h Q ⟨_, _, _, _, _, _, _, e, _⟩ => by subst e; rfl) (fun _ _ _ _ _ _ us hl => match us, hl with | [_, _], _ => rfl) fun X c ds h Q ⟨x, y, qn, m, m', ss, ss', e, n, n', q⟩ => ?_
  subst e
  obtain ⟨oth, e1⟩ := n.fld
  obtain ⟨oth', e2⟩ := n'.fld
  refine lss_one (ls_ifB (bb := false) (lb_w (lw_or (b1 := false) (b2 := false) (lb_not (b1 := true) (lb_val (lx_callB c (cb_isiIns c e2 G.isa) (la_cons (lx_name c 1 rfl rfl rfl) (la_cons (lx_globR c (by decide +kernel) G.mgC) la_nil)) (by decide +kernel) G.b_isinstance (by decide +kernel)))) (fun _ => (lw_or1 (lb_eq (lb_cmp (lx_fld c (lx_name c 1 rfl rfl rfl) e2 G.cl G.n_kept_letters rfl) (lx_fld c (lx_name c 0 rfl rfl rfl) e1 G.cl G.n_kept_letters rfl) f2_neI) (by rw [decide_eq_true rfl]; rfl)))) (fun _ => rfl))) (fun hb => nomatch hb) (fun hb => lss_nil (Fg.of q)))
end Fy
end
section
set_option linter.all false
set_option maxRecDepth 100000
set_option maxHeartbeats 4000000
namespace Fy
open PySem PySem.Spec PyProof.Rows L2
local macro_rules | `(tactic| walk_at "fy op") => `(tactic| first
  | exact f2_add | exact f2_sub | exact f2_cat (by first | assumption | omega | (simp only [List.length_append, cutD_len] <;> omega)) | exact f2_and | exact f2_mod (by omega) | exact f2_fdiv ⟨by omega, by omega⟩ | exact f2_mul (by unfold CMul; omega))
local macro_rules | `(tactic| walk_at "fy cmp") => `(tactic| first
  | exact f2_lt | exact f2_le | exact f2_gt | exact f2_ge | exact f2_eqI | exact f2_neI | exact f2_eqS | exact f2_isN | exact f2_notN)
local macro_rules | `(tactic| walk_at "fy ix") => `(tactic| first
  | exact ix2_T (by first | assumption | rfl) | exact ix2_L (by assumption) (by assumption))
local macro_rules | `(tactic| walk_at "fy wk") => `(tactic| repeat' (first | exact Paired.nil | exact True.intro | rfl | apply Paired.cons))
variable {T : Tx} {C : Addr} {X : Cx} {h : HD}
theorem natsD_ints (L : List Nat) : natsD L = (L.map fun (i : Nat) => (i : Int)).map D.int := by
  unfold natsD
  rw [List.map_map]
  rfl
theorem behindTo_all (m : Nat) (ss : List Stp) : behindTo m ss ss.length = behind m ss := rfl
theorem behindTo_le {q m : Nat} {ss : List Stp} (hc : cans q m ss = true) (h1 : 1 ≤ m) (h2 : m ≤ 1000) {n x : Nat} (hx : x ∈ behindTo m ss n) : x ≤ 1000 := by
  unfold behindTo at hx
  obtain ⟨i, _, rfl⟩ := List.mem_map.mp hx
  exact (lanes_le (cans_take i hc) h1 h2).2
def sp_made : FS := fun ds h Q => ∃ (q m : Nat) (ss : List Stp), ds = [.int q, .int m, .tup (ss.map stepD)] ∧ NetOk q m ss ∧ ∀ y h', Sub h h' → NetAt C h' y q m ss → Q (.ref y) h'
theorem has_made (G : Top T C) : Has T 10 "made" ["letters", "lanes", "steps"] (sp_made (C := C)) := by
  refine has_of G.d_made sc_made hv_made (fun ds h Q ⟨_, _, _, e, _⟩ => by subst e; rfl) (fun _ _ _ _ _ _ us hl => match us, hl with | [_, _, _], _ => rfl) fun X c ds h Q ⟨qn, m, ss, e, ok, q⟩ => ?_
  subst e
  have hln := ok.len
  have hm9 := ok.m9
  refine lss_cons (ls_set c 3 rfl rfl ((ll_disp (la_cons (lx_name c 1 rfl rfl rfl) la_nil)) _ fun p hp => ?_))
  refine lss_cons (ls_for c (li_tup (lx_name c 2 rfl rfl rfl) ⟨fun i ρ hh => ρ = [some (.int qn), some (.int m), some (.tup (ss.map stepD)), some (.ref p), none] ∧ hh = updD h p (.lst (natsD (behindTo m ss i))), ⟨rfl, rfl⟩, fun _ _ _ _ => trivial, ?_, ?_⟩))
  · rintro i d ρ1 hh hd ⟨rfl, rfl⟩
    obtain ⟨s, hs, rfl⟩ := map_get hd
    have hi : i < ss.length := (List.getElem?_eq_some_iff.mp hs).1
    refine ⟨_, lg_name c 4 rfl rfl ?_⟩
    have e2 : updD h p (.lst (natsD (behindTo m ss i))) p = some (.lst (natsD (behindTo m ss i))) := updD_same
    refine lss_one (ls_append (lx_name c 3 rfl rfl rfl) e2 ((lx_call (z := .int (s.after (lanesB m (ss.take i)) : Nat)) c (has_lanes_after G) (by decide) (by decide +kernel) (la_cons (lx_name c 4 rfl rfl rfl) (la_cons (lx_ix (lx_name c 3 rfl rfl rfl) (lx_neg lx_int) (ix2_L e2 (behindTo_last m ss i))) (la_cons (lx_name c 0 rfl rfl rfl) la_nil))) fun Q q => ⟨s, _, qn, rfl, ok.sm s (List.mem_of_getElem? hs), ?_⟩) _ ⟨_, e2, by rw [natsD_len, behindTo_len]; omega, ?_⟩))
    · unfold okD
      rw [(can_ok (cans_at ok.can hs)).1, if_pos rfl]
      exact q
    · rw [updD_updD, ← behindTo_succ hs]
      refine ⟨_, _, ?_, Sub.refl _, rfl, rfl⟩
      walk_at "fy wk"
  · rintro ρ1 hh ⟨rfl, rfl⟩
    rw [List.length_map, behindTo_all]
    obtain ⟨mx, hm1, hm2⟩ := max_ex (ns := (behind m ss).map fun (i : Nat) => (i : Int)) (by unfold behind; rw [List.range_succ]; simp)
    have hb : mx ≤ 1000 := by
      obtain ⟨j, hj, rfl⟩ := List.mem_map.mp hm1
      have := behindTo_le ok.can ok.m1 (by omega) (n := ss.length) hj
      omega
    refine lss_cons (ls_ifB (bb := false) (lb_eq (lb_cmp (lx_callB c (cb_maxL c (by rw [updD_same, natsD_ints]) (List.length_pos_of_mem hm1) hm1 hm2) (la_cons (lx_name c 3 rfl rfl rfl) la_nil) (by decide +kernel) G.b_max (by decide +kernel)) (lx_con c (by decide +kernel) G.MOST_LANES) f2_gt) (decide_eq_false (by omega))) (fun hb => nomatch hb) (fun hb => lss_nil ?_))
    refine lss_one (ls_ret (le_make c (has_init G) (by decide) (by decide +kernel) G.mgC ((la_cons (lx_name c 0 rfl rfl rfl) (la_cons (lx_name c 1 rfl rfl rfl) (la_cons (lx_callTy c cb_tupT (la_cons (lx_name c 2 rfl rfl rfl) la_nil) (by decide +kernel) G.b_tuple (by decide +kernel)) la_nil))) _ fun x hx => ⟨_, x, qn, m, _, ss, rfl, hx, rfl, .inl rfl, ok.q1, ok.q4, ok.m1, by omega, ok.can, ok.sm, hln, fun h' sb n => ⟨rfl, Fg.of (q x h' ((Sub.new hp).trans sb) n)⟩⟩)))
theorem cans_snoc {q : Nat} : ∀ {ss : List Stp} {m : Nat} {s : Stp}, cans q m (ss ++ [s]) = (cans q m ss && s.can q (lanesB m ss))
  | [], m, s => by
    show (s.can q m && true) = (true && s.can q m)
    rw [Bool.and_true, Bool.true_and]
  | t :: ss, m, s => by
    show (t.can q m && cans q (t.after m) (ss ++ [s])) = (t.can q m && cans q (t.after m) ss && s.can q (lanesB (t.after m) ss))
    rw [cans_snoc, Bool.and_assoc]
theorem take_snoc {α : Type} {l : List α} {i : Nat} {x : α} (h : l[i]? = some x) : l.take (i + 1) = l.take i ++ [x] := by
  rw [List.take_add_one, h]
  rfl
theorem NetOk.erase {q m : Nat} {ss : List Stp} (ok : NetOk q m ss) {i : Nat} (hc : cans q m (ss.eraseIdx i) = true) : NetOk q m (ss.eraseIdx i) :=
  ⟨ok.q1, ok.q4, ok.m1, ok.m9, ok.qm, hc, fun s hs => ok.sm s (List.mem_of_mem_eraseIdx hs), by have := ok.len; rw [List.length_eraseIdx]; split <;> omega⟩
def sp_without_of : FS := fun ds h Q => ∃ (x : Addr) (q m : Nat) (ss : List Stp) (i : Nat), ds = [.ref x, .int i] ∧ NetAt C h x q m ss ∧ NetOk q m ss ∧ i < ss.length ∧ (cans q m (ss.eraseIdx i) = true → ∀ y h', Sub h h' → NetAt C h' y q m (ss.eraseIdx i) → Q (.ref y) h') ∧ (cans q m (ss.eraseIdx i) = false → Q .non h)
theorem has_without_of (G : Top T C) : Has T 11 "without_of" ["net", "index"] (sp_without_of (C := C)) := by
  refine has_of G.d_without_of sc_without_of hv_without_of (fun ds h Q ⟨_, _, _, _, _, e, _⟩ => by subst e; rfl) (fun _ _ _ _ _ _ us hl => match us, hl with | [_, _], _ => rfl) fun X c ds h Q ⟨x, qn, m, ss, ix, e, n, ok, hix, q1, q2⟩ => ?_
  subst e
  obtain ⟨oth, e1⟩ := n.fld
  have hln := ok.len
  have hm9 := ok.m9
  have es : cutD (ss.map stepD) none (some (ix : Nat)) ++ cutD (ss.map stepD) (some ((ix + 1 : Nat) : Int)) none = (ss.eraseIdx ix).map stepD := by
    rw [cutD_to, cutD_from, List.eraseIdx_eq_take_drop_succ, List.map_append, List.map_take, List.map_drop]
  refine lss_cons (ls_set c 2 rfl rfl ((lx_eq (lx_bin (lx_cutT (lx_fld c (lx_name c 0 rfl rfl rfl) e1 G.cl G.n_kept_steps rfl) lo_none (lo_some (lx_name c 1 rfl rfl rfl))) (lx_cutT (lx_fld c (lx_name c 0 rfl rfl rfl) e1 G.cl G.n_kept_steps rfl) (lo_some (lx_eq (lx_bin (lx_name c 1 rfl rfl rfl) lx_int f2_add) (show D.int ((ix : Int) + 1) = .int ((ix + 1 : Nat)) by rw [Int.natCast_add]; rfl))) lo_none) (f2_cat ?_)) (congrArg D.tup es)) _ ?_))
  · rw [cutD_to, cutD_from, List.length_take, List.length_drop, List.length_map]
    omega
  have hsm : ∀ s ∈ ss.eraseIdx ix, s.small := fun s hs => ok.sm s (List.mem_of_mem_eraseIdx hs)
  generalize hss : ss.eraseIdx ix = zz at hsm q1 q2
  refine lss_cons (ls_set c 3 rfl rfl ((lx_fld c (lx_name c 0 rfl rfl rfl) e1 G.cl G.n_kept_lanes rfl) _ ?_))
  refine lss_cons (ls_for c (li_tup (lx_name c 2 rfl rfl rfl) ⟨fun i ρ hh => ρ = [some (.ref x), some (.int ix), some (.tup (zz.map stepD)), some (.int (lanesB m (zz.take i) : Nat)), none] ∧ hh = h ∧ cans qn m (zz.take i) = true, ⟨rfl, rfl, by rw [List.take_zero]; rfl⟩, fun _ _ _ _ => trivial, ?_, ?_⟩))
  · rintro i d ρ1 hh hd ⟨rfl, rfl, hc⟩
    obtain ⟨s, hs, rfl⟩ := map_get hd
    have hsml := hsm s (List.mem_of_getElem? hs)
    refine ⟨_, lg_name c 4 rfl rfl ?_⟩
    refine lss_cons (ls_ifB (bb := !(s.can qn (lanesB m (zz.take i)))) (lb_not (lb_val (lx_call (z := .bl (s.can qn (lanesB m (zz.take i)))) c (has_can_be G) (by decide) (by decide +kernel) (la_cons (lx_name c 4 rfl rfl rfl) (la_cons (lx_name c 3 rfl rfl rfl) (la_cons (lx_fld c (lx_name c 0 rfl rfl rfl) e1 G.cl G.n_kept_letters rfl) la_nil))) fun Q q => ⟨s, _, qn, rfl, hsml, q⟩))) (fun hb => ?_) (fun hb => lss_nil ?_))
    · rw [Bool.not_eq_true'] at hb
      refine lss_one (ls_ret (lx_non _ (Fg.of (q2 ?_))))
      cases hz : cans qn m zz with
      | false => rfl
      | true =>
        rw [cans_at hz hs] at hb
        cases hb
    · rw [Bool.not_eq_false'] at hb
      refine lss_one (ls_set c 3 rfl rfl ((lx_call (z := .int (lanesB m (zz.take (i + 1)) : Nat)) c (has_lanes_after G) (by decide) (by decide +kernel) (la_cons (lx_name c 4 rfl rfl rfl) (la_cons (lx_name c 3 rfl rfl rfl) (la_cons (lx_fld c (lx_name c 0 rfl rfl rfl) e1 G.cl G.n_kept_letters rfl) la_nil))) fun Q q => ⟨s, _, qn, rfl, hsml, by unfold okD; rw [(can_ok hb).1, if_pos rfl, ← lanesB_take hs]; exact q⟩) _ ?_))
      refine ⟨_, _, ?_, Sub.refl _, rfl, rfl, by rw [take_snoc hs, cans_snoc, hc, hb]; rfl⟩
      walk_at "fy wk"
  · rintro ρ1 hh ⟨rfl, rfl, hc⟩
    rw [List.length_map, List.take_length] at hc
    refine lss_one (ls_ret (le_call c (has_made G) (by decide) (by decide +kernel) ((la_cons (lx_fld c (lx_name c 0 rfl rfl rfl) e1 G.cl G.n_kept_letters rfl) (la_cons (lx_fld c (lx_name c 0 rfl rfl rfl) e1 G.cl G.n_kept_lanes rfl) (la_cons (lx_name c 2 rfl rfl rfl) la_nil))) _ ⟨qn, m, zz, rfl, by rw [← hss]; exact ok.erase (by rw [hss]; exact hc), fun y h' sb n' => Fg.of (q1 hc y h' sb n')⟩)))
theorem rows_ok {q m : Nat} {r : List Int} (h : r ∈ rowsOf (lets q) m) : RowFor q m r := by
  obtain ⟨h1, h2⟩ := rowsOf_row _ _ _ h
  refine ⟨h1, fun x hx => ?_⟩
  obtain ⟨i, hi, rfl⟩ := List.mem_map.mp (h2 x hx)
  rw [List.mem_range] at hi
  omega
theorem eqb_rows {r s : List Int} : D.eqb (rowD r) (rowD s) = decide (r = s) := eqbs_ints
theorem ok_row {r : List Int} : (rowD r).ok = true := ok_ints
def sp_alike : FS := fun ds h Q => ∃ (x y : Addr) (q m : Nat) (ss ss' : List Stp), ds = [.ref x, .ref y] ∧ NetAt C h x q m ss ∧ NetAt C h y q m ss' ∧ NetOk q m ss ∧ NetOk q m ss' ∧ (∀ r ∈ rowsOf (lets q) m, outOf r ss = outOf r ss') ∧ Q .non h
theorem has_alike (G : Top T C) : Has T 5 "alike" ["net", "other"] (sp_alike (C := C)) := by
  refine has_of G.d_alike sc_alike hv_alike (fun ds h Q ⟨_, _, _, _, _, _, e, _⟩ => by subst e; rfl) (fun _ _ _ _ _ _ us hl => match us, hl with | [_, _], _ => rfl) fun X c ds h Q ⟨x, y, qn, m, ss, ss', e, n, n', ok, ok', hal, q⟩ => ?_
  subst e
  obtain ⟨oth, e1⟩ := n.fld
  obtain ⟨oth', e2⟩ := n'.fld
  refine lss_cons (ls_expr ((lx_call (z := .non) (h2 := h) c (has_check_other G) (by decide) (by decide +kernel) (la_cons (lx_name c 0 rfl rfl rfl) (la_cons (lx_name c 1 rfl rfl rfl) la_nil)) fun Q q => ⟨x, y, qn, m, m, ss, ss', rfl, n, n', q⟩) _ ?_))
  refine lss_cons (ls_ifB (bb := false) (lb_eq (lb_cmp (lx_fld c (lx_name c 1 rfl rfl rfl) e2 G.cl G.n_kept_lanes rfl) (lx_fld c (lx_name c 0 rfl rfl rfl) e1 G.cl G.n_kept_lanes rfl) f2_neI) (by rw [decide_eq_true rfl]; rfl)) (fun hb => nomatch hb) (fun hb => lss_nil ?_))
  refine lss_cons (ls_for c (li_ll (ll_call (res := (rowsOf (lets qn) m).map rowD) c (has_all_ins G) (by decide) (by decide +kernel) (la_cons (lx_name c 0 rfl rfl rfl) la_nil) fun Q q => ⟨x, qn, m, ss, rfl, n, ok, q⟩) fun p hp => ⟨fun i ρ hh => ρ = [some (.ref x), some (.ref y), none] ∧ hh = updD h p (.lst ((rowsOf (lets qn) m).map rowD)), ⟨rfl, rfl⟩, fun i ρ hh hP => by rw [hP.2]; exact updD_same, ?_, ?_⟩))
  · rintro i d ρ1 hh hd ⟨rfl, rfl⟩
    obtain ⟨r, hr, rfl⟩ := map_get hd
    have hrm := List.mem_of_getElem? hr
    refine ⟨_, lg_name c 2 rfl rfl ?_⟩
    refine lss_one (ls_ifB (bb := false) (lb_eq (lb_cmp (lx_call (z := rowD (outOf r ss)) c (has_run_of G) (by decide) (by decide +kernel) (la_cons (lx_name c 0 rfl rfl rfl) (la_cons (lx_name c 2 rfl rfl rfl) la_nil)) fun Q q => ⟨x, qn, m, ss, r, rfl, n.sub (Sub.new hp), ok, (rows_ok hrm).1, q⟩) (lx_call (z := rowD (outOf r ss')) c (has_run_of G) (by decide) (by decide +kernel) (la_cons (lx_name c 1 rfl rfl rfl) (la_cons (lx_name c 2 rfl rfl rfl) la_nil)) fun Q q => ⟨y, qn, m, ss', r, rfl, n'.sub (Sub.new hp), ok', (rows_ok hrm).1, q⟩) (f2_neD c ok_row ok_row)) (by rw [eqb_rows, hal r hrm, decide_eq_true rfl]; rfl)) (fun hb => nomatch hb) (fun hb => lss_nil ?_))
    refine ⟨_, _, ?_, Sub.refl _, rfl, rfl⟩
    walk_at "fy wk"
  · rintro ρ1 hh ⟨rfl, rfl⟩
    exact lss_one (ls_ret (lx_non _ (Fg.to (Sub.new hp) q)))
def needB (q m : Nat) (ss : List Stp) (i : Nat) : Bool := cans q m (ss.eraseIdx i) && (rowsOf (lets q) m).all fun r => decide (outOf r ss = outOf r (ss.eraseIdx i))
def needL (q m : Nat) (ss : List Stp) : List Nat := (List.range ss.length).filter (needB q m ss)
theorem rows_len_le {q m : Nat} {ss : List Stp} (ok : NetOk q m ss) : (rowsOf (lets q) m).length ≤ 4096 := by
  rw [rowsOf_len]
  unfold lets
  rw [List.length_map, List.length_range]
  exact ok.qm
def sp_needless : FS := fun ds h Q => ∃ (x : Addr) (q m : Nat) (ss : List Stp), ds = [.ref x] ∧ NetAt C h x q m ss ∧ NetOk q m ss ∧ Q (.tup (natsD (needL q m ss))) h
theorem has_needless (G : Top T C) : Has T 12 "needless" ["net"] (sp_needless (C := C)) := by
  refine has_of G.d_needless sc_needless hv_needless (fun ds h Q ⟨_, _, _, _, e, _⟩ => by subst e; rfl) (fun _ _ _ _ _ _ us hl => match us, hl with | [_], _ => rfl) fun X c ds h Q ⟨x, qn, m, ss, e, n, ok, q⟩ => ?_
  subst e
  obtain ⟨oth, e1⟩ := n.fld
  have hln := ok.len
  refine lss_cons (ls_set c 1 rfl rfl ((ll_call (res := (rowsOf (lets qn) m).map rowD) c (has_all_ins G) (by decide) (by decide +kernel) (la_cons (lx_name c 0 rfl rfl rfl) la_nil) fun Q q => ⟨x, qn, m, ss, rfl, n, ok, q⟩) _ fun pr hpr => ?_))
  have epr : updD h pr (.lst ((rowsOf (lets qn) m).map rowD)) pr = some (.lst ((rowsOf (lets qn) m).map rowD)) := updD_same
  have sb0 : Sub h (updD h pr (.lst ((rowsOf (lets qn) m).map rowD))) := Sub.new hpr
  generalize updD h pr (.lst ((rowsOf (lets qn) m).map rowD)) = h1 at epr sb0
  refine lss_cons (ls_set c 2 rfl rfl ((ll_disp la_nil) _ fun pf hpf => ?_))
  have hf0 : h pf = none := by
    cases hz : h pf with
    | none => rfl
    | some o => rw [sb0 _ _ hz] at hpf; cases hpf
  refine lss_cons (ls_for c (li_range1 c (lx_eq (lx_callB c cb_lenT (la_cons (lx_fld c (lx_name c 0 rfl rfl rfl) ((sb0.trans (Sub.new hpf)) _ _ e1) G.cl G.n_kept_steps rfl) la_nil) (by decide +kernel) G.b_len (by decide +kernel)) (congrArg (fun n : Nat => D.int (n : Int)) (List.length_map stepD))) (by decide +kernel) G.b_range ⟨by omega, by omega⟩ ⟨fun i ρ hh => ρ = [some (.ref x), some (.ref pr), some (.ref pf), none, none, none] ∧ Sub h1 hh ∧ hh pf = some (.lst (natsD ((List.range i).filter (needB qn m ss)))), ⟨rfl, Sub.new hpf, updD_same⟩, fun _ _ _ _ => trivial, ?_, ?_⟩))
  · rintro i d ρ1 hh hd ⟨rfl, sb, ef⟩
    rw [Int.toNat_natCast] at hd
    have hi : i < ss.length := by
      have := (List.getElem?_eq_some_iff.mp hd).1
      rwa [rngD_len] at this
    rw [rngD_get hi] at hd
    cases hd
    rw [Int.zero_add]
    have nn : NetAt C hh x qn m ss := n.sub (sb0.trans sb)
    refine ⟨_, lg_name c 3 rfl rfl ?_⟩
    have stay : needB qn m ss i = false → ∀ h2, Sub hh h2 → h2 pf = some (.lst (natsD ((List.range (i + 1)).filter (needB qn m ss)))) := fun hn h2 s2 => by
      rw [List.range_succ, List.filter_append, List.filter_cons_of_neg (by rw [hn]; exact Bool.false_ne_true), List.filter_nil, List.append_nil]
      exact s2 _ _ ef
    refine lss_cons (ls_set c 4 rfl rfl (le_call c (has_without_of G) (by decide) (by decide +kernel) ((la_cons (lx_name c 0 rfl rfl rfl) (la_cons (lx_name c 3 rfl rfl rfl) la_nil)) _ ⟨x, qn, m, ss, i, rfl, nn, ok, hi, fun hc y h2 s2 n2 => ?_, fun hc => ?_⟩)))
    · have ok2 := ok.erase hc
      generalize hzz : ss.eraseIdx i = zz at hc n2 ok2
      have hnb : needB qn m ss i = (rowsOf (lets qn) m).all fun r => decide (outOf r ss = outOf r zz) := by
        unfold needB
        rw [hzz, hc, Bool.true_and]
      have epr2 : h2 pr = some (.lst ((rowsOf (lets qn) m).map rowD)) := s2 _ _ (sb _ _ epr)
      refine lss_one (ls_ifB (bb := true && needB qn m ss i) (lb_w (lw_and (lb_cmp (lx_name c 4 rfl rfl rfl) lx_non f2_notN) (fun _ => (lw_and1 (lb_val (lx_eq (lx_callBL c (fun p hp => cb_all c updD_same) (ll_comp c (own := [("row", 5)]) (rs := ((rowsOf (lets qn) m).map fun r => decide (outOf r ss = outOf r zz)).map D.bl) (ds := (rowsOf (lets qn) m).map rowD) (by decide +kernel) (is := [5]) (by simp) (fun d => [some (.ref x), some (.ref pr), some (.ref pf), some (.int i), some (.ref y), some d]) (fun R kk => li_list (lx_name c 1 rfl rfl rfl) epr2 (kk _ _ (Sub.refl _) fun p3 acc hp3 => by
          rw [updD_ne (neN epr2 hp3)]
          exact epr2)) (by rw [List.length_map, List.length_map, List.length_map]) (by rw [List.length_map]; have := rows_len_le ok; omega) (fun i d hd X' b => lg_name (blk_ctx c b rfl rfl) 5 rfl rfl rfl) fun j d r' hh' hd hr' sb' X' b => ?_) (by decide +kernel) G.b_all (by decide +kernel)) (by rw [hnb, List.all_map]; rfl))))) (fun z => nomatch z))) (fun hb => ?_) (fun hb => lss_nil ?_))
      · obtain ⟨r, hr, rfl⟩ := map_get hd
        have hrm := List.mem_of_getElem? hr
        rw [List.getElem?_map, List.getElem?_map, hr] at hr'
        cases hr'
        exact lx_eq (lx_cmp (lx_call (z := rowD (outOf r ss)) (blk_ctx c b rfl rfl) (has_run_of G) (by decide) (by decide +kernel) (la_cons (lx_name (blk_ctx c b rfl rfl) 0 rfl rfl rfl) (la_cons (lx_name (blk_ctx c b rfl rfl) 5 rfl rfl rfl) la_nil)) fun Q q => ⟨x, qn, m, ss, r, rfl, (nn.sub s2).sub sb', ok, (rows_ok hrm).1, q⟩) (lx_call (z := rowD (outOf r zz)) (blk_ctx c b rfl rfl) (has_run_of G) (by decide) (by decide +kernel) (la_cons (lx_name (blk_ctx c b rfl rfl) 4 rfl rfl rfl) (la_cons (lx_name (blk_ctx c b rfl rfl) 5 rfl rfl rfl) la_nil)) fun Q q => ⟨y, qn, m, zz, r, rfl, n2.sub sb', ok2, (rows_ok hrm).1, q⟩) (f2_eqD (blk_ctx c b rfl rfl) ok_row ok_row)) (by rw [eqb_rows])
      · rw [Bool.true_and] at hb
        refine lss_one (ls_append (lx_name c 2 rfl rfl rfl) (s2 _ _ ef) ((lx_name c 3 rfl rfl rfl) _ ⟨_, s2 _ _ ef, ?_, ?_⟩))
        · rw [natsD_len]
          have := List.length_filter_le (needB qn m ss) (List.range i)
          rw [List.length_range] at this
          omega
        · refine ⟨_, _, ?_, Sub.refl _, rfl, (sb.trans s2).put _ hpf, ?_⟩
          · walk_at "fy wk"
          · rw [updD_same, List.range_succ, List.filter_append, List.filter_cons_of_pos hb]
            unfold natsD
            rw [List.map_append]
            rfl
      · rw [Bool.true_and] at hb
        refine ⟨_, _, ?_, Sub.refl _, rfl, sb.trans s2, stay hb _ s2⟩
        walk_at "fy wk"
    · have hb : needB qn m ss i = false := by
        unfold needB
        rw [hc]
        rfl
      refine lss_one (ls_ifB (bb := false && false) (lb_w (lw_and (b2 := false) (lb_cmp (lx_name c 4 rfl rfl rfl) lx_non f2_notN) (fun z => nomatch z) (fun _ => rfl))) (fun z => nomatch z) (fun _ => lss_nil ?_))
      refine ⟨_, _, ?_, Sub.refl _, rfl, sb, stay hb _ (Sub.refl _)⟩
      walk_at "fy wk"
  · rintro ρ1 hh ⟨rfl, sb, ef⟩
    rw [rngD_len, Int.toNat_natCast] at ef
    exact lss_one (ls_ret ((lx_callTy c (cb_tupL ef) (la_cons (lx_name c 2 rfl rfl rfl) la_nil) (by decide +kernel) G.b_tuple (by decide +kernel)) _ (Fg.to (sb0.trans sb) q)))
end Fy
end
section
set_option linter.all false
set_option maxRecDepth 100000
set_option maxHeartbeats 4000000
namespace Fy
open PySem PySem.Spec PyProof.Rows L2
local macro_rules | `(tactic| walk_at "fy op") => `(tactic| first
  | exact f2_add | exact f2_sub | exact f2_cat (by first | assumption | omega | (simp only [List.length_append, cutD_len] <;> omega)) | exact f2_and | exact f2_mod (by omega) | exact f2_fdiv ⟨by omega, by omega⟩ | exact f2_mul (by unfold CMul; omega))
local macro_rules | `(tactic| walk_at "fy cmp") => `(tactic| first
  | exact f2_lt | exact f2_le | exact f2_gt | exact f2_ge | exact f2_eqI | exact f2_neI | exact f2_eqS | exact f2_isN | exact f2_notN)
local macro_rules | `(tactic| walk_at "fy ix") => `(tactic| first
  | exact ix2_T (by first | assumption | rfl) | exact ix2_L (by assumption) (by assumption))
local macro_rules | `(tactic| walk_at "fy wk") => `(tactic| repeat' (first | exact Paired.nil | exact True.intro | rfl | apply Paired.cons))
variable {T : Tx} {C : Addr} {X : Cx} {h : HD}
theorem ls_mono {X : Cx} {s : Stmt} {ρ : Rho} {E E' : EndsD} (l : LS X s ρ h E) (n : ∀ ρ' h', E.nx ρ' h' → E'.nx ρ' h') (r : ∀ d h', E.rt d h' → E'.rt d h') (b : ∀ ρ' h', E.bk ρ' h' → E'.bk ρ' h') (k : ∀ ρ' h', E.ct ρ' h' → E'.ct ρ' h') : LS X s ρ h E' :=
  fun σ H a q => WS.mono (l σ H a q) (fun σ' H' z => OS.mono (TupS.refl H) z n) (fun v H' z => OQ.mono (TupS.refl H) z r) (fun σ' H' z => OS.mono (TupS.refl H) z b) (fun σ' H' z => OS.mono (TupS.refl H) z k)
/-- a step and what holds behind it -/
theorem lss_cut {X : Cx} {s : Stmt} {ss : List Stmt} {ρ : Rho} {E : EndsD} (P : Rho → HD → Prop) (h1 : LS X s ρ h { E with nx := P }) (k : ∀ ρ' h', P ρ' h' → LSs X ss ρ' h' E) : LSs X (s :: ss) ρ h E :=
  lss_cons (ls_mono h1 k (fun _ _ z => z) (fun _ _ z => z) (fun _ _ z => z))
def sp_check_outs : FS := fun ds h Q => ∃ (x : Addr) (q m : Nat) (ss : List Stp), ds = [.ref x] ∧ NetAt C h x q m ss ∧ lanesB m ss ≤ 9 ∧ Q .non h
theorem has_check_outs (G : Top T C) : Has T 1 "check_outs" ["net"] (sp_check_outs (C := C)) := by
  refine has_of G.d_check_outs sc_check_outs hv_check_outs (fun ds h Q ⟨_, _, _, _, e, _⟩ => by subst e; rfl) (fun _ _ _ _ _ _ us hl => match us, hl with | [_], _ => rfl) fun X c ds h Q ⟨x, qn, m, ss, e, n, hl, q⟩ => ?_
  subst e
  obtain ⟨oth, e1⟩ := n.fld
  exact lss_one (ls_ifB (bb := false) (lb_eq (lb_cmp (lx_fld c (lx_name c 0 rfl rfl rfl) e1 G.cl G.n_kept_outs rfl) (lx_con c (by decide +kernel) G.MOST_ROAD) f2_gt) (decide_eq_false (by omega))) (fun hb => nomatch hb) (fun hb => lss_nil (Fg.of q)))
def iN (L : List Nat) : List Int := L.map fun (i : Nat) => (i : Int)
theorem natsD_iN (L : List Nat) : D.tup (natsD L) = rowD (iN L) := by
  rw [natsD_ints]
  rfl
def UnkAt (s : List Int) (d : Nat) : Prop := s.length ≤ 20 ∧ ∃ (K : Nat) (rr : List Int), (∀ j, j ≤ K → (bfs (exs s.length) [(s, 0)] j).length ≤ 40000) ∧ (bfs (exs s.length) [(s, 0)] K)[K]? = some (rr, d) ∧ rises rr = true ∧
  (∀ j, j < K → ∃ r' d', (bfs (exs s.length) [(s, 0)] j)[j]? = some (r', d') ∧ rises r' = false)
theorem sp_unk {s : List Int} {d : Nat} {Q : D → HD → Prop} (u : UnkAt s d) (q : Q (.int (d : Nat)) h) : sp_unknotted [rowD s] h Q :=
  ⟨s, u.2.choose, u.2.choose_spec.choose, d, rfl, u.1, u.2.choose_spec.choose_spec.1, u.2.choose_spec.choose_spec.2.1, u.2.choose_spec.choose_spec.2.2.1, u.2.choose_spec.choose_spec.2.2.2, q⟩
def sp_knot_number : FS := fun ds h Q => ∃ (x : Addr) (q m : Nat) (ss : List Stp) (row : List Int) (d : Nat), ds = [.ref x, rowD row] ∧ NetAt C h x q m ss ∧ NetOk q m ss ∧ RowFor q m row ∧ lanesB m ss ≤ 9 ∧ UnkAt (iN (srcs row ss)) d ∧ Q (.int (d : Nat)) h
theorem has_knot_number (G : Top T C) : Has T 7 "knot_number" ["net", "row"] (sp_knot_number (C := C)) := by
  refine has_of G.d_knot_number sc_knot_number hv_knot_number (fun ds h Q ⟨_, _, _, _, _, _, e, _⟩ => by subst e; rfl) (fun _ _ _ _ _ _ us hl => match us, hl with | [_, _], _ => rfl) fun X c ds h Q ⟨x, qn, m, ss, row, d, e, n, ok, hr, hl, hu, q⟩ => ?_
  subst e
  refine lss_cons (ls_expr ((lx_call (z := .non) (h2 := h) c (has_check_row_for G) (by decide) (by decide +kernel) (la_cons (lx_name c 0 rfl rfl rfl) (la_cons (lx_name c 1 rfl rfl rfl) la_nil)) fun Q q => ⟨x, qn, m, ss, row, rfl, n, ok, hr, q⟩) _ ?_))
  refine lss_cons (ls_expr ((lx_call (z := .non) (h2 := h) c (has_check_outs G) (by decide) (by decide +kernel) (la_cons (lx_name c 0 rfl rfl rfl) la_nil) fun Q q => ⟨x, qn, m, ss, rfl, n, hl, q⟩) _ ?_))
  exact lss_one (ls_ret ((lx_call (z := .int (d : Nat)) c (has_unknotted G) (by decide) (by decide +kernel) (la_cons (lx_eq (lx_callTyL c (fun p hp => cb_tupL updD_same) (ll_call (res := natsD (srcs row ss)) c (has_sources G) (by decide) (by decide +kernel) (la_cons (lx_name c 0 rfl rfl rfl) (la_cons (lx_name c 1 rfl rfl rfl) la_nil)) fun Q q => ⟨x, qn, m, ss, row, rfl, n, ok, hr.1, q⟩) (by decide +kernel) G.b_tuple (by decide +kernel)) (natsD_iN _)) la_nil) fun Q q => sp_unk hu q) _ (Fg.of q)))
def bestS (f : List Int → Nat) (b : Option (Nat × List Int)) (r : List Int) : Option (Nat × List Int) := match b with
  | none => some (f r, r)
  | some p => if p.1 < f r then some (f r, r) else some p
def bestR (f : List Int → Nat) (rs : List (List Int)) : Option (Nat × List Int) := rs.foldl (bestS f) none
theorem bestR_succ {f : List Int → Nat} {rs : List (List Int)} {i : Nat} {r : List Int} (h : rs[i]? = some r) : bestR f (rs.take (i + 1)) = bestS f (bestR f (rs.take i)) r := by
  unfold bestR
  rw [take_snoc h, List.foldl_append]
  rfl
def bestD : Option (Nat × List Int) → D
  | none => .non
  | some p => .tup [.int (p.1 : Nat), rowD p.2]
def sp_knotted : FS := fun ds h Q => ∃ (x : Addr) (q m : Nat) (ss : List Stp) (kn : List Int → Nat), ds = [.ref x] ∧ NetAt C h x q m ss ∧ NetOk q m ss ∧ lanesB m ss ≤ 9 ∧ (∀ r ∈ rowsOf (lets q) m, UnkAt (iN (srcs r ss)) (kn (iN (srcs r ss)))) ∧ Q (bestD (bestR (fun r => kn (iN (srcs r ss))) (rowsOf (lets q) m))) h
theorem has_knotted (G : Top T C) : Has T 5 "knotted" ["net"] (sp_knotted (C := C)) := by
  refine has_of G.d_knotted sc_knotted hv_knotted (fun ds h Q ⟨_, _, _, _, _, e, _⟩ => by subst e; rfl) (fun _ _ _ _ _ _ us hl => match us, hl with | [_], _ => rfl) fun X c ds h Q ⟨x, qn, m, ss, kn, e, n, ok, hl, hu, q⟩ => ?_
  subst e
  have hrl := rows_len_le ok
  refine lss_cons (ls_set c 1 rfl rfl ((ll_call (res := (rowsOf (lets qn) m).map rowD) c (has_all_ins G) (by decide) (by decide +kernel) (la_cons (lx_name c 0 rfl rfl rfl) la_nil) fun Q q => ⟨x, qn, m, ss, rfl, n, ok, q⟩) _ fun pr hpr => ?_))
  have epr : updD h pr (.lst ((rowsOf (lets qn) m).map rowD)) pr = some (.lst ((rowsOf (lets qn) m).map rowD)) := updD_same
  have sb0 : Sub h (updD h pr (.lst ((rowsOf (lets qn) m).map rowD))) := Sub.new hpr
  generalize updD h pr (.lst ((rowsOf (lets qn) m).map rowD)) = h1 at epr sb0
  refine lss_cons (ls_expr ((lx_call (z := .non) (h2 := h1) c (has_check_outs G) (by decide) (by decide +kernel) (la_cons (lx_name c 0 rfl rfl rfl) la_nil) fun Q q => ⟨x, qn, m, ss, rfl, n.sub sb0, hl, q⟩) _ ?_))
  refine lss_cons (ls_set c 2 rfl rfl (le_dnewT fun pk hpk => ?_))
  refine lss_cons (ls_set c 3 rfl rfl (lx_non _ ?_))
  refine lss_cons (ls_for c (li_list (lx_name c 1 rfl rfl rfl) ((Sub.new hpk) _ _ epr) ⟨fun i ρ hh => ρ = [some (.ref x), some (.ref pr), some (.ref pk), some (bestD (bestR (fun r => kn (iN (srcs r ss))) ((rowsOf (lets qn) m).take i))), none, none] ∧ Sub h1 hh ∧ ∃ W : BW, hh pk = some (.dT (WD W)) ∧ (∀ p ∈ W, p.2 = kn p.1) ∧ W.length ≤ i, ⟨rfl, Sub.new hpk, [], updD_same, (fun p hp => nomatch hp), Nat.le_refl _⟩, fun i ρ hh hP => hP.2.1 _ _ epr, ?_, ?_⟩))
  · rintro i d ρ1 hh hd ⟨rfl, sb, W, eW, hW, hWl⟩
    obtain ⟨r, hr, rfl⟩ := map_get hd
    have hrm := List.mem_of_getElem? hr
    have hi : i < (rowsOf (lets qn) m).length := (List.getElem?_eq_some_iff.mp hr).1
    have hur := hu r hrm
    obtain ⟨k, hkk⟩ : ∃ k, iN (srcs r ss) = k := ⟨_, rfl⟩
    rw [hkk] at hur
    refine ⟨_, lg_name c 4 rfl rfl ?_⟩
    refine lss_cons (ls_set c 5 rfl rfl ((lx_eq (lx_callTyL c (fun p hp => cb_tupL updD_same) (ll_call (res := natsD (srcs r ss)) c (has_sources G) (by decide) (by decide +kernel) (la_cons (lx_name c 0 rfl rfl rfl) (la_cons (lx_name c 4 rfl rfl rfl) la_nil)) fun Q q => ⟨x, qn, m, ss, r, rfl, n.sub (sb0.trans sb), ok, (rows_ok hrm).1, q⟩) (by decide +kernel) G.b_tuple (by decide +kernel)) ((natsD_iN _).trans (show _ = rowT k by rw [hkk, rowT_eq]))) _ ?_))
    have hbs : bestR (fun r => kn (iN (srcs r ss))) ((rowsOf (lets qn) m).take (i + 1)) = bestS (fun _ => kn k) (bestR (fun r => kn (iN (srcs r ss))) ((rowsOf (lets qn) m).take i)) r := by
      rw [← hkk]
      exact bestR_succ hr
    generalize bestR (fun r => kn (iN (srcs r ss))) ((rowsOf (lets qn) m).take i) = bs at hbs
    unfold bestS at hbs
    dsimp only at hbs
    refine lss_cut (fun ρ' h' => ρ' = [some (.ref x), some (.ref pr), some (.ref pk), some (bestD bs), some (rowD r), some (rowT k)] ∧ Sub h1 h' ∧ ∃ W : BW, h' pk = some (.dT (WD W)) ∧ (∀ p ∈ W, p.2 = kn p.1) ∧ W.length ≤ i + 1 ∧ bGet W k = some (kn k)) ?_ ?_
    · refine ls_ifB (lb_dnotin c (lx_name c 5 rfl rfl rfl) (lx_name c 2 rfl rfl rfl) (DGD.ofT (ks := rowK k) eW)) (fun hb => ?_) (fun hb => ?_)
      · rw [valD_WD, Bool.not_eq_true', Option.isSome_map] at hb
        have hb2 : bGet W k = none := by
          cases hz : bGet W k with
          | none => rfl
          | some z => rw [hz] at hb; cases hb
        refine lss_one (ls_dput (v := .int (kn k : Nat)) c (lx_call (z := .int (kn k : Nat)) c (has_unknotted G) (by decide) (by decide +kernel) (la_cons (lx_eq (lx_name c 5 rfl rfl rfl) (rowT_eq k)) la_nil) fun Q q => sp_unk hur q) (lx_name c 2 rfl rfl rfl) (lx_name c 5 rfl rfl rfl) (.inr ⟨_, rowK k, eW, rfl, by unfold WD; rw [List.length_map]; omega, rfl⟩) ?_)
        rw [putD_WD (bGet_none.mp hb2)]
        refine ⟨rfl, sb.put _ hpk, W ++ [(k, kn k)], updD_same, fun p hp => ?_, by rw [List.length_append]; exact Nat.succ_le_succ hWl, ?_⟩
        · rcases List.mem_append.mp hp with z | z
          · exact hW p z
          · rw [List.mem_singleton.mp z]
        · unfold bGet at hb2 ⊢
          rw [List.find?_append, Option.map_eq_none_iff.mp hb2]
          simp
      · rw [valD_WD, Bool.not_eq_false', Option.isSome_map] at hb
        obtain ⟨z, hz⟩ := Option.isSome_iff_exists.mp hb
        refine lss_nil ⟨rfl, sb, W, eW, hW, by omega, ?_⟩
        rw [hz]
        unfold bGet at hz
        obtain ⟨p, hp, rfl⟩ := Option.map_eq_some_iff.mp hz
        have hq := List.find?_some hp
        rw [hW p (List.mem_of_find?_eq_some hp), of_decide_eq_true hq]
    · rintro ρ' h' ⟨rfl, sb', W', eW', hW', hl', hg'⟩
      have gk : DGD h' pk (rowT k) (some (.int (kn k : Nat))) := by
        have := DGD.ofT (ks := rowK k) eW'
        rw [valD_WD, hg'] at this
        exact this
      cases bs with
      | none =>
        refine lss_one (ls_ifB (bb := true || false) (lb_w (lw_or (lb_cmp (lx_name c 3 rfl rfl rfl) lx_non f2_isN) (fun z => nomatch z) (fun _ => rfl))) (fun _ => ?_) (fun z => nomatch z))
        refine lss_one (ls_set c 3 rfl rfl ((lx_tup (la_cons (lx_dget c (lx_name c 2 rfl rfl rfl) (lx_name c 5 rfl rfl rfl) gk) (la_cons (lx_name c 4 rfl rfl rfl) la_nil))) _ ?_))
        refine ⟨_, _, ?_, Sub.refl _, rfl, sb', W', eW', hW', hl'⟩
        rw [hbs]
        walk_at "fy wk"
      | some p =>
        refine lss_one (ls_ifB (bb := false || decide (((p.1 : Nat) : Int) < (kn k : Nat))) (lb_w (lw_or (lb_cmp (lx_name c 3 rfl rfl rfl) lx_non f2_isN) (fun _ => (lw_or1 (lb_cmp (lx_dget c (lx_name c 2 rfl rfl rfl) (lx_name c 5 rfl rfl rfl) gk) (lx_ix (lx_name c 3 rfl rfl rfl) lx_int (ix2_T rfl)) f2_gt))) (fun _ => rfl))) (fun hb => ?_) (fun hb => ?_))
        · rw [Bool.false_or, decide_eq_true_eq] at hb
          dsimp only at hbs
          rw [if_pos (by omega)] at hbs
          refine lss_one (ls_set c 3 rfl rfl ((lx_tup (la_cons (lx_dget c (lx_name c 2 rfl rfl rfl) (lx_name c 5 rfl rfl rfl) gk) (la_cons (lx_name c 4 rfl rfl rfl) la_nil))) _ ?_))
          refine ⟨_, _, ?_, Sub.refl _, rfl, sb', W', eW', hW', hl'⟩
          rw [hbs]
          walk_at "fy wk"
        · rw [Bool.false_or, decide_eq_false_iff_not] at hb
          dsimp only at hbs
          rw [if_neg (by omega)] at hbs
          refine lss_nil ⟨_, _, ?_, Sub.refl _, rfl, sb', W', eW', hW', hl'⟩
          rw [hbs]
          walk_at "fy wk"
  · rintro ρ1 hh ⟨rfl, sb, _⟩
    rw [List.length_map, List.take_length]
    exact lss_one (ls_ret ((lx_name c 3 rfl rfl rfl) _ (Fg.to (sb0.trans sb) q)))
end Fy
end
section
set_option linter.all false
set_option maxRecDepth 100000
set_option maxHeartbeats 4000000
namespace Fy
open PySem PySem.Spec PyProof.Rows L2
local macro_rules | `(tactic| walk_at "fy op") => `(tactic| first
  | exact f2_add | exact f2_sub | exact f2_cat (by first | assumption | omega | (simp only [List.length_append, cutD_len] <;> omega)) | exact f2_and | exact f2_mod (by omega) | exact f2_fdiv ⟨by omega, by omega⟩ | exact f2_mul (by unfold CMul; omega))
local macro_rules | `(tactic| walk_at "fy cmp") => `(tactic| first
  | exact f2_lt | exact f2_le | exact f2_gt | exact f2_ge | exact f2_eqI | exact f2_neI | exact f2_eqS | exact f2_isN | exact f2_notN)
local macro_rules | `(tactic| walk_at "fy ix") => `(tactic| first
  | exact ix2_T (by first | assumption | rfl) | exact ix2_L (by assumption) (by assumption))
local macro_rules | `(tactic| walk_at "fy wk") => `(tactic| repeat' (first | exact Paired.nil | exact True.intro | rfl | apply Paired.cons))
variable {T : Tx} {C : Addr} {X : Cx} {h : HD}
def kT (L : List Nat) : List (Key × D) := L.map fun (s : Nat) => (Sum.inl (s : Int), D.bl true)
def addN (L : List Nat) (s : Nat) : List Nat := if s ∈ L then L else L ++ [s]
theorem kT_len (L : List Nat) : (kT L).length = L.length := List.length_map _
theorem kT_any (L : List Nat) (s : Nat) : ((kT L).any fun kv => decide (kv.1 = (Sum.inl (s : Int) : Key))) = decide (s ∈ L) := by
  unfold kT
  rw [List.any_map]
  induction L with
  | nil => rfl
  | cons x L ih =>
    rw [List.any_cons, ih]
    by_cases hx : x = s
    · subst hx
      simp
    · have : ¬ s = x := fun z => hx z.symm
      simp only [Function.comp_apply, List.mem_cons, this, false_or]
      rw [decide_eq_false (fun z => hx (by injection z with z; omega)), Bool.false_or]
theorem putD_kT (L : List Nat) (s : Nat) : putD (kT L) (Sum.inl (s : Int)) (.bl true) = kT (addN L s) := by
  unfold putD addN
  rw [kT_any]
  by_cases hs : s ∈ L
  · rw [decide_eq_true hs, if_pos rfl, if_pos hs]
    unfold kT
    rw [List.map_map]
    refine List.map_congr_left fun x hx => ?_
    by_cases hx : x = s
    · subst hx
      simp
    · simp
  · rw [decide_eq_false hs, if_neg (by decide), if_neg hs]
    unfold kT
    rw [List.map_append]
    rfl
theorem addN_nodup {L : List Nat} {s : Nat} (h : L.Nodup) : (addN L s).Nodup := by
  unfold addN
  split
  · exact h
  · rename_i hn
    rw [List.nodup_append]
    refine ⟨h, by simp, fun a ha b hb => ?_⟩
    rw [List.mem_singleton.mp hb]
    exact fun z => hn (z ▸ ha)
theorem addN_mem {L : List Nat} {s x : Nat} (h : x ∈ addN L s) : x ∈ L ∨ x = s := by
  unfold addN at h
  split at h
  · exact .inl h
  · rcases List.mem_append.mp h with z | z
    · exact .inl z
    · exact .inr (List.mem_singleton.mp z)
theorem nodup_lt : ∀ (m : Nat) (l : List Nat), l.Nodup → (∀ x ∈ l, x < m) → l.length ≤ m
  | 0, l, _, h => by
    cases l with
    | nil => exact Nat.le_refl _
    | cons x l => exact absurd (h x List.mem_cons_self) (Nat.not_lt_zero _)
  | m + 1, l, nd, h => by
    by_cases hm : m ∈ l
    · have h1 := nodup_lt m (l.erase m) (nd.erase m) fun x hx => by
        have h2 := h x (List.mem_of_mem_erase hx)
        have h3 : x ≠ m := fun z => by
          subst z
          exact (List.Nodup.mem_erase_iff nd).mp hx |>.1 rfl
        omega
      rw [List.length_erase_of_mem hm] at h1
      have := List.length_pos_of_mem hm
      omega
    · have := nodup_lt m l nd fun x hx => by
        have h2 := h x hx
        have h3 : x ≠ m := fun z => hm (z ▸ hx)
        omega
      omega
def colS (ss : List Stp) (rs : List (List Int)) (l : Nat) : List Nat := rs.foldl (fun acc r => addN acc ((srcs r ss).getD l 0)) []
theorem colS_succ {ss : List Stp} {rs : List (List Int)} {i : Nat} {r : List Int} (h : rs[i]? = some r) (l : Nat) : colS ss (rs.take (i + 1)) l = addN (colS ss (rs.take i) l) ((srcs r ss).getD l 0) := by
  unfold colS
  rw [take_snoc h, List.foldl_append]
  rfl
theorem colS_ok {ss : List Stp} {m l : Nat} {rs : List (List Int)} (h : ∀ r ∈ rs, r.length = m ∧ l < (srcs r ss).length) : (colS ss rs l).Nodup ∧ ∀ x ∈ colS ss rs l, x < m := by
  suffices g : ∀ (rs : List (List Int)) (acc : List Nat), (∀ r ∈ rs, r.length = m ∧ l < (srcs r ss).length) → acc.Nodup → (∀ x ∈ acc, x < m) → (rs.foldl (fun acc r => addN acc ((srcs r ss).getD l 0)) acc).Nodup ∧ ∀ x ∈ rs.foldl (fun acc r => addN acc ((srcs r ss).getD l 0)) acc, x < m from g rs [] h List.nodup_nil (fun x hx => nomatch hx)
  intro rs
  induction rs with
  | nil => exact fun acc _ h1 h2 => ⟨h1, h2⟩
  | cons r rs ih =>
    intro acc h h1 h2
    refine ih _ (fun r' hr' => h r' (List.mem_cons_of_mem _ hr')) (addN_nodup h1) fun x hx => ?_
    obtain ⟨h3, h4⟩ := h r List.mem_cons_self
    rcases addN_mem hx with z | z
    · exact h2 x z
    · rw [z, List.getD_eq_getElem?_getD, List.getElem?_eq_getElem h4]
      rw [← h3]
      exact srcs_mem (List.getElem_mem h4)
def srt (L : List Int) : List Int := L.mergeSort (fun a b => decide (a ≤ b))
theorem srt_uniq {a L : List Int} (h : a.Pairwise (· ≤ ·)) (p : a.Perm L) : a = srt L := by
  have h2 : (srt L).Pairwise (· ≤ ·) := by
    have := List.pairwise_mergeSort (le := fun (a b : Int) => decide (a ≤ b)) (fun a b c x y => by
      rw [decide_eq_true_eq] at x y ⊢
      omega) (fun a b => by
      rw [Bool.or_eq_true, decide_eq_true_eq, decide_eq_true_eq]
      omega) L
    exact this.imp fun z => of_decide_eq_true z
  exact List.Perm.eq_of_pairwise (fun x y _ _ z w => Int.le_antisymm z w) h h2 (p.trans (List.mergeSort_perm L _).symm)
structure SrcI (h : HD) (pf : Addr) (ps : List Addr) (S : Nat → List Nat) (hh : HD) : Prop where
  sb : Sub h hh
  f : hh pf = some (.lst (ps.map .ref))
  k : ∀ (l : Nat) a, ps[l]? = some a → hh a = some (.dK (kT (S l)))
theorem SrcI.congr {h : HD} {pf : Addr} {ps : List Addr} {S S' : Nat → List Nat} {hh : HD} (I : SrcI h pf ps S hh) (e : ∀ l, l < ps.length → S l = S' l) : SrcI h pf ps S' hh :=
  ⟨I.sb, I.f, fun l a ha => by rw [← e l (List.getElem?_eq_some_iff.mp ha).1]; exact I.k l a ha⟩
theorem SrcI.put {h : HD} {pf : Addr} {ps : List Addr} {S : Nat → List Nat} {hh : HD} (I : SrcI h pf ps S hh) (nd : ps.Nodup) (a0 : ∀ a ∈ ps, h a = none) {l : Nat} {a : Addr} (ha : ps[l]? = some a) (s : Nat) : SrcI h pf ps (fun l' => if l' = l then addN (S l) s else S l') (updD hh a (.dK (kT (addN (S l) s)))) := by
  have hk := I.k l a ha
  refine ⟨I.sb.put _ (a0 a (List.mem_of_getElem? ha)), ?_, fun l' b hb => ?_⟩
  · rw [updD_ne (neD I.f hk (fun z => nomatch z))]
    exact I.f
  · by_cases hl : l' = l
    · subst hl
      rw [ha] at hb
      cases hb
      rw [if_pos rfl]
      exact updD_same
    · have hab : b ≠ a := fun z => by
        subst z
        obtain ⟨x1, y1⟩ := List.getElem?_eq_some_iff.mp ha
        obtain ⟨x2, y2⟩ := List.getElem?_eq_some_iff.mp hb
        exact hl ((List.getElem_inj nd).mp (y2.trans y1.symm))
      show updD _ _ _ _ = _
      rw [if_neg hl, updD_ne hab]
      exact I.k l' b hb
def colsD (ss : List Stp) (rs : List (List Int)) (n : Nat) : List D := (List.range n).map fun l => rowD (srt (iN (colS ss rs l)))
def sp_sources_of : FS := fun ds h Q => ∃ (x : Addr) (q m : Nat) (ss : List Stp), ds = [.ref x] ∧ NetAt C h x q m ss ∧ NetOk q m ss ∧ ∀ p, h p = none → Q (.ref p) (updD h p (.lst (colsD ss (rowsOf (lets q) m) (lanesB m ss))))
theorem has_sources_of (G : Top T C) : Has T 5 "sources_of" ["net"] (sp_sources_of (C := C)) := by
  refine has_of G.d_sources_of sc_sources_of hv_sources_of (fun ds h Q ⟨_, _, _, _, e, _⟩ => by subst e; rfl) (fun _ _ _ _ _ _ us hl => match us, hl with | [_], _ => rfl) fun X c ds h Q ⟨x, qn, m, ss, e, n, ok, q⟩ => ?_
  subst e
  obtain ⟨oth, e1⟩ := n.fld
  have hm9 := ok.m9
  have hrl := rows_len_le ok
  have hln := lanes_le ok.can ok.m1 (by omega : m ≤ 1000)
  have hsl : ∀ r ∈ rowsOf (lets qn) m, (srcs r ss).length = lanesB m ss := fun r hr => by
    have h1 := (rows_ok hr).1
    have h2 := srcs_len (row := r) (ss := ss) (q := qn) (by rw [h1]; exact ok.can)
    rw [h1] at h2
    exact h2
  refine lss_cons (ls_setLcF 1 c (own := [("_", 5)]) (by decide +kernel) rfl (by decide +kernel) rfl rfl (by decide +kernel) (li_range1 c (lx_fld c (lx_name c 0 rfl rfl rfl) e1 G.cl G.n_kept_outs rfl) (by decide +kernel) G.b_range ⟨by omega, by omega⟩ fun pf hpf => ⟨fun i acc hh => ∃ ps : List Addr, acc = ps.map .ref ∧ ps.length = i ∧ ps.Nodup ∧ (∀ a ∈ ps, h a = none) ∧ SrcI h pf ps (fun _ => []) hh, ⟨[], rfl, rfl, List.nodup_nil, (fun a ha => nomatch ha), Sub.new hpf, updD_same, fun l a ha => nomatch ha⟩, fun i acc hh hP => ?_, fun i d acc hh hd hP => ?_, fun acc hh hP => ?_⟩))
  · obtain ⟨ps, rfl, _, _, _, I⟩ := hP
    exact ⟨I.f, trivial⟩
  · obtain ⟨ps, rfl, hl, nd, a0, I⟩ := hP
    rw [Int.toNat_natCast] at hd
    have hi : i < lanesB m ss := by
      have := (List.getElem?_eq_some_iff.mp hd).1
      rwa [rngD_len] at this
    rw [rngD_get hi] at hd
    cases hd
    refine ⟨[5], [some (.ref x), none, none, none, none, some (.int (0 + (i : Nat))), none], by simp, fun X' b => lg_name (blk_ctx c b rfl rfl) 5 rfl rfl rfl, fun X' b => lif_nil ⟨fun _ X' b' => le_dnewK fun a ha => ?_, fun z => nomatch z⟩⟩
    have hne : pf ≠ a := neN I.f ha
    have ha0 : h a = none := by
      cases hz : h a with
      | none => rfl
      | some o => rw [I.sb _ _ hz] at ha; cases ha
    have hna : a ∉ ps := fun hm => by
      obtain ⟨l, hl', rfl⟩ := List.getElem_of_mem hm
      have := I.k l _ (List.getElem?_eq_getElem hl')
      rw [ha] at this
      cases this
    refine ⟨by rw [List.length_map]; omega, by rw [updD_ne hne]; exact I.f, Fg.of ⟨ps ++ [a], by rw [List.map_append]; rfl, by rw [List.length_append, hl]; rfl, ?_, ?_, ?_⟩⟩
    · rw [List.nodup_append]
      exact ⟨nd, by simp, fun b hb b' hb' => by rw [List.mem_singleton.mp hb']; exact fun z => hna (z ▸ hb)⟩
    · intro b hb
      rcases List.mem_append.mp hb with z | z
      · exact a0 b z
      · rw [List.mem_singleton.mp z]
        exact ha0
    · refine ⟨(I.sb.put _ ha0).put _ hpf, by rw [updD_same, List.map_append]; rfl, fun l b hb => ?_⟩
      have hbp : b ≠ pf := by
        rcases Nat.lt_or_ge l ps.length with z | z
        · rw [List.getElem?_append_left z] at hb
          exact neD (I.k l b hb) I.f (fun z => nomatch z)
        · rw [List.getElem?_append_right z] at hb
          have := List.mem_of_getElem? hb
          rw [List.mem_singleton.mp this]
          exact hne.symm
      rw [updD_ne hbp]
      rcases Nat.lt_or_ge l ps.length with z | z
      · rw [List.getElem?_append_left z] at hb
        rw [updD_ne (neN (I.k l b hb) ha)]
        exact I.k l b hb
      · rw [List.getElem?_append_right z] at hb
        have := List.mem_of_getElem? hb
        rw [List.mem_singleton.mp this]
        exact updD_same
  obtain ⟨ps, rfl, hl, nd, a0, I0⟩ := hP
  rw [rngD_len, Int.toNat_natCast] at hl
  refine Fg.of ?_
  have hf0 : h pf = none := hpf
  refine lss_cons (ls_for c (li_ll (ll_call (res := (rowsOf (lets qn) m).map rowD) c (has_all_ins G) (by decide) (by decide +kernel) (la_cons (lx_name c 0 rfl rfl rfl) la_nil) fun Q q => ⟨x, qn, m, ss, rfl, n.sub I0.sb, ok, q⟩) fun pr hpr => ⟨fun i ρ hh' => ρ = [some (.ref x), some (.ref pf), none, none, none, none, none] ∧ SrcI (updD h pr (.lst ((rowsOf (lets qn) m).map rowD))) pf ps (colS ss ((rowsOf (lets qn) m).take i)) hh', ⟨rfl, ?_⟩, fun i ρ hh' hP => hP.2.sb _ _ updD_same, ?_, ?_⟩))
  · refine ⟨I0.sb.upd _ _, by rw [updD_ne (neN I0.f hpr)]; exact I0.f, fun l a ha => ?_⟩
    rw [updD_ne (neN (I0.k l a ha) hpr)]
    exact I0.k l a ha
  · rintro i d ρ1 hh1 hd ⟨rfl, I⟩
    obtain ⟨r, hr, rfl⟩ := map_get hd
    have hrm := List.mem_of_getElem? hr
    have hr1 := (rows_ok hrm).1
    have hr0 : h pr = none := by
      cases hz : h pr with
      | none => rfl
      | some o => rw [I0.sb _ _ hz] at hpr; cases hpr
    have hap : ∀ a ∈ ps, updD h pr (.lst ((rowsOf (lets qn) m).map rowD)) a = none := fun a ha => by
      obtain ⟨l, hl', rfl⟩ := List.getElem_of_mem ha
      rw [updD_ne (neN (I0.k l _ (List.getElem?_eq_getElem hl')) hpr)]
      exact a0 _ ha
    have nn : NetAt C hh1 x qn m ss := n.sub ((Sub.new hr0).trans I.sb)
    have hSl := hsl r hrm
    have hcl : ∀ l, l < lanesB m ss → (colS ss ((rowsOf (lets qn) m).take i) l).length ≤ 12 := fun l hl2 => by
      obtain ⟨h1, h2⟩ := colS_ok (ss := ss) (m := m) (l := l) (rs := (rowsOf (lets qn) m).take i) fun r' hr' => ⟨(rows_ok (List.mem_of_mem_take hr')).1, by rw [hsl r' (List.mem_of_mem_take hr')]; exact hl2⟩
      exact Nat.le_trans (nodup_lt m _ h1 h2) hm9
    refine ⟨_, lg_name c 2 rfl rfl ?_⟩
    refine lss_one (ls_for c (li_enumLL (ds := natsD (srcs r ss)) c (ll_call (res := natsD (srcs r ss)) c (has_sources G) (by decide) (by decide +kernel) (la_cons (lx_name c 0 rfl rfl rfl) (la_cons (lx_name c 2 rfl rfl rfl) la_nil)) fun Q q => ⟨x, qn, m, ss, r, rfl, nn, ok, hr1, q⟩) (by decide +kernel) G.b_enumerate fun pz hpz => ⟨fun j ρ hh' => ρ = [some (.ref x), some (.ref pf), some (rowD r), none, none, none, none] ∧ hh' pz = some (.lst (natsD (srcs r ss))) ∧ SrcI (updD h pr (.lst ((rowsOf (lets qn) m).map rowD))) pf ps (fun l => if l < j then addN (colS ss ((rowsOf (lets qn) m).take i) l) ((srcs r ss).getD l 0) else colS ss ((rowsOf (lets qn) m).take i) l) hh', ⟨rfl, updD_same, ?_⟩, fun j ρ hh' hP => hP.2.1, ?_, ?_⟩))
    · refine ⟨I.sb.trans (Sub.new hpz), by rw [updD_ne (neN I.f hpz)]; exact I.f, fun l a ha => ?_⟩
      show updD _ _ _ _ = _
      rw [updD_ne (neN (I.k l a ha) hpz), if_neg (Nat.not_lt_zero _)]
      exact I.k l a ha
    · rintro j d ρ1 hh2 hd ⟨rfl, ez, J⟩
      rw [enD_get] at hd
      have hj : j < lanesB m ss := by
        rcases Nat.lt_or_ge j (srcs r ss).length with z | z
        · omega
        · rw [List.getElem?_eq_none (by rw [natsD_len]; exact z)] at hd
          cases hd
      have hjs : (srcs r ss)[j]? = some ((srcs r ss).getD j 0) := by
        rw [List.getD_eq_getElem?_getD, List.getElem?_eq_getElem (by omega)]
        rfl
      rw [natsD_get hjs] at hd
      cases hd
      obtain ⟨a, ha⟩ : ∃ a, ps[j]? = some a := ⟨_, List.getElem?_eq_getElem (by omega)⟩
      have hk := J.k j a ha
      have J2 := J.put nd hap ha ((srcs r ss).getD j 0)
      rw [if_neg (Nat.lt_irrefl _)] at hk
      generalize hsv : (srcs r ss).getD j 0 = sv at hjs J2
      refine ⟨_, lg_tup c (lgs_cons (lg_name c 3 rfl rfl (lgs_cons (lg_name c 4 rfl rfl (lgs_nil ?_))))) rfl⟩
      refine lss_one (ls_dput (v := .bl true) c lx_bl (lx_ix (lx_name c 1 rfl rfl rfl) (lx_name c 3 rfl rfl rfl) (ix2_L (z := .ref a) J.f (atI_nat' (by omega) (by rw [Int.toNat_natCast, List.getElem?_map, ha]; rfl)))) (lx_name c 4 rfl rfl rfl) (.inl ⟨_, .inl (sv : Int), hk, rfl, by rw [kT_len]; have := hcl j hj; omega, rfl⟩) ?_)
      rw [putD_kT]
      rw [if_neg (Nat.lt_irrefl _)] at J2
      refine ⟨_, _, ?_, Sub.refl _, rfl, ?_, J2.congr fun l hl3 => ?_⟩
      · walk_at "fy wk"
      · rw [updD_ne (neD ez hk (fun z => nomatch z))]
        exact ez
      · by_cases hlj : l = j
        · subst hlj
          rw [if_pos rfl, if_pos (Nat.lt_succ_self _), hsv]
        · rw [if_neg hlj]
          by_cases h5 : l < j
          · rw [if_pos h5, if_pos (by omega)]
          · rw [if_neg h5, if_neg (by omega)]
    · rintro ρ1 hh2 ⟨rfl, ez, J⟩
      rw [enD_len, natsD_len, hSl] at J
      refine ⟨_, _, ?_, Sub.refl _, rfl, J.congr fun l hl3 => ?_⟩
      · walk_at "fy wk"
      · rw [if_pos (by omega), colS_succ hr]
  · rintro ρ1 hh1 ⟨rfl, I⟩
    rw [List.length_map, List.take_length] at I
    have hr0 : h pr = none := by
      cases hz : h pr with
      | none => rfl
      | some o => rw [I0.sb _ _ hz] at hpr; cases hpr
    have hcl : ∀ l, l < lanesB m ss → (colS ss (rowsOf (lets qn) m) l).length ≤ 12 := fun l hl2 => by
      obtain ⟨h1, h2⟩ := colS_ok (ss := ss) (m := m) (l := l) (rs := rowsOf (lets qn) m) fun r' hr' => ⟨(rows_ok hr').1, by rw [hsl r' hr']; exact hl2⟩
      exact Nat.le_trans (nodup_lt m _ h1 h2) hm9
    refine lss_one (ls_ret ((ll_comp c (own := [("lanes", 6)]) (rs := colsD ss (rowsOf (lets qn) m) (lanesB m ss)) (ds := ps.map .ref) (by decide +kernel) (is := [6]) (by simp) (fun d => [some (.ref x), some (.ref pf), none, none, none, none, some d]) (fun R kk => li_list (lx_name c 1 rfl rfl rfl) I.f (kk _ _ (Sub.refl _) fun p3 acc hp3 => by rw [updD_ne (neN I.f hp3)]; exact I.f)) ?_ ?_ (fun i d hd X' b => lg_name (blk_ctx c b rfl rfl) 6 rfl rfl rfl) (fun i d d' hh hd hd' sb' X' b => ?_)) _ fun p hp => ?_))
    · unfold colsD
      rw [List.length_map, List.length_map, List.length_range, hl]
    · rw [List.length_map]
      omega
    · obtain ⟨a, ha, rfl⟩ := map_get hd
      unfold colsD at hd'
      obtain ⟨l, hl4, rfl⟩ := map_get hd'
      have hil : i < lanesB m ss := by
        have := (List.getElem?_eq_some_iff.mp ha).1
        omega
      rw [List.getElem?_range hil] at hl4
      cases hl4
      have hk := sb' _ _ (I.k i a ha)
      exact lx_callTyL (blk_ctx c b rfl rfl) (fun p hp => cb_tupL updD_same) (ll_sortedD (ns := iN (colS ss (rowsOf (lets qn) m) i)) (blk_ctx c b rfl rfl) (lx_name (blk_ctx c b rfl rfl) 6 rfl rfl rfl) hk (by unfold kT iN; rw [List.map_map, List.map_map]; rfl) (by unfold iN; rw [List.length_map]; have := hcl i hil; omega) (fun ns' h1 h2 => by rw [srt_uniq h1 h2]) (by decide +kernel) G.b_sorted) (by decide +kernel) G.b_tuple (by decide +kernel)
    · have hp0 : h p = none := by
        cases hz : h p with
        | none => rfl
        | some o => rw [I.sb _ _ ((Sub.new hr0) _ _ hz)] at hp; cases hp
      exact Fg.to (((Sub.new hr0).trans I.sb).upd p _) (q p hp0)
end Fy
end
section
set_option linter.all false
set_option maxRecDepth 100000
set_option maxHeartbeats 4000000
namespace Fy
open PySem PySem.Spec PyProof.Rows L2
local macro_rules | `(tactic| walk_at "fy op") => `(tactic| first
  | exact f2_add | exact f2_sub | exact f2_cat (by first | assumption | omega | (simp only [List.length_append, cutD_len] <;> omega)) | exact f2_and | exact f2_mod (by omega) | exact f2_fdiv ⟨by omega, by omega⟩ | exact f2_mul (by unfold CMul; omega))
local macro_rules | `(tactic| walk_at "fy cmp") => `(tactic| first
  | exact f2_lt | exact f2_le | exact f2_gt | exact f2_ge | exact f2_eqI | exact f2_neI | exact f2_eqS | exact f2_isN | exact f2_notN)
local macro_rules | `(tactic| walk_at "fy ix") => `(tactic| first
  | exact ix2_T (by first | assumption | rfl) | exact ix2_L (by assumption) (by assumption))
local macro_rules | `(tactic| walk_at "fy wk") => `(tactic| repeat' (first | exact Paired.nil | exact True.intro | rfl | apply Paired.cons))
variable {T : Tx} {C : Addr} {X : Cx} {h : HD}
theorem needL_head {q m : Nat} {ss : List Stp} {i : Nat} {r : List Nat} (h : needL q m ss = i :: r) : i < ss.length ∧ cans q m (ss.eraseIdx i) = true ∧ ∀ r ∈ rowsOf (lets q) m, outOf r ss = outOf r (ss.eraseIdx i) := by
  have hm : i ∈ needL q m ss := by rw [h]; exact List.mem_cons_self
  unfold needL at hm
  obtain ⟨h1, h2⟩ := List.mem_filter.mp hm
  unfold needB at h2
  rw [Bool.and_eq_true] at h2
  exact ⟨List.mem_range.mp h1, h2.1, fun r hr => of_decide_eq_true (List.all_eq_true.mp h2.2 r hr)⟩
def sp_tidied : FS := fun ds h Q => ∃ (x : Addr) (q m : Nat) (ss : List Stp), ds = [.ref x] ∧ NetAt C h x q m ss ∧ NetOk q m ss ∧
  ∀ y h' ss', Sub h h' → NetAt C h' y q m ss' → NetOk q m ss' → ss'.length ≤ ss.length → (∀ r ∈ rowsOf (lets q) m, outOf r ss = outOf r ss') → needL q m ss' = [] → Q (.ref y) h'
theorem has_tidied (G : Top T C) : Has T 13 "tidied" ["net"] (sp_tidied (C := C)) := by
  refine has_of G.d_tidied sc_tidied hv_tidied (fun ds h Q ⟨_, _, _, _, e, _⟩ => by subst e; rfl) (fun _ _ _ _ _ _ us hl => match us, hl with | [_], _ => rfl) fun X c ds h Q ⟨x, qn, m, ss, e, n, ok, q⟩ => ?_
  subst e
  refine lss_cons (ls_set c 1 rfl rfl ((lx_call (z := .tup (natsD (needL qn m ss))) c (has_needless G) (by decide) (by decide +kernel) (la_cons (lx_name c 0 rfl rfl rfl) la_nil) fun Q q => ⟨x, qn, m, ss, rfl, n, ok, q⟩) _ ?_))
  refine lss_cons (ls_while c (fun k ρ hh => ∃ y ss', ρ = [some (.ref y), some (.tup (natsD (needL qn m ss')))] ∧ Sub h hh ∧ NetAt C hh y qn m ss' ∧ NetOk qn m ss' ∧ ss'.length = k ∧ k ≤ ss.length ∧ ∀ r ∈ rowsOf (lets qn) m, outOf r ss = outOf r ss') ss.length ⟨x, ss, rfl, Sub.refl _, n, ok, rfl, Nat.le_refl _, fun _ _ => rfl⟩ fun k ρ1 hh hP => ?_)
  obtain ⟨y, ss', rfl, sb, n', ok', rfl, hk, hal⟩ := hP
  refine (lb_cmp (lx_callB c cb_lenT (la_cons (lx_name c 1 rfl rfl rfl) la_nil) (by decide +kernel) G.b_len (by decide +kernel)) lx_int f2_gt) _ ⟨fun hb => ?_, fun hb => ?_⟩
  · rw [decide_eq_true_eq, natsD_len] at hb
    obtain ⟨i, rest, hnl⟩ : ∃ i rest, needL qn m ss' = i :: rest := by
      cases hz : needL qn m ss' with
      | nil => rw [hz] at hb; exact absurd hb (by decide)
      | cons i rest => exact ⟨i, rest, rfl⟩
    obtain ⟨hi, hc, hr⟩ := needL_head hnl
    have hlen : (ss'.eraseIdx i).length = ss'.length - 1 := List.length_eraseIdx_of_lt hi
    refine lss_cons (ls_set c 0 rfl rfl (le_call c (has_without_of G) (by decide) (by decide +kernel) ((la_cons (lx_name c 0 rfl rfl rfl) (la_cons (lx_ix (lx_name c 1 rfl rfl rfl) lx_int (ix2_T (z := .int (i : Nat)) (by rw [hnl]; exact at0))) la_nil)) _ ⟨y, qn, m, ss', i, rfl, n', ok', hi, fun _ y2 h2 s2 n2 => ?_, fun hf => ?_⟩)))
    · refine lss_one (ls_set c 1 rfl rfl ((lx_call (z := .tup (natsD (needL qn m (ss'.eraseIdx i)))) c (has_needless G) (by decide) (by decide +kernel) (la_cons (lx_name c 0 rfl rfl rfl) la_nil) fun Q q => ⟨y2, qn, m, _, rfl, n2, ok'.erase hc, q⟩) _ ?_))
      refine ⟨_, _, ?_, Sub.refl _, (ss'.eraseIdx i).length, by omega, y2, _, rfl, sb.trans s2, n2, ok'.erase hc, rfl, by omega, fun r hr' => (hal r hr').trans (hr r hr')⟩
      walk_at "fy wk"
    · rw [hc] at hf
      cases hf
  · rw [decide_eq_false_iff_not, natsD_len] at hb
    refine lss_one (ls_ret ((lx_name c 0 rfl rfl rfl) _ (Fg.of (q y hh ss' sb n' ok' hk hal ?_))))
    exact List.length_eq_zero_iff.mp (by omega)
def undB : Stp → Stp → Bool
  | .dbl k, .strk j => decide ((j : Int) = (k : Nat)) || decide ((j : Int) = ((k : Nat) : Int) + 1)
  | _, _ => false
def Stp.word : Stp → Str
  | .dbl _ => "double"
  | .strk _ => "strike"
  | .fly _ _ _ => "fly"
  | .cho _ _ _ _ _ => "choose"
theorem str_ne {x y : Str} (h : decide (x = y) = false) : ¬ x = y := of_decide_eq_false h
theorem at_word (s : Stp) : ∃ ds, stepD s = .tup ds ∧ atI ds 0 = some (.str s.word) := by
  cases s <;> exact ⟨_, rfl, rfl⟩
theorem lx_word {X : Cx} {ρ : Rho} {a : Expr} {s : Stp} {pos p2 : Pos} {kk : Nat} (ha : LX X a ρ h (stepD s) h) : LX X (.Subscript a (.Constant (.int 0) kk p2) pos) ρ h (.str s.word) h := by
  obtain ⟨ds, e, h0⟩ := at_word s
  rw [e] at ha
  exact lx_ix ha lx_int (ix2_T h0)
def sp_undoes : FS := fun ds h Q => ∃ s t : Stp, ds = [stepD s, stepD t] ∧ Q (.bl (undB s t)) h
theorem has_undoes (G : Top T C) : Has T 1 "undoes" ["step", "later"] sp_undoes := by
  refine has_of G.d_undoes sc_undoes hv_undoes (fun ds h Q ⟨_, _, e, _⟩ => by subst e; rfl) (fun _ _ _ _ _ _ us hl => match us, hl with | [_, _], _ => rfl) fun X c ds h Q ⟨s, t, e, q⟩ => ?_
  subst e
  cases s with
  | dbl k =>
    cases t with
    | strk j =>
      exact lss_one (ls_ret ((lx_and (b1 := true) (lx_eq (lx_cmp (lx_word (s := .dbl k) (lx_name c 0 rfl rfl rfl)) lx_str f2_eqS) (congrArg D.bl (decide_eq_true rfl))) (fun _ => lx_and (b1 := true) (lx_eq (lx_cmp (lx_word (s := .strk j) (lx_name c 1 rfl rfl rfl)) lx_str f2_eqS) (congrArg D.bl (decide_eq_true rfl))) (fun _ => lx_one (lx_cmp (lx_ix (lx_name c 1 rfl rfl rfl) lx_int (ix2_T (z := .int (j : Nat)) rfl)) (lx_tup (la_cons (lx_ix (lx_name c 0 rfl rfl rfl) lx_int (ix2_T (z := .int (k : Nat)) rfl)) (la_cons (lx_bin (lx_ix (lx_name c 0 rfl rfl rfl) lx_int (ix2_T (z := .int (k : Nat)) rfl)) lx_int f2_add) la_nil))) f2_inT2)) (fun z => nomatch z)) (fun z => nomatch z)) _ (Fg.of q)))
    | dbl j => exact lss_one (ls_ret ((lx_and (b1 := true) (lx_eq (lx_cmp (lx_word (s := .dbl k) (lx_name c 0 rfl rfl rfl)) lx_str f2_eqS) (congrArg D.bl (decide_eq_true rfl))) (fun _ => lx_and (b1 := false) (b2 := false) (lx_eq (lx_cmp (lx_word (s := .dbl j) (lx_name c 1 rfl rfl rfl)) lx_str f2_eqS) (congrArg D.bl (decide_eq_false (str_ne (x := "double") (y := "strike") (by decide +kernel))))) (fun z => nomatch z) (fun _ => rfl)) (fun z => nomatch z)) _ (Fg.of q)))
    | fly a b d => exact lss_one (ls_ret ((lx_and (b1 := true) (lx_eq (lx_cmp (lx_word (s := .dbl k) (lx_name c 0 rfl rfl rfl)) lx_str f2_eqS) (congrArg D.bl (decide_eq_true rfl))) (fun _ => lx_and (b1 := false) (b2 := false) (lx_eq (lx_cmp (lx_word (s := .fly a b d) (lx_name c 1 rfl rfl rfl)) lx_str f2_eqS) (congrArg D.bl (decide_eq_false (str_ne (x := "fly") (y := "strike") (by decide +kernel))))) (fun z => nomatch z) (fun _ => rfl)) (fun z => nomatch z)) _ (Fg.of q)))
    | cho a b d key o => exact lss_one (ls_ret ((lx_and (b1 := true) (lx_eq (lx_cmp (lx_word (s := .dbl k) (lx_name c 0 rfl rfl rfl)) lx_str f2_eqS) (congrArg D.bl (decide_eq_true rfl))) (fun _ => lx_and (b1 := false) (b2 := false) (lx_eq (lx_cmp (lx_word (s := .cho a b d key o) (lx_name c 1 rfl rfl rfl)) lx_str f2_eqS) (congrArg D.bl (decide_eq_false (str_ne (x := "choose") (y := "strike") (by decide +kernel))))) (fun z => nomatch z) (fun _ => rfl)) (fun z => nomatch z)) _ (Fg.of q)))
  | strk k => exact lss_one (ls_ret ((lx_and (b1 := false) (b2 := false) (lx_eq (lx_cmp (lx_word (s := .strk k) (lx_name c 0 rfl rfl rfl)) lx_str f2_eqS) (congrArg D.bl (decide_eq_false (str_ne (x := "strike") (y := "double") (by decide +kernel))))) (fun z => nomatch z) (fun _ => rfl)) _ (Fg.of q)))
  | fly a b d => exact lss_one (ls_ret ((lx_and (b1 := false) (b2 := false) (lx_eq (lx_cmp (lx_word (s := .fly a b d) (lx_name c 0 rfl rfl rfl)) lx_str f2_eqS) (congrArg D.bl (decide_eq_false (str_ne (x := "fly") (y := "double") (by decide +kernel))))) (fun z => nomatch z) (fun _ => rfl)) _ (Fg.of q)))
  | cho a b d key o => exact lss_one (ls_ret ((lx_and (b1 := false) (b2 := false) (lx_eq (lx_cmp (lx_word (s := .cho a b d key o) (lx_name c 0 rfl rfl rfl)) lx_str f2_eqS) (congrArg D.bl (decide_eq_false (str_ne (x := "choose") (y := "double") (by decide +kernel))))) (fun z => nomatch z) (fun _ => rfl)) _ (Fg.of q)))
def undAt (ss : List Stp) (i : Nat) : Bool := match ss[i]?, ss[i + 1]? with
  | some s, some t => undB s t
  | _, _ => false
def firstU (ss : List Stp) : Option Nat := (List.range (ss.length - 1)).find? (undAt ss)
theorem find_range {p : Nat → Bool} : ∀ {n i : Nat}, i < n → p i = true → (∀ j, j < i → p j = false) → (List.range n).find? p = some i := by
  intro n i hi hp hn
  rw [List.find?_eq_some_iff_append]
  refine ⟨hp, List.range i, (List.range (n - i - 1)).map (i + 1 + ·), ?_, fun j hj => by rw [hn j (List.mem_range.mp hj)]; rfl⟩
  refine List.ext_getElem (by simp; omega) fun k h1 h2 => ?_
  rw [List.getElem_range]
  rcases Nat.lt_trichotomy k i with z | z | z
  · rw [List.getElem_append_left (by simpa using z), List.getElem_range]
  · subst z
    rw [List.getElem_append_right (by simp)]
    simp
  · rw [List.getElem_append_right (by simp; omega)]
    obtain ⟨d, rfl⟩ : ∃ d, k = i + 1 + d := ⟨k - i - 1, by omega⟩
    simp only [List.length_range]
    rw [List.getElem_cons, dif_neg (by omega), List.getElem_map, List.getElem_range]
    omega
theorem find_range_none {p : Nat → Bool} {n : Nat} (hn : ∀ j, j < n → p j = false) : (List.range n).find? p = none := by
  rw [List.find?_eq_none]
  intro j hj
  rw [hn j (List.mem_range.mp hj)]
  exact Bool.false_ne_true
def sp_first_undone : FS := fun ds h Q => ∃ ss : List Stp, ds = [.tup (ss.map stepD)] ∧ Q (onatD (firstU ss)) h
theorem has_first_undone (G : Top T C) : Has T 2 "first_undone" ["steps"] sp_first_undone := by
  refine has_of G.d_first_undone sc_first_undone hv_first_undone (fun ds h Q ⟨_, e, _⟩ => by subst e; rfl) (fun _ _ _ _ _ _ us hl => match us, hl with | [_], _ => rfl) fun X c ds h Q ⟨ss, e, q⟩ => ?_
  subst e
  have hzl : (enD (zipD (ss.map stepD) ((ss.map stepD).drop 1))).length = ss.length - 1 := by
    rw [enD_len, zipD_len, List.length_drop, List.length_map]
    omega
  refine lss_cons (ls_for c (li_ez c (lx_name c 0 rfl rfl rfl) (lx_cutT (lx_name c 0 rfl rfl rfl) (lo_some lx_int) lo_none) (by decide +kernel) G.b_zip (by decide +kernel) G.b_enumerate ?_))
  rw [cutD_tail]
  refine ⟨fun i ρ hh => ρ = [some (.tup (ss.map stepD)), none, none, none] ∧ hh = h ∧ ∀ j, j < i → undAt ss j = false, ⟨rfl, rfl, fun j hj => absurd hj (Nat.not_lt_zero _)⟩, fun _ _ _ _ => trivial, ?_, ?_⟩
  · rintro i d ρ1 hh hd ⟨rfl, rfl, hno⟩
    have hi : i < ss.length - 1 := by
      have := (List.getElem?_eq_some_iff.mp hd).1
      rwa [hzl] at this
    obtain ⟨s, hs⟩ : ∃ s, ss[i]? = some s := ⟨_, List.getElem?_eq_getElem (by omega)⟩
    obtain ⟨t, ht⟩ : ∃ t, ss[i + 1]? = some t := ⟨_, List.getElem?_eq_getElem (by omega)⟩
    rw [enD_get, zipD_get (d := stepD s) (e := stepD t) (by rw [List.getElem?_map, hs]; rfl) (by rw [List.getElem?_drop, Nat.add_comm, List.getElem?_map, ht]; rfl)] at hd
    cases hd
    have hu : undAt ss i = undB s t := by
      unfold undAt
      rw [hs, ht]
    refine ⟨_, lg_tup c (lgs_cons (lg_name c 1 rfl rfl (lgs_cons (lg_tup c (lgs_cons (lg_name c 2 rfl rfl (lgs_cons (lg_name c 3 rfl rfl (lgs_nil (lgs_nil ?_)))))) rfl)))) rfl⟩
    refine lss_one (ls_ifB (bb := undB s t) (lb_val (lx_call (z := .bl (undB s t)) c (has_undoes G) (by decide) (by decide +kernel) (la_cons (lx_name c 2 rfl rfl rfl) (la_cons (lx_name c 3 rfl rfl rfl) la_nil)) fun Q q => ⟨s, t, rfl, q⟩)) (fun hb => ?_) (fun hb => ?_))
    · refine lss_one (ls_ret ((lx_name c 1 rfl rfl rfl) _ (Fg.of ?_)))
      have : firstU ss = some i := find_range hi (hu.trans hb) hno
      rw [this] at q
      exact q
    · refine lss_nil ⟨_, _, ?_, Sub.refl _, rfl, rfl, fun j hj => ?_⟩
      · walk_at "fy wk"
      · rcases Nat.lt_or_ge j i with z | z
        · exact hno j z
        · have : j = i := by omega
          subst this
          exact hu.trans hb
  · rintro ρ1 hh ⟨rfl, rfl, hno⟩
    rw [hzl] at hno
    refine lss_one (ls_ret (lx_non _ (Fg.of ?_)))
    have : firstU ss = none := find_range_none hno
    rw [this] at q
    exact q
def shorts : Nat → List Stp → List Stp
  | 0, ss => ss
  | f + 1, ss => match firstU ss with
    | none => ss
    | some i => shorts f (ss.take i ++ ss.drop (i + 2))
theorem shorts_none {f : Nat} {ss : List Stp} (h : firstU ss = none) : shorts f ss = ss := by
  cases f with
  | zero => rfl
  | succ f => rw [shorts, h]
theorem firstU_lt {ss : List Stp} {i : Nat} (h : firstU ss = some i) : i + 1 < ss.length := by
  have := List.mem_range.mp (List.mem_of_find?_eq_some h)
  omega
def sp_shortened : FS := fun ds h Q => ∃ (x : Addr) (q m : Nat) (ss : List Stp), ds = [.ref x] ∧ NetAt C h x q m ss ∧ ss.length ≤ 1000 ∧ NetOk q m (shorts ss.length ss) ∧ ∀ y h', Sub h h' → NetAt C h' y q m (shorts ss.length ss) → Q (.ref y) h'
theorem has_shortened (G : Top T C) : Has T 10 "shortened" ["net"] (sp_shortened (C := C)) := by
  refine has_of G.d_shortened sc_shortened hv_shortened (fun ds h Q ⟨_, _, _, _, e, _⟩ => by subst e; rfl) (fun _ _ _ _ _ _ us hl => match us, hl with | [_], _ => rfl) fun X c ds h Q ⟨x, qn, m, ss, e, n, hl, ok, q⟩ => ?_
  subst e
  obtain ⟨oth, e1⟩ := n.fld
  have hm9 := ok.m9
  have hln := ok.len
  refine lss_cons (ls_set c 1 rfl rfl ((lx_fld c (lx_name c 0 rfl rfl rfl) e1 G.cl G.n_kept_steps rfl) _ ?_))
  refine lss_cons (ls_set c 2 rfl rfl ((lx_call (z := onatD (firstU ss)) c (has_first_undone G) (by decide) (by decide +kernel) (la_cons (lx_name c 1 rfl rfl rfl) la_nil) fun Q q => ⟨ss, rfl, q⟩) _ ?_))
  refine lss_cons (ls_while c (fun k ρ hh => ∃ ss', ρ = [some (.ref x), some (.tup (ss'.map stepD)), some (onatD (firstU ss'))] ∧ hh = h ∧ shorts k ss' = shorts ss.length ss ∧ ss'.length ≤ k ∧ ss'.length ≤ 1000) ss.length ⟨ss, rfl, rfl, rfl, Nat.le_refl _, hl⟩ fun k ρ1 hh hP => ?_)
  obtain ⟨ss', rfl, rfl, hsh, hk, hk2⟩ := hP
  cases hf : firstU ss' with
  | some i =>
    have hi := firstU_lt hf
    refine (lb_eq (lb_cmp (lx_name c 2 rfl rfl rfl) lx_non f2_notN) (show _ = true from rfl)) _ ⟨fun _ => ?_, fun z => nomatch z⟩
    obtain ⟨k, rfl⟩ : ∃ k', k = k' + 1 := ⟨k - 1, by omega⟩
    have hlen : (ss'.take i ++ ss'.drop (i + 2)).length = ss'.length - 2 := by
      rw [List.length_append, List.length_take, List.length_drop]
      omega
    rw [shorts, hf] at hsh
    dsimp only at hsh
    have es : cutD (ss'.map stepD) none (some (i : Nat)) ++ cutD (ss'.map stepD) (some ((i + 2 : Nat) : Int)) none = (ss'.take i ++ ss'.drop (i + 2)).map stepD := by
      rw [cutD_to, cutD_from, List.map_append, List.map_take, List.map_drop]
    generalize hzz : ss'.take i ++ ss'.drop (i + 2) = zz at hlen hsh es
    refine lss_cons (ls_set c 1 rfl rfl ((lx_eq (lx_bin (lx_cutT (lx_name c 1 rfl rfl rfl) lo_none (lo_some (lx_name c 2 rfl rfl rfl))) (lx_cutT (lx_name c 1 rfl rfl rfl) (lo_some (lx_eq (lx_bin (lx_name c 2 rfl rfl rfl) lx_int f2_add) (show D.int ((i : Int) + 2) = .int ((i + 2 : Nat)) by rw [Int.natCast_add]; rfl))) lo_none) (f2_cat ?_)) (congrArg D.tup es)) _ ?_))
    · rw [cutD_to, cutD_from, List.length_take, List.length_drop, List.length_map]
      omega
    refine lss_one (ls_set c 2 rfl rfl ((lx_call (z := onatD (firstU zz)) c (has_first_undone G) (by decide) (by decide +kernel) (la_cons (lx_name c 1 rfl rfl rfl) la_nil) fun Q q => ⟨zz, rfl, q⟩) _ ?_))
    refine ⟨_, _, ?_, Sub.refl _, k, Nat.lt_succ_self _, zz, rfl, rfl, hsh, by omega, by omega⟩
    walk_at "fy wk"
  | none =>
    rw [shorts_none hf] at hsh
    subst hsh
    refine (lb_eq (lb_cmp (lx_name c 2 rfl rfl rfl) lx_non f2_notN) (show _ = false from rfl)) _ ⟨(fun z => nomatch z), fun _ => ?_⟩
    refine lss_one (ls_ret (le_make c (has_init G) (by decide) (by decide +kernel) G.mgC ((la_cons (lx_fld c (lx_name c 0 rfl rfl rfl) e1 G.cl G.n_kept_letters rfl) (la_cons (lx_fld c (lx_name c 0 rfl rfl rfl) e1 G.cl G.n_kept_lanes rfl) (la_cons (lx_name c 1 rfl rfl rfl) la_nil))) _ fun x hx => ⟨_, x, qn, m, _, _, rfl, hx, rfl, .inl rfl, ok.q1, ok.q4, ok.m1, by omega, ok.can, ok.sm, hln, fun h' sb n => ⟨rfl, Fg.of (q x h' sb n)⟩⟩)))
end Fy
end
section
set_option linter.all false
set_option maxRecDepth 100000
set_option maxHeartbeats 4000000
namespace Fy
open PySem PySem.Spec PyProof.Rows L2
local macro_rules | `(tactic| walk_at "fy op") => `(tactic| first
  | exact f2_add | exact f2_sub | exact f2_cat (by first | assumption | omega | (simp only [List.length_append, cutD_len] <;> omega)) | exact f2_and | exact f2_mod (by omega) | exact f2_fdiv ⟨by omega, by omega⟩ | exact f2_mul (by unfold CMul; omega))
local macro_rules | `(tactic| walk_at "fy cmp") => `(tactic| first
  | exact f2_lt | exact f2_le | exact f2_gt | exact f2_ge | exact f2_eqI | exact f2_neI | exact f2_eqS | exact f2_isN | exact f2_notN)
local macro_rules | `(tactic| walk_at "fy ix") => `(tactic| first
  | exact ix2_T (by first | assumption | rfl) | exact ix2_L (by assumption) (by assumption))
local macro_rules | `(tactic| walk_at "fy wk") => `(tactic| repeat' (first | exact Paired.nil | exact True.intro | rfl | apply Paired.cons))
variable {T : Tx} {C : Addr} {X : Cx} {h : HD}
def cntW (w : Str) (ss : List Stp) : Int := ((ss.countP fun s => decide (s.word = w)) : Nat)
def kindsD (ss : List Stp) : List (Key × D) := [(.inr "choose", .int (cntW "choose" ss)), (.inr "double", .int (cntW "double" ss)), (.inr "fly", .int (cntW "fly" ss)), (.inr "strike", .int (cntW "strike" ss))]
theorem cntW_snoc (w : Str) (ss : List Stp) (s : Stp) : cntW w (ss ++ [s]) = cntW w ss + (if s.word = w then 1 else 0) := by
  unfold cntW
  rw [List.countP_append, List.countP_singleton]
  by_cases hw : s.word = w
  · rw [decide_eq_true hw, if_pos rfl, if_pos hw]
    rfl
  · rw [decide_eq_false hw, if_neg (by decide), if_neg hw]
    rfl
theorem kinds_get (ss : List Stp) (s : Stp) : valD (kindsD ss) (.inr s.word) = some (.int (cntW s.word ss)) := by
  cases s <;> rfl
theorem wne : ¬ ("choose" : Str) = "double" ∧ ¬ ("choose" : Str) = "fly" ∧ ¬ ("choose" : Str) = "strike" ∧ ¬ ("double" : Str) = "choose" ∧ ¬ ("double" : Str) = "fly" ∧ ¬ ("double" : Str) = "strike" ∧ ¬ ("fly" : Str) = "choose" ∧ ¬ ("fly" : Str) = "double" ∧ ¬ ("fly" : Str) = "strike" ∧ ¬ ("strike" : Str) = "choose" ∧ ¬ ("strike" : Str) = "double" ∧ ¬ ("strike" : Str) = "fly" := by
  refine ⟨?_, ?_, ?_, ?_, ?_, ?_, ?_, ?_, ?_, ?_, ?_, ?_⟩ <;> exact str_ne (by decide +kernel)
theorem kinds_put (ss : List Stp) (s : Stp) : putD (kindsD ss) (.inr s.word) (.int (cntW s.word ss + 1)) = kindsD (ss ++ [s]) := by
  unfold kindsD
  simp only [cntW_snoc]
  obtain ⟨a1, a2, a3, a4, a5, a6, a7, a8, a9, b1, b2, b3⟩ := wne
  cases s <;> simp [putD, Stp.word, a1, a2, a3, a4, a5, a6, a7, a8, a9, b1, b2, b3]
theorem kinds_new : mergeD [] (kindsD []) = kindsD [] := rfl
theorem kinds_len (ss : List Stp) : (kindsD ss).length < 100000 := show 4 < 100000 by decide
def sp_kinds_of : FS := fun ds h Q => ∃ (x : Addr) (q m : Nat) (ss : List Stp), ds = [.ref x] ∧ NetAt C h x q m ss ∧ ∀ p, h p = none → Q (.ref p) (updD h p (.dK (kindsD ss)))
section
variable {k : Nat} {N : List Str} {sc : Scope} {vt st : List Bool} {ρ : Rho} {E : EndsD}
/-! a dict display under a name: so that nobody unfolds what it does -/
theorem lss_hide {s : Stmt} {rest : List Stmt} (hh : ∀ s', s' = s → LS X s' ρ h { E with nx := fun ρ' h' => LSs X rest ρ' h' E }) : LSs X (s :: rest) ρ h E := lss_cons (hh s rfl)
theorem ls_setH {s' : Stmt} {nm : Str} {pos pos' : Pos} {e : Expr} (e1 : s' = .Assign [.Name nm pos'] e pos) (c : Ctx X T k N sc vt st) (i : Nat) (hi : N[i]? = some nm) (hl : st[i]? = some true) (he : ∀ e', e' = e → LE X e' ρ h fun d h' => E.nx (ρ.set i (some d)) h') (hs : swapsWith e (some (.Name nm pos')) pos.line X.env = pure false := by rfl) : LS X s' ρ h E := by
  subst e1
  exact ls_set c i hi hl (he e rfl) hs
theorem le_dispG {e' : Expr} {pos : Pos} {keys : List (Option Expr)} {values : List Expr} {kds : List (Key × D)} {Q : D → HD → Prop} (e1 : e' = .Dict keys values pos) (hp : LPs X pos keys values ρ kds) (hall : keys.all (·.isSome) = true) (hl : keys.length = values.length) (h0 : keys ≠ []) (h15 : keys.length ≤ 15) (hk : kds.length ≤ 15)
    (q : ∀ p, h p = none → Q (.ref p) (updD h p (.dK (mergeD [] kds)))) : LE X e' ρ h Q := by
  subst e1
  exact le_disp hp hall hl h0 h15 hk q
theorem lx_dgetG {e' a b e : Expr} {pos apos : Pos} {x : D} {r : Option D} {kds : List (Key × D)} {ky : Key} (e1 : e' = .Call (.Attribute a "get" apos) [b, e] [] pos) (c : Ctx X T k N sc vt st) (ha : ∀ a', a' = a → ∀ Q : D → HD → Prop, (∀ p, h p = none → Q (.ref p) (updD h p (.dK kds))) → LE X a' ρ h Q) (hb : ∀ hh, Sub h hh → LX X b ρ hh (kd ky) hh) (he : ∀ hh, LX X e ρ hh x hh) (hr : valD kds ky = r) (m : M2 X a "get" apos b e pos) : LX X e' ρ h (r.getD x) h := by
  subst e1
  exact lx_dgetN c (fun Q q => ha a rfl Q q) hb he hr m
end
theorem has_kinds_of (G : Top T C) : Has T 1 "kinds_of" ["net"] (sp_kinds_of (C := C)) := by
  refine has_of G.d_kinds_of sc_kinds_of hv_kinds_of (fun ds h Q ⟨_, _, _, _, e, _⟩ => by subst e; rfl) (fun _ _ _ _ _ _ us hl => match us, hl with | [_], _ => rfl) fun X c ds h Q ⟨x, qn, m, ss, e, n, q⟩ => ?_
  subst e
  obtain ⟨oth, e1⟩ := n.fld
  refine lss_hide ?_
  intro s' hs'
  refine ls_setH hs' c 1 rfl rfl (fun e' he' => le_dispG (kds := kindsD []) he' (lps_cons (fun hh => lx_int) (lps_cons (fun hh => lx_int) (lps_cons (fun hh => lx_int) (lps_cons (fun hh => lx_int) lps_nil)))) rfl rfl (fun z => nomatch z) (show 4 ≤ 15 by decide) (show 4 ≤ 15 by decide) fun p hp => ?_)
  rw [kinds_new]
  refine lss_cons (ls_for c (li_tup (lx_fld c (lx_name c 0 rfl rfl rfl) ((Sub.new hp) _ _ e1) G.cl G.n_kept_steps rfl) ⟨fun i ρ hh => ρ = [some (.ref x), some (.ref p), none] ∧ hh = updD h p (.dK (kindsD (ss.take i))), ⟨rfl, rfl⟩, fun _ _ _ _ => trivial, ?_, ?_⟩))
  · rintro i d ρ1 hh hd ⟨rfl, rfl⟩
    obtain ⟨s, hs, rfl⟩ := map_get hd
    have ek : updD h p (.dK (kindsD (ss.take i))) p = some (.dK (kindsD (ss.take i))) := updD_same
    refine ⟨_, lg_name c 2 rfl rfl ?_⟩
    refine lss_one (ls_daug (i := cntW s.word (ss.take i)) (j := 1) (y := .str s.word) c (lx_name c 1 rfl rfl rfl) (lx_word (lx_name c 2 rfl rfl rfl)) ?_ lx_int (.inl ⟨_, .inr s.word, ek, rfl, kinds_len _, rfl⟩) ?_)
    · have := DGD.ofK (k := .inr s.word) ek
      rw [kinds_get] at this
      exact this
    · rw [kinds_put, updD_updD, ← take_snoc hs]
      refine ⟨_, _, ?_, Sub.refl _, rfl, rfl⟩
      walk_at "fy wk"
  · rintro ρ1 hh ⟨rfl, rfl⟩
    rw [List.length_map, List.take_length]
    exact lss_one (ls_ret ((lx_name c 1 rfl rfl rfl) _ (Fg.of (q p hp))))
def sp_widest : FS := fun ds h Q => ∃ (x : Addr) (q m : Nat) (ss : List Stp) (mx : Int) (j : Nat), ds = [.ref x] ∧ NetAt C h x q m ss ∧ NetOk q m ss ∧ (iN (behind m ss))[j]? = some mx ∧ (∀ y ∈ iN (behind m ss), y ≤ mx) ∧ (∀ i, i < j → (iN (behind m ss))[i]? ≠ some mx) ∧ Q (.tup [.int mx, .int j]) h
theorem has_widest (G : Top T C) : Has T 8 "widest" ["net"] (sp_widest (C := C)) := by
  refine has_of G.d_widest sc_widest hv_widest (fun ds h Q ⟨_, _, _, _, _, _, e, _⟩ => by subst e; rfl) (fun _ _ _ _ _ _ us hl => match us, hl with | [_], _ => rfl) fun X c ds h Q ⟨x, qn, m, ss, mx, j, e, n, ok, hj, hmx, hno, q⟩ => ?_
  subst e
  refine lss_cons (ls_set c 1 rfl rfl ((ll_call (res := natsD (behind m ss)) c (has_lanes_behind G) (by decide) (by decide +kernel) (la_cons (lx_name c 0 rfl rfl rfl) la_nil) fun Q q => ⟨x, qn, m, ss, rfl, n, ok, q⟩) _ fun p hp => ?_))
  have ep : updD h p (.lst (natsD (behind m ss))) p = some (.lst ((iN (behind m ss)).map D.int)) := by rw [updD_same, natsD_ints]; rfl
  have hmem := List.mem_of_getElem? hj
  refine lss_one (ls_ret ((lx_tup (la_cons (lx_callB c (cb_maxL c ep (List.length_pos_of_mem hmem) hmem hmx) (la_cons (lx_name c 1 rfl rfl rfl) la_nil) (by decide +kernel) G.b_max (by decide +kernel)) (la_cons (lx_index (lx_name c 1 rfl rfl rfl) ep (lx_callB c (cb_maxL c ep (List.length_pos_of_mem hmem) hmem hmx) (la_cons (lx_name c 1 rfl rfl rfl) la_nil) (by decide +kernel) G.b_max (by decide +kernel)) ep hj hno) la_nil))) _ (Fg.to (Sub.new hp) q)))
def flyF (ss : List Stp) (j : Nat) : Option D := match ss[j]? with
  | some (.fly a b c) => some (.tup [.int (j : Nat), .int ((b : Int) - a), .int ((c : Int) - b)])
  | _ => none
def flyD (ss : List Stp) (n : Nat) : List D := (List.range n).filterMap (flyF ss)
theorem flyD_succ (ss : List Stp) (n : Nat) : flyD ss (n + 1) = flyD ss n ++ (flyF ss n).toList := by
  unfold flyD
  rw [List.range_succ, List.filterMap_append]
  cases hz : flyF ss n with
  | none => rw [List.filterMap_cons_none hz]; rfl
  | some d => rw [List.filterMap_cons_some hz]; rfl
theorem flyD_len (ss : List Stp) (n : Nat) : (flyD ss n).length ≤ n := by
  have := List.length_filterMap_le (flyF ss) (List.range n)
  rwa [List.length_range] at this
def sp_flights : FS := fun ds h Q => ∃ (x : Addr) (q m : Nat) (ss : List Stp), ds = [.ref x] ∧ NetAt C h x q m ss ∧ ss.length ≤ 1000 ∧ ∀ p, h p = none → Q (.ref p) (updD h p (.lst (flyD ss ss.length)))
theorem has_flights (G : Top T C) : Has T 1 "flights" ["net"] (sp_flights (C := C)) := by
  refine has_of G.d_flights sc_flights hv_flights (fun ds h Q ⟨_, _, _, _, e, _⟩ => by subst e; rfl) (fun _ _ _ _ _ _ us hl => match us, hl with | [_], _ => rfl) fun X c ds h Q ⟨x, qn, m, ss, e, n, hl, q⟩ => ?_
  subst e
  obtain ⟨oth, e1⟩ := n.fld
  refine lss_cons (ls_set c 1 rfl rfl ((ll_disp la_nil) _ fun p hp => ?_))
  refine lss_cons (ls_for c (li_enumT c (lx_fld c (lx_name c 0 rfl rfl rfl) ((Sub.new hp) _ _ e1) G.cl G.n_kept_steps rfl) (by decide +kernel) G.b_enumerate ⟨fun i ρ hh => ρ = [some (.ref x), some (.ref p), none, none] ∧ hh = updD h p (.lst (flyD ss i)), ⟨rfl, rfl⟩, fun _ _ _ _ => trivial, ?_, ?_⟩))
  · rintro i d ρ1 hh hd ⟨rfl, rfl⟩
    rw [enD_get] at hd
    obtain ⟨s', hs', rfl⟩ := Option.map_eq_some_iff.mp hd
    obtain ⟨s, hs, rfl⟩ := map_get hs'
    have hi : i < ss.length := (List.getElem?_eq_some_iff.mp hs).1
    have ep : updD h p (.lst (flyD ss i)) p = some (.lst (flyD ss i)) := updD_same
    have stay : (∀ a b c, s ≠ .fly a b c) → flyD ss (i + 1) = flyD ss i := fun hn => by
      rw [flyD_succ]
      have : flyF ss i = none := by
        unfold flyF
        rw [hs]
        cases s with
        | fly a b c => exact absurd rfl (hn a b c)
        | dbl _ => rfl
        | strk _ => rfl
        | cho _ _ _ _ _ => rfl
      rw [this]
      exact List.append_nil _
    refine ⟨_, lg_tup c (lgs_cons (lg_name c 2 rfl rfl (lgs_cons (lg_name c 3 rfl rfl (lgs_nil ?_))))) rfl⟩
    refine lss_one (ls_ifB (bb := decide (s.word = "fly")) (lb_cmp (lx_word (s := s) (lx_name c 3 rfl rfl rfl)) lx_str f2_eqS) (fun hb => ?_) (fun hb => ?_))
    · cases s with
      | fly a b d =>
        refine lss_one (ls_append (lx_name c 1 rfl rfl rfl) ep ((lx_tup (la_cons (lx_name c 2 rfl rfl rfl) (la_cons (lx_bin (lx_ix (lx_name c 3 rfl rfl rfl) lx_int (ix2_T (z := .int (b : Nat)) rfl)) (lx_ix (lx_name c 3 rfl rfl rfl) lx_int (ix2_T (z := .int (a : Nat)) rfl)) f2_sub) (la_cons (lx_bin (lx_ix (lx_name c 3 rfl rfl rfl) lx_int (ix2_T (z := .int (d : Nat)) rfl)) (lx_ix (lx_name c 3 rfl rfl rfl) lx_int (ix2_T (z := .int (b : Nat)) rfl)) f2_sub) la_nil)))) _ ⟨_, ep, ?_, ?_⟩))
        · have := flyD_len ss i
          omega
        · refine ⟨_, _, ?_, Sub.refl _, rfl, ?_⟩
          · walk_at "fy wk"
          · rw [updD_updD, flyD_succ]
            have : flyF ss i = some (.tup [.int (i : Nat), .int ((b : Int) - a), .int ((d : Int) - b)]) := by
              unfold flyF
              rw [hs]
            rw [this]
            rfl
      | dbl _ => exact absurd (of_decide_eq_true hb) (str_ne (x := "double") (y := "fly") (by decide +kernel))
      | strk _ => exact absurd (of_decide_eq_true hb) (str_ne (x := "strike") (y := "fly") (by decide +kernel))
      | cho _ _ _ _ _ => exact absurd (of_decide_eq_true hb) (str_ne (x := "choose") (y := "fly") (by decide +kernel))
    · refine lss_nil ⟨_, _, ?_, Sub.refl _, rfl, by rw [stay fun a b c z => by subst z; exact absurd rfl (of_decide_eq_false hb)]⟩
      walk_at "fy wk"
  · rintro ρ1 hh ⟨rfl, rfl⟩
    rw [enD_len, List.length_map]
    exact lss_one (ls_ret ((lx_name c 1 rfl rfl rfl) _ (Fg.of (q p hp))))
end Fy
end
section
set_option linter.all false
set_option maxRecDepth 100000
set_option maxHeartbeats 4000000
namespace Fy
open PySem PySem.Spec PyProof.Rows L2
local macro_rules | `(tactic| walk_at "fy op") => `(tactic| first
  | exact f2_add | exact f2_sub | exact f2_cat (by first | assumption | omega | (simp only [List.length_append, cutD_len] <;> omega)) | exact f2_and | exact f2_mod (by omega) | exact f2_fdiv ⟨by omega, by omega⟩ | exact f2_mul (by unfold CMul; omega))
local macro_rules | `(tactic| walk_at "fy cmp") => `(tactic| first
  | exact f2_lt | exact f2_le | exact f2_gt | exact f2_ge | exact f2_eqI | exact f2_neI | exact f2_eqS | exact f2_isN | exact f2_notN)
local macro_rules | `(tactic| walk_at "fy ix") => `(tactic| first
  | exact ix2_T (by first | assumption | rfl) | exact ix2_L (by assumption) (by assumption))
local macro_rules | `(tactic| walk_at "fy wk") => `(tactic| repeat' (first | exact Paired.nil | exact True.intro | rfl | apply Paired.cons))
variable {T : Tx} {C : Addr} {X : Cx} {h : HD}
def unD : D → Int
  | .int i => i
  | _ => 0
def unrow : D → List Int
  | .tup ds => ds.map unD
  | _ => []
theorem unrow_row (r : List Int) : unrow (rowD r) = r := by
  show (r.map D.int).map unD = r
  rw [List.map_map]
  exact List.map_id _
theorem filter_rows (p : List Int → Bool) (rs : List (List Int)) : ((rs.map rowD).filter fun d => p (unrow d)) = (rs.filter p).map rowD := by
  rw [List.filter_map]
  congr 2
  funext r
  exact congrArg p (unrow_row r)
theorem ll_eq {X : Cx} {e : Expr} {ρ : Rho} {a b : List D} (l : LL X e ρ h a) (e1 : a = b) : LL X e ρ h b := e1 ▸ l
theorem onl_non (w : Option (List Nat)) : (!(onlD w).isNon) = w.isSome := by
  cases w <;> rfl
structure FarAt (row ls : List Int) (n : Nat) (dst : List Int → Nat) (mx : Nat) (best : List Int) : Prop where
  l63 : row.length < 63
  asc : ls.Pairwise (· < ·)
  mem : ∀ k, k ∈ ls ↔ k ∈ row
  n12 : n ≤ 12
  l1 : 1 ≤ ls.length
  l64 : ls.length ≤ 64
  pw : ls.length ^ n ≤ 4096
  nd : (rowsOf ls n).Nodup
  bf : ∃ K, (∀ j, j ≤ K → (bfs (exs n) (zs ((rowsOf ls n).filter (thin row))) j).length ≤ 40000) ∧ (∀ j, j < K → j < (bfs (exs n) (zs ((rowsOf ls n).filter (thin row))) j).length) ∧ (bfs (exs n) (zs ((rowsOf ls n).filter (thin row))) K).length ≤ K ∧
    (∀ o ∈ rowsOf ls n, bGet (bfs (exs n) (zs ((rowsOf ls n).filter (thin row))) K) o = some (dst o)) ∧ mx ∈ (bfs (exs n) (zs ((rowsOf ls n).filter (thin row))) K).map (·.2) ∧ ∀ p ∈ bfs (exs n) (zs ((rowsOf ls n).filter (thin row))) K, p.2 ≤ mx
  bst : ∃ rs, (rowsOf ls n).filter (fun o => decide (((dst o : Nat) : Int) = (mx : Nat))) = best :: rs ∧ minR best rs = best
def sp_farthest_from : FS := fun ds h Q => ∃ (row ls : List Int) (n : Nat) (dst : List Int → Nat) (mx : Nat) (best : List Int), ds = [rowD row, .int n] ∧ FarAt row ls n dst mx best ∧ Q (.tup [.int (mx : Nat), rowD best]) h
theorem has_farthest_from (G : Top T C) : Has T 3 "farthest_from" ["row", "outs"] sp_farthest_from := by
  refine has_of G.d_farthest_from sc_farthest_from hv_farthest_from (fun ds h Q ⟨_, _, _, _, _, _, e, _⟩ => by subst e; rfl) (fun _ _ _ _ _ _ us hl => match us, hl with | [_, _], _ => rfl) fun X c ds h Q ⟨row, ls, n, dst, mx, best, e, F, q⟩ => ?_
  subst e
  have hl63 := F.l63
  have hn12 := F.n12
  have hrl : (rowsOf ls n).length ≤ 4096 := by rw [rowsOf_len]; exact F.pw
  obtain ⟨K, b1, b2, b3, b4, b5, b6⟩ := F.bf
  obtain ⟨rs, hrs, hmin⟩ := F.bst
  refine lss_cons (ls_set c 2 rfl rfl ((ll_call (res := (rowsOf ls n).map rowD) c (has_outs_of G) (by decide) (by decide +kernel) (la_cons (lx_name c 0 rfl rfl rfl) (la_cons (lx_name c 1 rfl rfl rfl) la_nil)) fun Q q => ⟨row, ls, n, rfl, F.l63, F.asc, F.mem, F.n12, F.l1, F.l64, F.pw, q⟩) _ fun pe hpe => ?_))
  have epe : updD h pe (.lst ((rowsOf ls n).map rowD)) pe = some (.lst ((rowsOf ls n).map rowD)) := updD_same
  have sb0 : Sub h (updD h pe (.lst ((rowsOf ls n).map rowD))) := Sub.new hpe
  generalize updD h pe (.lst ((rowsOf ls n).map rowD)) = h1 at epe sb0
  refine lss_cons (ls_set c 3 rfl rfl (le_call c (has_spread_from G) (by decide) (by decide +kernel) (la_consE ((ll_compIf c (own := [("out", 5)]) (ds := (rowsOf ls n).map rowD) (by decide +kernel) (is := [5]) (by simp) (fun d => [some (rowD row), some (.int n), some (.ref pe), none, none, some d]) (fun d => thin row (unrow d)) (fun d => d) (fun R kk => li_list (lx_name c 2 rfl rfl rfl) epe (kk _ _ (Sub.refl _) fun p3 acc hp3 => by rw [updD_ne (neN epe hp3)]; exact epe)) (by rw [List.length_map]; omega) (fun i d hd X' b => lg_name (blk_ctx c b rfl rfl) 5 rfl rfl rfl) (fun i d hh hd sb X' b => ?_) (fun i d hh hd ht sb X' b => lx_name (blk_ctx c b rfl rfl) 5 rfl rfl rfl)) _ fun ps hps => ?_))))
  · obtain ⟨o, ho, rfl⟩ := map_get hd
    have hol := (rowsOf_row _ _ _ (List.mem_of_getElem? ho)).1
    rw [unrow_row]
    exact lb_eq (lb_cmp (lx_call (z := onlD (wayOf row o 0)) (blk_ctx c b rfl rfl) (has_way_of G) (by decide) (by decide +kernel) (la_cons (lx_name (blk_ctx c b rfl rfl) 0 rfl rfl rfl) (la_cons (lx_name (blk_ctx c b rfl rfl) 5 rfl rfl rfl) la_nil)) fun Q q => ⟨row, o, rfl, by omega, by omega, q⟩) lx_non f2_notN) (onl_non _)
  rw [List.map_id', filter_rows]
  have sb1 : Sub h1 (updD h1 ps (.lst (((rowsOf ls n).filter (thin row)).map rowD))) := Sub.new hps
  have eps : updD h1 ps (.lst (((rowsOf ls n).filter (thin row)).map rowD)) ps = some (.lst (((rowsOf ls n).filter (thin row)).map rowD)) := updD_same
  generalize updD h1 ps (.lst (((rowsOf ls n).filter (thin row)).map rowD)) = h2 at sb1 eps
  refine (la_cons (lx_name c 1 rfl rfl rfl) la_nil) _ ?_
  refine ⟨ps, (rowsOf ls n).filter (thin row), n, K, rfl, eps, fun r hr => (rowsOf_row _ _ _ (List.mem_filter.mp hr).1).1, F.nd.filter _, by omega, b1, b2, b3, fun pf hpf => ?_⟩
  generalize bfs (exs n) (zs ((rowsOf ls n).filter (thin row))) K = W at b3 b4 b5 b6
  have epe2 : updD h2 pf (.dT (WD W)) pe = some (.lst ((rowsOf ls n).map rowD)) := (Sub.new hpf) _ _ (sb1 _ _ epe)
  have epf : updD h2 pf (.dT (WD W)) pf = some (.dT (WD W)) := updD_same
  have sb2 : Sub h (updD h2 pf (.dT (WD W))) := (sb0.trans sb1).trans (Sub.new hpf)
  generalize updD h2 pf (.dT (WD W)) = h3 at epe2 epf sb2
  refine lss_cons (ls_set c 4 rfl rfl ((lx_maxV (ns := W.map fun p => ((p.2 : Nat) : Int)) (m := (mx : Nat)) c (lx_name c 3 rfl rfl rfl) epf (by unfold WD; rw [List.map_map, List.map_map]; rfl) ?_ ?_ (by decide +kernel) G.b_max) _ ?_))
  · obtain ⟨p, hp, rfl⟩ := List.mem_map.mp b5
    exact List.mem_map.mpr ⟨p, hp, rfl⟩
  · intro y hy
    obtain ⟨p, hp, rfl⟩ := List.mem_map.mp hy
    have := b6 p hp
    omega
  refine lss_one (ls_ret ((lx_tup (la_cons (lx_name c 4 rfl rfl rfl) (la_cons (lx_callBL c (fun p hp => cb_minRows c (r := best) (rs := rs) updD_same) (ll_eq (ll_compIf c (own := [("out", 5)]) (ds := (rowsOf ls n).map rowD) (by decide +kernel) (is := [5]) (by simp) (fun d => [some (rowD row), some (.int n), some (.ref pe), some (.ref pf), some (.int (mx : Nat)), some d]) (fun d => decide (((dst (unrow d) : Nat) : Int) = (mx : Nat))) (fun d => d) (fun R kk => li_list (lx_name c 2 rfl rfl rfl) epe2 (kk _ _ (Sub.refl _) fun p3 acc hp3 => by rw [updD_ne (neN epe2 hp3)]; exact epe2)) (by rw [List.length_map]; omega) (fun i d hd X' b => lg_name (blk_ctx c b rfl rfl) 5 rfl rfl rfl) (fun i d hh hd sb X' b => ?_) (fun i d hh hd ht sb X' b => lx_name (blk_ctx c b rfl rfl) 5 rfl rfl rfl)) ?_) (by decide +kernel) G.b_min (by decide +kernel)) la_nil))) _ (Fg.to sb2 ?_)))
  · obtain ⟨o, ho, rfl⟩ := map_get hd
    have hom := List.mem_of_getElem? ho
    rw [unrow_row]
    have gk : DGD hh pf (rowT o) (some (.int (dst o : Nat))) := by
      have := DGD.ofT (ks := rowK o) (sb _ _ epf)
      rw [valD_WD, b4 o hom] at this
      exact this
    exact lb_cmp (lx_dget (blk_ctx c b rfl rfl) (lx_name (blk_ctx c b rfl rfl) 3 rfl rfl rfl) (lx_eq (lx_name (blk_ctx c b rfl rfl) 5 rfl rfl rfl) (rowT_eq o).symm) gk) (lx_name (blk_ctx c b rfl rfl) 4 rfl rfl rfl) f2_eqI
  · rw [List.map_id', filter_rows (fun o => decide (((dst o : Nat) : Int) = (mx : Nat))), hrs]
    rfl
  · rw [hmin]
    exact q
def farS (mx : List Int → Nat) (bo : List Int → List Int) (b : Option (Nat × List Int × List Int)) (r : List Int) : Option (Nat × List Int × List Int) := match b with
  | none => some (mx r, r, bo r)
  | some p => if p.1 < mx r then some (mx r, r, bo r) else some p
def farR (mx : List Int → Nat) (bo : List Int → List Int) (rs : List (List Int)) : Option (Nat × List Int × List Int) := rs.foldl (farS mx bo) none
theorem farR_succ {mx : List Int → Nat} {bo : List Int → List Int} {rs : List (List Int)} {i : Nat} {r : List Int} (h : rs[i]? = some r) : farR mx bo (rs.take (i + 1)) = farS mx bo (farR mx bo (rs.take i)) r := by
  unfold farR
  rw [take_snoc h, List.foldl_append]
  rfl
def farD : Option (Nat × List Int × List Int) → D
  | none => .non
  | some p => .tup [.int (p.1 : Nat), rowD p.2.1, rowD p.2.2]
def sp_farthest : FS := fun ds h Q => ∃ (q n o : Nat) (mx : List Int → Nat) (bo : List Int → List Int), ds = [.int q, .int n, .int o] ∧ 1 ≤ q ∧ q ≤ 4 ∧ 1 ≤ n ∧ n ≤ 6 ∧ 1 ≤ o ∧ o ≤ 6 ∧ q ^ (max n o) ≤ 256 ∧
  (∀ r ∈ rowsOf (lets q) n, ∃ ls dst, FarAt r ls o dst (mx r) (bo r)) ∧ Q (farD (farR mx bo (rowsOf (lets q) n))) h
theorem has_farthest (G : Top T C) : Has T 4 "farthest" ["letters", "lanes", "outs"] sp_farthest := by
  refine has_of G.d_farthest sc_farthest hv_farthest (fun ds h Q ⟨_, _, _, _, _, e, _⟩ => by subst e; rfl) (fun _ _ _ _ _ _ us hl => match us, hl with | [_, _, _], _ => rfl) fun X c ds h Q ⟨qn, n, o, mx, bo, e, q1, q4, n1, n6, o1, o6, hp, hF, q⟩ => ?_
  subst e
  refine lss_cons (ls_expr ((lx_call (z := .non) (h2 := h) c (has_check_number G) (by decide) (by decide +kernel) (la_cons (lx_name c 0 rfl rfl rfl) (la_cons lx_int (la_cons (lx_con c (by decide +kernel) G.MOST_LETTERS_knots) la_nil))) fun Q q => ⟨(qn : Nat), 1, 4, rfl, by omega, by omega, q⟩) _ ?_))
  refine lss_cons (ls_expr ((lx_call (z := .non) (h2 := h) c (has_check_number G) (by decide) (by decide +kernel) (la_cons (lx_name c 1 rfl rfl rfl) (la_cons lx_int (la_cons (lx_con c (by decide +kernel) G.MOST_FAR) la_nil))) fun Q q => ⟨(n : Nat), 1, 6, rfl, by omega, by omega, q⟩) _ ?_))
  refine lss_cons (ls_expr ((lx_call (z := .non) (h2 := h) c (has_check_number G) (by decide) (by decide +kernel) (la_cons (lx_name c 2 rfl rfl rfl) (la_cons lx_int (la_cons (lx_con c (by decide +kernel) G.MOST_FAR) la_nil))) fun Q q => ⟨(o : Nat), 1, 6, rfl, by omega, by omega, q⟩) _ ?_))
  have hmx : (if ((o : Nat) : Int) > (n : Nat) then ((o : Nat) : Int) else (n : Nat)) = ((max n o : Nat) : Int) := by
    split <;> omega
  have hpi : ((qn : Int) ^ (max n o)) ≤ 256 := by
    rw [← Int.natCast_pow]
    omega
  refine lss_cons (ls_ifB (bb := false) (lb_eq (lb_cmp (lx_call (z := .int ((qn : Int) ^ (max n o))) c (has_power_of G) (by decide) (by decide +kernel) (la_cons (lx_name c 0 rfl rfl rfl) (la_cons (lx_eq (lx_callB c (cb_max2 c) (la_cons (lx_name c 1 rfl rfl rfl) (la_cons (lx_name c 2 rfl rfl rfl) la_nil)) (by decide +kernel) G.b_max (by decide +kernel)) (congrArg D.int hmx)) la_nil)) fun Q q => ⟨(qn : Nat), max n o, rfl, by omega, by omega, by omega, q⟩) (lx_con c (by decide +kernel) G.MOST_TOLD) f2_gt) (decide_eq_false (by omega))) (fun hb => nomatch hb) (fun hb => lss_nil ?_))
  refine lss_cons (ls_set c 3 rfl rfl (lx_non _ ?_))
  have hpn : qn ^ n ≤ 4096 := by
    have : qn ^ n ≤ qn ^ (max n o) := Nat.pow_le_pow_right q1 (Nat.le_max_left _ _)
    omega
  refine lss_cons (ls_for c (li_ll (ll_call (res := (rowsOf (lets qn) n).map rowD) c (has_rows_of G) (by decide) (by decide +kernel) (la_cons (lx_name c 0 rfl rfl rfl) (la_cons (lx_name c 1 rfl rfl rfl) la_nil)) fun Q q => ⟨qn, n, rfl, by omega, q1, by omega, hpn, q⟩) fun p hp => ⟨fun i ρ hh => ρ = [some (.int (qn : Nat)), some (.int (n : Nat)), some (.int (o : Nat)), some (farD (farR mx bo ((rowsOf (lets qn) n).take i))), none, none, none] ∧ hh = updD h p (.lst ((rowsOf (lets qn) n).map rowD)), ⟨rfl, rfl⟩, fun i ρ hh hP => by rw [hP.2]; exact updD_same, ?_, ?_⟩))
  · rintro i d ρ1 hh hd ⟨rfl, rfl⟩
    obtain ⟨r, hr, rfl⟩ := map_get hd
    have hrm := List.mem_of_getElem? hr
    obtain ⟨ls, dst, F⟩ := hF r hrm
    refine ⟨_, lg_name c 4 rfl rfl ?_⟩
    have hbs := farR_succ (mx := mx) (bo := bo) hr
    generalize farR mx bo ((rowsOf (lets qn) n).take i) = bs at hbs
    unfold farS at hbs
    refine lss_cons (ls_asg ((lx_call (z := .tup [.int (mx r : Nat), rowD (bo r)]) c (has_farthest_from G) (by decide) (by decide +kernel) (la_cons (lx_name c 4 rfl rfl rfl) (la_cons (lx_name c 2 rfl rfl rfl) la_nil)) fun Q q => ⟨r, ls, o, dst, mx r, bo r, rfl, F, q⟩) _ (lg_tup c (lgs_cons (lg_name c 5 rfl rfl (lgs_cons (lg_name c 6 rfl rfl (lgs_nil ?_))))) rfl)))
    cases bs with
    | none =>
      refine lss_one (ls_ifB (bb := true || false) (lb_w (lw_or (lb_cmp (lx_name c 3 rfl rfl rfl) lx_non f2_isN) (fun z => nomatch z) (fun _ => rfl))) (fun _ => ?_) (fun z => nomatch z))
      refine lss_one (ls_set c 3 rfl rfl ((lx_tup (la_cons (lx_name c 5 rfl rfl rfl) (la_cons (lx_name c 4 rfl rfl rfl) (la_cons (lx_name c 6 rfl rfl rfl) la_nil)))) _ ?_))
      refine ⟨_, _, ?_, Sub.refl _, rfl, rfl⟩
      rw [hbs]
      walk_at "fy wk"
    | some p =>
      refine lss_one (ls_ifB (bb := false || decide (((p.1 : Nat) : Int) < (mx r : Nat))) (lb_w (lw_or (lb_cmp (lx_name c 3 rfl rfl rfl) lx_non f2_isN) (fun _ => (lw_or1 (lb_cmp (lx_name c 5 rfl rfl rfl) (lx_ix (lx_name c 3 rfl rfl rfl) lx_int (ix2_T rfl)) f2_gt))) (fun _ => rfl))) (fun hb => ?_) (fun hb => ?_))
      · rw [Bool.false_or, decide_eq_true_eq] at hb
        dsimp only at hbs
        rw [if_pos (by omega)] at hbs
        refine lss_one (ls_set c 3 rfl rfl ((lx_tup (la_cons (lx_name c 5 rfl rfl rfl) (la_cons (lx_name c 4 rfl rfl rfl) (la_cons (lx_name c 6 rfl rfl rfl) la_nil)))) _ ?_))
        refine ⟨_, _, ?_, Sub.refl _, rfl, rfl⟩
        rw [hbs]
        walk_at "fy wk"
      · rw [Bool.false_or, decide_eq_false_iff_not] at hb
        dsimp only at hbs
        rw [if_neg (by omega)] at hbs
        refine lss_nil ⟨_, _, ?_, Sub.refl _, rfl, rfl⟩
        rw [hbs]
        walk_at "fy wk"
  · rintro ρ1 hh ⟨rfl, rfl⟩
    rw [List.length_map, List.take_length]
    exact lss_one (ls_ret ((lx_name c 3 rfl rfl rfl) _ (Fg.to (Sub.new hp) q)))
end Fy
end
section
set_option linter.all false
set_option maxRecDepth 100000
set_option maxHeartbeats 4000000
namespace Fy
open PySem PySem.Spec PyProof.Rows L2
local macro_rules | `(tactic| walk_at "fy op") => `(tactic| first
  | exact f2_add | exact f2_sub | exact f2_cat (by first | assumption | omega | (simp only [List.length_append, cutD_len] <;> omega)) | exact f2_and | exact f2_mod (by omega) | exact f2_fdiv ⟨by omega, by omega⟩ | exact f2_mul (by unfold CMul; omega))
local macro_rules | `(tactic| walk_at "fy cmp") => `(tactic| first
  | exact f2_lt | exact f2_le | exact f2_gt | exact f2_ge | exact f2_eqI | exact f2_neI | exact f2_eqS | exact f2_isN | exact f2_notN)
local macro_rules | `(tactic| walk_at "fy ix") => `(tactic| first
  | exact ix2_T (by first | assumption | rfl) | exact ix2_L (by assumption) (by assumption))
local macro_rules | `(tactic| walk_at "fy wk") => `(tactic| repeat' (first | exact Paired.nil | exact True.intro | rfl | apply Paired.cons))
variable {T : Tx} {C : Addr} {X : Cx} {h : HD}
def HandO (pc : Addr) (o : DO) : Prop := ∃ (i : Nat) (g s k : Int), o = .lst [.ref pc, .int (i : Nat), .int g, .int s, .int k] ∧ 0 ≤ g
def HandAt (h : HD) (x pc : Addr) : Prop := (∃ cells : List Int, h pc = some (.lst (cells.map .int))) ∧ ∃ o, h x = some o ∧ HandO pc o
theorem HandAt.sub {h h' : HD} {x pc : Addr} (n : HandAt h x pc) (s : Sub h h') : HandAt h' x pc := by
  obtain ⟨⟨cells, e2⟩, o, e1, ho⟩ := n
  exact ⟨⟨cells, s _ _ e2⟩, o, s _ _ e1, ho⟩
theorem HandAt.ne {h : HD} {x pc : Addr} (n : HandAt h x pc) : pc ≠ x := by
  obtain ⟨⟨cells, e2⟩, _, e1, i, g, s, k, rfl, hg⟩ := n
  intro z
  subst z
  rw [e1] at e2
  injection e2 with e2
  injection e2 with e2
  cases cells with
  | nil => cases e2
  | cons y ys => cases e2
theorem HandAt.upd {h : HD} {x pc : Addr} {o : DO} (n : HandAt h x pc) (ho : HandO pc o) : HandAt (updD h x o) x pc := by
  have hn := n.ne
  obtain ⟨⟨cells, e2⟩, _⟩ := n
  exact ⟨⟨cells, by rw [updD_ne hn]; exact e2⟩, o, updD_same, ho⟩
theorem ll_cutS {a : Expr} {ρ : Rho} {lo hi : Option Expr} {l u : Option Int} {p2 pos : Pos} {p : Addr} {ns : List Int} (ha : LX X a ρ h (.ref p) h) (hl : LO X lo ρ h l h) (hh : LO X hi ρ h u h) (hp : h p = some (.scr ns)) : LL X (.Subscript a (.Slice lo hi none p2) pos) ρ h (cutD (ns.map D.int) l u) := fun Q q => by
  obtain ⟨tl, pl, ql⟩ := hl
  obtain ⟨th, ph, qh⟩ := hh
  refine le_of (pe_slice sl_list pe_we pl ph) fun σ H hs hr => ha.use hs hr fun v H1 t1 r1 d1 => ql σ H1 _ (hs.mono t1) r1 fun H2 t2 r2 => qh σ H2 _ (hs.mono (t1.trans t2)) r2 fun H3 t3 r3 => ?_
  have t := (t1.trans t2).trans t3
  obtain ⟨o, e1⟩ := r3.scr hp
  exact ⟨p, _, d1.ref_inv, .inl (.inr ⟨o, e1⟩), fun p' hp' => lnew t r3 ((dens_ints ns).cut l u) hp' q⟩
def absI (i : Int) : Int := if i < 0 then -i else i
def sp_law_hand : FS := fun ds h Q => ∃ (a : Addr) (ns : List Int), ds = [.ref a] ∧ h a = some (.scr ns) ∧ ∀ x pc h', Sub h h' → h x = none → HandAt h' x pc → Q (.ref x) h'
theorem has_law_hand (G : Top T C) : Has T 1 "_law_hand" ["_law_script"] sp_law_hand := by
  refine has_of G.d_law_hand sc_law_hand hv_law_hand (fun ds h Q ⟨_, _, e, _⟩ => by subst e; rfl) (fun _ _ _ _ _ _ us hl => match us, hl with | [_], _ => rfl) fun X c ds h Q ⟨a, ns, e, ha, q⟩ => ?_
  subst e
  have e63 : cutD (ns.map D.int) none (some 63) = (ns.take 63).map D.int := by
    rw [show (63 : Int) = ((63 : Nat) : Int) from rfl, cutD_to, List.map_take]
  have hl : (ns.take 63).length ≤ 63 := by rw [List.length_take]; omega
  refine lss_cons (ls_setLcF 1 c (own := [("_law_cell", 2)]) (by decide +kernel) rfl (by decide +kernel) rfl rfl (by decide +kernel) (li_ll (ll_cutS (lx_name c 0 rfl rfl rfl) lo_none (lo_some lx_int) ha) fun ps hps pf hpf => ⟨fun i acc hh => acc = (((ns.take 63).take i).map absI).map D.int ∧ hh = updD (updD h ps (.lst (cutD (ns.map D.int) none (some 63)))) pf (.lst acc), ⟨rfl, rfl⟩, fun i acc hh hP => ?_, fun i d acc hh hd hP => ?_, fun acc hh hP => ?_⟩))
  · obtain ⟨rfl, rfl⟩ := hP
    exact ⟨updD_same, by show updD _ _ _ _ = _; rw [updD_ne (neN updD_same hpf), updD_same]⟩
  · obtain ⟨rfl, rfl⟩ := hP
    rw [e63] at hd
    obtain ⟨z, hz, rfl⟩ := map_get hd
    refine ⟨[2], [some (.ref a), none, some (.int z)], by simp, fun X' b => lg_name (blk_ctx c b rfl rfl) 2 rfl rfl rfl, fun X' b => lif_nil ⟨fun _ X' b' => ((lx_callB (blk_ctx c b' rfl rfl) cb_abs (la_cons (lx_callTy (blk_ctx c b' rfl rfl) cb_int (la_cons (lx_name (blk_ctx c b' rfl rfl) 2 rfl rfl rfl) la_nil) (by decide +kernel) G.b_int (by decide +kernel)) la_nil) (by decide +kernel) G.b_abs (by decide +kernel)) _ ⟨?_, updD_same, Fg.of ⟨?_, ?_⟩⟩), fun z => nomatch z⟩⟩
    · rw [List.length_map, List.length_map, List.length_take]
      omega
    · rw [take_snoc hz, List.map_append, List.map_append]
      rfl
    · rw [updD_updD]
  obtain ⟨rfl, rfl⟩ := hP
  refine Fg.of ?_
  rw [e63] at hpf
  have sb2 := (Sub.new (o := .lst ((ns.take 63).map D.int)) hps).trans (Sub.new (o := .lst ((((ns.take 63)).map absI).map D.int)) hpf)
  rw [e63, List.length_map, List.take_length]
  refine lss_one (ls_ret ((ll_disp (la_cons (lx_name c 1 rfl rfl rfl) (la_cons lx_int (la_cons lx_int (la_cons (lx_bin lx_int (lx_callB c (cb_lenL updD_same) (la_cons (lx_name c 1 rfl rfl rfl) la_nil) (by decide +kernel) G.b_len (by decide +kernel)) f2_add) (la_cons lx_int la_nil)))))) _ fun x hx => Fg.of (q x pf _ ?_ ?_ ⟨⟨((ns.take 63).map absI), ?_⟩, _, updD_same, 0, 0, _, _, rfl, Int.le_refl _⟩)))
  · exact sb2.trans (Sub.new hx)
  · cases hz : h x with
    | none => rfl
    | some o => rw [sb2 _ _ hz] at hx; cases hx
  · show updD _ _ _ _ = _
    rw [updD_ne (neN updD_same hx), updD_same]
def stGetN (l : List Stmt) (i : Nat) : List Stmt := l.drop i
def sp_law_draw : FS := fun ds h Q => ∃ (x pc : Addr) (n : Nat), ds = [.ref x, .int n] ∧ HandAt h x pc ∧ 0 < n ∧ n ≤ 100000 ∧ ∀ (d : Nat) o, d < n → HandO pc o → Q (.int (d : Nat)) (updD h x o)
theorem has_law_draw (G : Top T C) : Has T 1 "_law_draw" ["_law_hand_here", "_law_many"] sp_law_draw := by
  refine has_of G.d_law_draw sc_law_draw hv_law_draw (fun ds h Q ⟨_, _, _, e, _⟩ => by subst e; rfl) (fun _ _ _ _ _ _ us hl => match us, hl with | [_, _], _ => rfl) fun X c ds h Q ⟨x, pc, n, e, hA, n0, n1, q⟩ => ?_
  subst e
  have npc := hA.ne
  obtain ⟨⟨cells, e2⟩, _, e1, i, g, s, k, rfl, hg⟩ := hA
  have rest : ∀ (ρ' : Rho) (h' : HD), (∃ (i : Nat) (g s k : Int) (y : Option D), ρ' = [some (.ref x), some (.int n), y, none, none] ∧ h' = updD h x (.lst [.ref pc, .int (i : Nat), .int g, .int s, .int k]) ∧ 0 ≤ g) → LSs X (stGetN (defBody s_law_draw) 1) ρ' h' { nx := fun _ h' => Fg (Q .non) h', rt := fun d h' => Fg (Q d) h' } := by
    rintro ρ' h' ⟨i, g, s, k, y, rfl, rfl, hg⟩
    have ex : updD h x (.lst [.ref pc, .int (i : Nat), .int g, .int s, .int k]) x = some (.lst [.ref pc, .int (i : Nat), .int g, .int s, .int k]) := updD_same
    have ok : ∀ (i : Nat) (g s k : Int), 0 ≤ g → HandO pc (.lst [.ref pc, .int (i : Nat), .int g, .int s, .int k]) := fun i g s k hg => ⟨i, g, s, k, rfl, hg⟩
    refine lss_cons (ls_ifB (bb := decide (0 < g)) (lb_cmp (lx_ix (lx_name c 0 rfl rfl rfl) lx_int (ix2_L ex rfl)) lx_int f2_gt) (fun hb => ?_) (fun hb => ?_))
    · refine lss_cons (ls_set c 3 rfl rfl ((lx_bin (lx_callTy c cb_int (la_cons (lx_ix (lx_name c 0 rfl rfl rfl) lx_int (ix2_L ex rfl)) la_nil) (by decide +kernel) G.b_int (by decide +kernel)) (lx_name c 1 rfl rfl rfl) (f2_mod (by omega))) _ ?_))
      refine lss_cons (ls_lput (i := 2) (lx_bin (lx_ix (lx_name c 0 rfl rfl rfl) lx_int (ix2_L ex rfl)) (lx_name c 1 rfl rfl rfl) (f2_fdiv ⟨by omega, by omega⟩)) (lx_name c 0 rfl rfl rfl) lx_int ex (by decide) (show 2 < 5 by decide) ?_)
      rw [updD_updD]
      have h0 : 0 ≤ g % (n : Int) := Int.emod_nonneg _ (by omega)
      have h1 : g % (n : Int) < n := Int.emod_lt_of_pos _ (by omega)
      obtain ⟨d, hd⟩ := Int.eq_ofNat_of_zero_le h0
      refine lss_one (ls_ret ((lx_name c 3 rfl rfl rfl) _ (Fg.of ?_)))
      rw [hd]
      exact q d _ (by omega) (ok i (g / n) s k (Int.ediv_nonneg hg (by omega)))
    · refine lss_nil ?_
      refine lss_cons (ls_lput (i := 4) (lx_bin (lx_ix (lx_name c 0 rfl rfl rfl) lx_int (ix2_L ex rfl)) lx_int f2_add) (lx_name c 0 rfl rfl rfl) lx_int ex (by decide) (show 4 < 5 by decide) ?_)
      rw [updD_updD]
      show LSs X _ _ (updD h x (.lst [.ref pc, .int (i : Nat), .int g, .int s, .int (k + 1)])) _
      have ex2 : updD h x (.lst [.ref pc, .int (i : Nat), .int g, .int s, .int (k + 1)]) x = some (.lst [.ref pc, .int (i : Nat), .int g, .int s, .int (k + 1)]) := updD_same
      generalize hm1 : (s + 7919 * (k + 1)) * 48271 % 2147483647 = m1
      have b1 : 0 ≤ m1 ∧ m1 < 2147483647 := by omega
      refine lss_cons (ls_set c 4 rfl rfl ((lx_eq (lx_bin (lx_callTy c cb_int (la_cons (lx_bin (lx_callTy c cb_int (la_cons (lx_bin (lx_ix (lx_name c 0 rfl rfl rfl) lx_int (ix2_L ex2 rfl)) (lx_bin lx_int (lx_ix (lx_name c 0 rfl rfl rfl) lx_int (ix2_L ex2 rfl)) (f2_mul (.inl (by decide)))) f2_add) la_nil) (by decide +kernel) G.b_int (by decide +kernel)) lx_int (f2_mul (.inr (by decide)))) la_nil) (by decide +kernel) G.b_int (by decide +kernel)) lx_int (f2_mod (by decide))) (congrArg D.int hm1)) _ ?_))
      generalize hm2 : m1 * (m1 / 1009 + 69621) % 2147483647 = m2
      have b2 : 0 ≤ m2 ∧ m2 < 2147483647 := by
        rw [← hm2]
        exact ⟨Int.emod_nonneg _ (by decide), Int.emod_lt_of_pos _ (by decide)⟩
      refine lss_cons (ls_set c 4 rfl rfl ((lx_eq (lx_bin (lx_callTy c cb_int (la_cons (lx_bin (lx_name c 4 rfl rfl rfl) (lx_bin (lx_bin (lx_name c 4 rfl rfl rfl) lx_int (f2_fdiv ⟨by decide, by decide⟩)) lx_int f2_add) (f2_mul (.inl ⟨by omega, by omega⟩))) la_nil) (by decide +kernel) G.b_int (by decide +kernel)) lx_int (f2_mod (by decide))) (congrArg D.int hm2)) _ ?_))
      generalize hm3 : m2 * (m2 / 2003 + 40692) % 2147483399 = m3
      refine lss_cons (ls_set c 4 rfl rfl ((lx_eq (lx_bin (lx_callTy c cb_int (la_cons (lx_bin (lx_name c 4 rfl rfl rfl) (lx_bin (lx_bin (lx_name c 4 rfl rfl rfl) lx_int (f2_fdiv ⟨by decide, by decide⟩)) lx_int f2_add) (f2_mul (.inl ⟨by omega, by omega⟩))) la_nil) (by decide +kernel) G.b_int (by decide +kernel)) lx_int (f2_mod (by decide))) (congrArg D.int hm3)) _ ?_))
      have h0 : 0 ≤ m3 / 16 % (n : Int) := Int.emod_nonneg _ (by omega)
      have h1 : m3 / 16 % (n : Int) < n := Int.emod_lt_of_pos _ (by omega)
      obtain ⟨d, hd⟩ := Int.eq_ofNat_of_zero_le h0
      refine lss_one (ls_ret ((lx_eq (lx_bin (lx_callTy c cb_int (la_cons (lx_bin (lx_name c 4 rfl rfl rfl) lx_int (f2_fdiv ⟨by decide, by decide⟩)) la_nil) (by decide +kernel) G.b_int (by decide +kernel)) (lx_name c 1 rfl rfl rfl) (f2_mod (by omega))) (congrArg D.int hd)) _ (Fg.of ?_)))
      exact q d _ (by omega) (ok i g s (k + 1) hg)
  have e0 : updD h x (.lst [.ref pc, .int (i : Nat), .int g, .int s, .int k]) = h := by
    funext b
    by_cases hb : b = x
    · subst hb
      rw [updD_same, e1]
    · rw [updD_ne hb]
  refine lss_cut (fun ρ' h' => ∃ (i : Nat) (g s k : Int) (y : Option D), ρ' = [some (.ref x), some (.int n), y, none, none] ∧ h' = updD h x (.lst [.ref pc, .int (i : Nat), .int g, .int s, .int k]) ∧ 0 ≤ g) ?_ rest
  refine ls_ifB (bb := decide (g = 0) && decide (((i : Nat) : Int) < cells.length)) (lb_w (lw_and (lb_cmp (lx_ix (lx_name c 0 rfl rfl rfl) lx_int (ix2_L e1 rfl)) lx_int f2_eqI) (fun _ => (lw_and1 (lb_eq (lb_cmp (lx_ix (lx_name c 0 rfl rfl rfl) lx_int (ix2_L e1 rfl)) (lx_callB c (cb_lenL e2) (la_cons (lx_ix (lx_name c 0 rfl rfl rfl) lx_int (ix2_L e1 rfl)) la_nil) (by decide +kernel) G.b_len (by decide +kernel)) f2_lt) (by rw [List.length_map])))) (fun _ => rfl))) (fun hb => ?_) (fun hb => lss_nil ⟨i, g, s, k, none, rfl, e0.symm, hg⟩)
  rw [Bool.and_eq_true, decide_eq_true_eq, decide_eq_true_eq] at hb
  obtain ⟨hb1, hb2⟩ := hb
  subst hb1
  obtain ⟨cl, hcl⟩ : ∃ cl, cells[i]? = some cl := ⟨_, List.getElem?_eq_getElem (by omega)⟩
  refine lss_cons (ls_set c 2 rfl rfl ((lx_ix (lx_ix (lx_name c 0 rfl rfl rfl) lx_int (ix2_L e1 rfl)) (lx_ix (lx_name c 0 rfl rfl rfl) lx_int (ix2_L e1 rfl)) (ix2_L (z := .int cl) e2 (atI_nat' (by omega) (by rw [Int.toNat_natCast, List.getElem?_map, hcl]; rfl)))) _ ?_))
  refine lss_cons (ls_lput (i := 1) (lx_bin (lx_ix (lx_name c 0 rfl rfl rfl) lx_int (ix2_L e1 rfl)) lx_int f2_add) (lx_name c 0 rfl rfl rfl) lx_int e1 (by decide) (show 1 < 5 by decide) ?_)
  show LSs X _ _ (updD h x (.lst [.ref pc, .int ((i : Int) + 1), .int 0, .int s, .int k])) _
  rw [show ((i : Int) + 1) = ((i + 1 : Nat) : Int) by rw [Int.natCast_add]; rfl]
  have e3 : updD h x (.lst [.ref pc, .int ((i + 1 : Nat) : Int), .int 0, .int s, .int k]) x = some (.lst [.ref pc, .int ((i + 1 : Nat) : Int), .int 0, .int s, .int k]) := updD_same
  refine lss_cons (ls_lput (i := 3) (lx_bin (lx_callTy c cb_int (la_cons (lx_bin (lx_bin (lx_bin (lx_ix (lx_name c 0 rfl rfl rfl) lx_int (ix2_L e3 rfl)) lx_int (f2_mul (.inr (by decide)))) (lx_name c 2 rfl rfl rfl) f2_add) lx_int f2_add) la_nil) (by decide +kernel) G.b_int (by decide +kernel)) lx_int (f2_mod (by decide))) (lx_name c 0 rfl rfl rfl) lx_int e3 (by decide) (show 3 < 5 by decide) ?_)
  rw [updD_updD]
  generalize hs2 : (s * 69621 + cl + 11) % 2147483629 = s2
  show LSs X _ _ (updD h x (.lst [.ref pc, .int ((i + 1 : Nat) : Int), .int 0, .int s2, .int k])) _
  have e4 : updD h x (.lst [.ref pc, .int ((i + 1 : Nat) : Int), .int 0, .int s2, .int k]) x = some (.lst [.ref pc, .int ((i + 1 : Nat) : Int), .int 0, .int s2, .int k]) := updD_same
  refine lss_one (ls_ifB (bb := decide ((10 : Int) ^ (18 : Int).toNat ≤ cl)) (lb_cmp (lx_name c 2 rfl rfl rfl) (lx_bin lx_int lx_int (f2_pow ⟨by decide, by decide, by decide⟩)) f2_ge) (fun hb => ?_) (fun hb => lss_nil ⟨i + 1, 0, s2, k, _, rfl, rfl, Int.le_refl _⟩))
  refine lss_one (ls_lput (i := 2) (lx_name c 2 rfl rfl rfl) (lx_name c 0 rfl rfl rfl) lx_int e4 (by decide) (show 2 < 5 by decide) ?_)
  rw [updD_updD]
  refine ⟨i + 1, cl, s2, k, _, rfl, rfl, ?_⟩
  have := of_decide_eq_true hb
  exact Int.le_trans (by decide) this
end Fy
end
section
set_option linter.all false
set_option maxRecDepth 100000
set_option maxHeartbeats 4000000
namespace Fy
open PySem PySem.Spec PyProof.Rows L2
local macro_rules | `(tactic| walk_at "fy op") => `(tactic| first
  | exact f2_add | exact f2_sub | exact f2_cat (by first | assumption | omega | (simp only [List.length_append, cutD_len] <;> omega)) | exact f2_and | exact f2_mod (by omega) | exact f2_fdiv ⟨by omega, by omega⟩ | exact f2_mul (by unfold CMul; omega))
local macro_rules | `(tactic| walk_at "fy cmp") => `(tactic| first
  | exact f2_lt | exact f2_le | exact f2_gt | exact f2_ge | exact f2_eqI | exact f2_neI | exact f2_eqS | exact f2_isN | exact f2_notN)
local macro_rules | `(tactic| walk_at "fy ix") => `(tactic| first
  | exact ix2_T (by first | assumption | rfl) | exact ix2_L (by assumption) (by assumption))
local macro_rules | `(tactic| walk_at "fy wk") => `(tactic| repeat' (first | exact Paired.nil | exact True.intro | rfl | apply Paired.cons))
variable {T : Tx} {C : Addr} {X : Cx} {h : HD}
section
variable {k : Nat} {N : List Str} {sc : Scope} {vt st : List Bool} {ρ : Rho} {h1 : HD} {a b e tg : Expr} {es : List Expr} {pos : Pos} {Q : D → HD → Prop} {QB : Bool → HD → Prop} {p : Addr}
theorem le_addE {i : Int} (ha : LX X a ρ h (.int i) h1) (hb : LE X b ρ h1 fun y h2 => ∃ j : Int, y = .int j ∧ Q (.int (i + j)) h2) : LE X (.BinOp a .Add b pos) ρ h Q :=
  le_of (pe_op op_add pe_we pe_we) fun σ H hs hh => ha.use hs hh fun u H1 t1 r1 d1 => hb.use (hs.mono t1) r1 fun v H2 y h2 t2 r2 d2 ⟨j, e, q⟩ => by
    subst e
    exact ⟨i, j, (d1.mono t2).int_inv, d2.int_inv, oq_of (t1.trans t2) r2 (.int _) q⟩
theorem le_tupE {x1} (ha : LA X es ρ h fun ds h1 => ds.length ≤ 100000 ∧ Q (.tup ds) h1) : LE X (.Tuple es x1 pos) ρ h Q :=
  le_of (pe_tup pa_wa) fun σ H hs hr => ha.use hs hr fun vs H1 ds h1 t r d1 ⟨hz, q⟩ => ⟨by rw [d1.length, sizeLine_eq]; omega, fun p hp => oq_of (t.trans (TupS.new hp)) (r.skip hp) (.tup upd_same (d1.mono (TupS.new hp))) q⟩
theorem le_tupFE {x1} (ha : LA X es ρ h fun ds h1 => ds.length ≤ 100000 ∧ Q (.tupF ds) h1) : LE X (.Tuple es x1 pos) ρ h Q :=
  le_of (pe_tupF pa_wa) fun σ H hs hr => ha.use hs hr fun vs H1 ds h1 t r d1 ⟨hz, q⟩ => ⟨by rw [d1.length, sizeLine_eq]; omega, fun p ob hob hp => oq_of (t.trans (TupS.new hp)) (r.skip hp) (.tupF upd_same hob (d1.mono (TupS.new hp))) q⟩
theorem li_range1E {R : List D → (HD → Prop) → HD → Prop} {p0 : Pos} (c : Ctx X T k N sc vt st) (ha : LE X a ρ h fun d h1 => ∃ n : Int, d = .int n ∧ (n ≤ 100000 ∧ -100000 ≤ n) ∧ R (rngD 0 n.toNat) (fun _ => True) h1) (hg : globB sc "range" = true) (hm : T.mg "range" = none)
    (hs : starEach [a] X.env = [(false, eval a X.env)] := by rfl) : LI X tg (.Call (.Name "range" p0) [a] [] pos) ρ h R := ⟨_, pi_range1 (c.gl hg) (by rw [c.hmg]; exact hm) (pa_cons pe_we pa_nil hs) hs, fun σ H RR hs hh k => ha.use hs hh fun v H1 d h1 t1 r1 d1 ⟨n, e, hn, q⟩ => by
  subst e
  rw [d1.int_inv]
  exact ⟨n, rfl, by omega, by omega, k _ H1 _ _ h1 q t1 r1 ⟨_, walk_rng rngD_len, fun _ _ _ _ _ => True.intro⟩⟩⟩
theorem le_ixLE (ha : LX X a ρ h (.ref p) h1) (hb : LE X b ρ h1 fun y h2 => ∃ (i : Int) (z : D) (ds : List D), y = .int i ∧ h2 p = some (.lst ds) ∧ atI ds i = some z ∧ Q z h2) (hs : PlainIx b := by exact fun _ _ => rfl) : LE X (.Subscript a b pos) ρ h Q :=
  le_of (pe_ix ix_list pe_we pe_we hs) fun σ H hs hh => ha.use hs hh fun u H1 t1 r1 d1 => hb.use (hs.mono t1) r1 fun v H2 y h2 t2 r2 d2 ⟨i, z, ds, e, hp, ha, q⟩ => by
    subst e
    obtain ⟨vs, e1, d3⟩ := r2.lst hp
    have hz : ixN vs.length i = ixN ds.length i := by rw [d3.length]
    unfold atI at ha
    cases q1 : ixN ds.length i with
    | none => rw [q1] at ha; cases ha
    | some j =>
      rw [q1] at ha
      obtain ⟨w, e2, d4⟩ := d3.get (show ds[j]? = some z from ha)
      exact ⟨p, vs, i, w, (d1.mono t2).ref_inv, d2.int_inv, SqL.of e1, by unfold atI; rw [hz, q1]; exact e2, oq_of (t1.trans t2) r2 d4 q⟩
theorem lt_notE (ha : LT X a ρ h fun b h1 => QB (!b) h1) : LT X (.UnaryOp .Not a pos) ρ h QB := lt_of' (pt_not pt_wt) fun σ H hs hr => ha.use hs hr fun b H1 h1 t r q => ⟨t, _, r, q⟩
theorem lt_andE (ha : LT X a ρ h fun b1 h1 => (b1 = true → LT X b ρ h1 QB) ∧ (b1 = false → QB false h1)) : LT X (.BoolOp .And [a, b] pos) ρ h QB :=
  lt_of' (PW.pt (pw_and pt_wt (pw_and1 pt_wt))) fun σ H hs hr => ha.use hs hr fun b1 H1 h1 t r ⟨q1, q2⟩ => by
    cases b1 with
    | true => exact iteT ((q1 rfl).use (hs.mono t) r fun b2 H2 h2 t2 r2 q => ⟨t.trans t2, _, r2, q⟩)
    | false => exact iteF ⟨t, _, r, q2 rfl⟩
theorem lt_eqIE {n : Int} (ha : LE X a ρ h fun x h1 => ∃ i : Int, x = .int i ∧ QB (decide (i = n)) h1) (hb : ∀ h1, LX X b ρ h1 (.int n) h1) (hm : behindInMarks .Eq b = false := by first | exact nomark _ | rfl) : LT X (.Compare a [.Eq] [b] pos) ρ h QB :=
  lt_of' (pt_cmpR op_eq pe_we pe_we hm) fun σ H hs hh => ha.use hs hh fun u H1 x h1 t1 r1 d1 ⟨i, e, q⟩ => (hb h1).use (hs.mono t1) r1 fun v H2 t2 r2 d2 => by
    subst e
    refine ⟨by rw [(d1.mono t2).int_inv, d2.int_inv]; rfl, ?_⟩
    rw [(d1.mono t2).int_inv, d2.int_inv, show decide (V.int i = V.int n) = decide (i = n) by simp]
    exact ⟨_, rfl, t1.trans t2, _, r2, q⟩
theorem lt_valE (ha : LE X a ρ h fun d h1 => ∃ b : Bool, d = .bl b ∧ QB b h1) (he : ∀ whole, isTrue a X.env whole = (do let v ← whole; standAt a.pos; holding [v] (truthy v)) := by intro _; rfl) : LT X a ρ h QB :=
  lt_of' (pt_val pe_we he) fun σ H hs hr => ha.use hs hr fun v H1 d h1 t r d1 ⟨b, e, q⟩ => by
    subst e
    exact ⟨b, d1.bl_inv, t, _, r, q⟩
theorem le_callTyE {nm : Str} {id : String} {p0 : Pos} (c : Ctx X T k N sc vt st) (ha : LE X e ρ h fun d h1 => ∃ z h2, CB X (.type id) [d] h1 z h2 ∧ Q z h2) (hg : globB sc nm = true) (hm : T.mg nm = none) (hv : bootBuiltins nm = some (.type id))
    (hn : nm ≠ "__name__" := by decide) (hdb : (nm == ("__debug__" : Str)) = false := by decide) (he : starEach [e] X.env = (false, eval e X.env) :: starEach [] X.env := by rfl) :
    LE X (.Call (.Name nm p0) [e] [] pos) ρ h Q := fun σ H hs hh pins s I => by
  refine wpAny_Call_Name_kw (ld_blt I (c.gl hg) (by rw [c.hmg]; exact hm) hv ?_ hn hdb)
  refine PyProof.Rows.callWith_type1 (thn ((pa_cons (es := []) pe_we pa_nil he).run pos pins s σ H (fun vs H1 => ∃ v d h1, vs = [v] ∧ TupS H H1 ∧ RelH h1 H1 ∧ Den H1 v d ∧ ∃ z h2, CB X (.type id) [d] h1 z h2 ∧ Q z h2) I ?_) fun us s1 ⟨vs, H1, I1, rv, v, d, h1, ev, t1, r1, d1, z, h2, C, q⟩ => ?_) he rfl
  · exact ha.use hs hh fun v H1 d' h' t r d1 q => ⟨v, d', h', rfl, t, r, d1, q⟩
  · obtain ⟨r, o, hr⟩ := C
    subst ev
    exact o pins s1 σ H1 [v] us _ I1 rv (hr H1 [v] _ r1 (.cons d1 .nil) fun w H' t2 r2 d2 => oq_of (t1.trans t2) r2 d2 q)
theorem le_draw {p0 : Pos} {x pc : Addr} {n : Nat} (G : Top T C) (c : Ctx X T k N sc vt st) (hk : 1 ≤ k) (hg : globB sc "_law_draw" = true) (ha : LX X a ρ h (.ref x) h) (hb : LX X b ρ h (.int (n : Nat)) h) (H : HandAt h x pc) (n0 : 0 < n) (n1 : n ≤ 100000) (q : ∀ (d : Nat) o, d < n → HandO pc o → Q (.int (d : Nat)) (updD h x o))
    (he : starEach [a, b] X.env = (false, eval a X.env) :: starEach [b] X.env := by rfl) (he2 : starEach [b] X.env = (false, eval b X.env) :: starEach [] X.env := by rfl) (hpl : (backTo pos (starEach [b] X.env)).any (·.1) = false := by rfl) : LE X (.Call (.Name "_law_draw" p0) [a, b] [] pos) ρ h Q :=
  le_call c (has_law_draw G) hk hg ((la_cons ha (la_cons hb la_nil he2) he) _ ⟨x, pc, n, rfl, H, n0, n1, q⟩) (by decide) he hpl
end
theorem updD_comm {h : HD} {a b : Addr} {o u : DO} (n : a ≠ b) : updD (updD h a o) b u = updD (updD h b u) a o := by
  funext c
  unfold updD
  by_cases h1 : c = b
  · subst h1
    rw [if_pos rfl, if_neg (fun z => n z.symm), if_pos rfl]
  · rw [if_neg h1]
    by_cases h2 : c = a
    · rw [if_pos h2, if_pos h2]
    · rw [if_neg h2, if_neg h2, if_neg h1]
theorem updD_id {h : HD} {a : Addr} {o : DO} (e : h a = some o) : updD h a o = h := by
  funext b
  by_cases hb : b = a
  · subst hb
    rw [updD_same, e]
  · rw [updD_ne hb]
def sp_law_row : FS := fun ds h Q => ∃ (x pc : Addr) (q n : Nat), ds = [.ref x, .int q, .int n] ∧ HandAt h x pc ∧ 0 < q ∧ q ≤ 100000 ∧ n ≤ 1000 ∧ ∀ (r : List Int) o, r.length = n → (∀ y ∈ r, 0 ≤ y ∧ y < (q : Nat)) → HandO pc o → Q (rowD r) (updD h x o)
theorem has_law_row (G : Top T C) : Has T 2 "_law_row" ["_law_hand_here", "_law_letters", "_law_lanes"] sp_law_row := by
  refine has_of G.d_law_row sc_law_row hv_law_row (fun ds h Q ⟨_, _, _, _, e, _⟩ => by subst e; rfl) (fun _ _ _ _ _ _ us hl => match us, hl with | [_, _, _], _ => rfl) fun X c ds h Q ⟨x, pc, qn, n, e, hA, q0, q1, hn, q⟩ => ?_
  subst e
  refine lss_one (ls_ret (le_callTyE (id := "tuple") c (le_comp c (own := [("_law_lane", 3)]) (by decide +kernel) (li_range1 c (lx_name c 2 rfl rfl rfl) (by decide +kernel) G.b_range ⟨by omega, by omega⟩ fun p hp => ⟨fun i acc hh => ∃ (r : List Int) (o : DO), acc = r.map D.int ∧ r.length = i ∧ (∀ y ∈ r, 0 ≤ y ∧ y < (qn : Nat)) ∧ HandO pc o ∧ hh = updD (updD h x o) p (.lst acc), ?_, fun i acc hh hP => ?_, fun i d acc hh hd hP => ?_, fun acc hh hP => ?_⟩)) (by decide +kernel) G.b_tuple (by decide +kernel)))
  · obtain ⟨_, o, e1, ho⟩ := hA
    exact ⟨[], o, rfl, rfl, (fun y hy => nomatch hy), ho, by rw [updD_id e1]⟩
  · obtain ⟨r, o, _, _, _, _, rfl⟩ := hP
    exact ⟨updD_same, trivial⟩
  · obtain ⟨r, o, rfl, hl, hr, ho, rfl⟩ := hP
    rw [Int.toNat_natCast] at hd
    have hi : i < n := by
      have := (List.getElem?_eq_some_iff.mp hd).1
      rwa [rngD_len] at this
    obtain ⟨_, _, e1, _⟩ := id hA
    have nxp : x ≠ p := neN e1 hp
    have hpu : updD h x o p = none := by rw [updD_ne nxp.symm]; exact hp
    refine ⟨[3], [some (.ref x), some (.int (qn : Nat)), some (.int (n : Nat)), some d], by simp, fun X' b => lg_name (blk_ctx c b rfl rfl) 3 rfl rfl rfl, fun X' b => lif_nil ⟨fun _ X' b' => ?_, fun z => nomatch z⟩⟩
    refine le_draw G (blk_ctx c b' rfl rfl) (by decide) (by decide +kernel) (lx_name (blk_ctx c b' rfl rfl) 0 rfl rfl rfl) (lx_name (blk_ctx c b' rfl rfl) 1 rfl rfl rfl) ((hA.upd ho).sub (Sub.new hpu)) q0 q1 fun d' o' hd' ho' => ?_
    have ec : updD (updD (updD h x o) p (.lst (r.map D.int))) x o' = updD (updD h x o') p (.lst (r.map D.int)) := by rw [updD_comm nxp.symm, updD_updD]
    rw [ec]
    refine ⟨by rw [List.length_map]; omega, updD_same, Fg.of ⟨r ++ [((d' : Nat) : Int)], o', by rw [List.map_append]; rfl, by rw [List.length_append, hl]; rfl, ?_, ho', by rw [updD_updD]⟩⟩
    intro y hy
    rcases List.mem_append.mp hy with z | z
    · exact hr y z
    · rw [List.mem_singleton.mp z]
      omega
  · obtain ⟨r, o, rfl, hl, hr, ho, rfl⟩ := hP
    rw [rngD_len, Int.toNat_natCast] at hl
    obtain ⟨_, _, e1, _⟩ := id hA
    have nxp : x ≠ p := neN e1 hp
    have hpu : updD h x o p = none := by rw [updD_ne nxp.symm]; exact hp
    exact Fg.of ⟨_, _, cb_tupL updD_same, Fg.to (Sub.new hpu) (q r o hl hr ho)⟩
end Fy
end
section
set_option linter.all false
set_option maxRecDepth 100000
set_option maxHeartbeats 4000000
namespace Fy
open PySem PySem.Spec PyProof.Rows L2
local macro_rules | `(tactic| walk_at "fy op") => `(tactic| first
  | exact f2_add | exact f2_sub | exact f2_cat (by first | assumption | omega | (simp only [List.length_append, cutD_len] <;> omega)) | exact f2_and | exact f2_mod (by omega) | exact f2_fdiv ⟨by omega, by omega⟩ | exact f2_mul (by unfold CMul; omega))
local macro_rules | `(tactic| walk_at "fy cmp") => `(tactic| first
  | exact f2_lt | exact f2_le | exact f2_gt | exact f2_ge | exact f2_eqI | exact f2_neI | exact f2_eqS | exact f2_isN | exact f2_notN)
local macro_rules | `(tactic| walk_at "fy ix") => `(tactic| first
  | exact ix2_T (by first | assumption | rfl) | exact ix2_L (by assumption) (by assumption))
local macro_rules | `(tactic| walk_at "fy wk") => `(tactic| repeat' (first | exact Paired.nil | exact True.intro | rfl | apply Paired.cons))
variable {T : Tx} {C : Addr} {X : Cx} {h : HD}
def sp_law_steps : FS := fun ds h Q => ∃ (x pc : Addr) (q m : Nat), ds = [.ref x, .int q, .int m] ∧ HandAt h x pc ∧ 1 ≤ q ∧ q ≤ 3 ∧ 1 ≤ m ∧ m ≤ 4 ∧
  ∀ (ss : List Stp) o p, ss.length ≤ 12 → cans q m ss = true → Smalls ss → lanesB m ss ≤ 5 → HandO pc o → h p = none → Q (.ref p) (updD (updD h x o) p (.lst (ss.map stepD)))
structure StpI (q m : Nat) (ss : List Stp) (i : Nat) : Prop where
  len : ss.length ≤ i
  can : cans q m ss = true
  sm : Smalls ss
  l1 : 1 ≤ lanesB m ss
  l5 : lanesB m ss ≤ 5
theorem lanesB_snoc (m : Nat) (ss : List Stp) (s : Stp) : lanesB m (ss ++ [s]) = s.after (lanesB m ss) := by
  unfold lanesB
  rw [List.foldl_append]
  rfl
theorem StpI.add {q m i : Nat} {ss : List Stp} (I : StpI q m ss i) {s : Stp} (hs : s.small) (hc : s.ok q (lanesB m ss) = true) (h1 : 1 ≤ s.after (lanesB m ss)) (h5 : s.after (lanesB m ss) ≤ 5) : StpI q m (ss ++ [s]) (i + 1) :=
  ⟨by rw [List.length_append]; exact Nat.succ_le_succ I.len, by rw [cans_snoc, I.can]; unfold Stp.can; rw [hc, decide_eq_true ⟨h1, by omega⟩]; rfl, fun t ht => by
    rcases List.mem_append.mp ht with z | z
    · exact I.sm t z
    · rw [List.mem_singleton.mp z]
      exact hs, by rw [lanesB_snoc]; exact h1, by rw [lanesB_snoc]; exact h5⟩
theorem StpI.stay {q m i : Nat} {ss : List Stp} (I : StpI q m ss i) : StpI q m ss (i + 1) := ⟨Nat.le_succ_of_le I.len, I.can, I.sm, I.l1, I.l5⟩
theorem has_law_steps (G : Top T C) : Has T 3 "_law_steps" ["_law_hand_here", "_law_letters", "_law_lanes"] sp_law_steps := by
  refine has_of G.d_law_steps sc_law_steps hv_law_steps (fun ds h Q ⟨_, _, _, _, e, _⟩ => by subst e; rfl) (fun _ _ _ _ _ _ us hl => match us, hl with | [_, _, _], _ => rfl) fun X c ds h Q ⟨x, pc, qn, m, e, hA, q1, q3, m1, m4, q⟩ => ?_
  subst e
  have hA' := id hA
  obtain ⟨_, o0, e0, ho0⟩ := hA'
  refine lss_cons (ls_set c 3 rfl rfl ((ll_disp la_nil) _ fun pf hpf => ?_))
  have nxp : x ≠ pf := neN e0 hpf
  have hpu : ∀ o, updD h x o pf = none := fun o => by rw [updD_ne nxp.symm]; exact hpf
  have hS : ∀ o l, HandO pc o → HandAt (updD (updD h x o) pf (.lst l)) x pc := fun o l ho => (hA.upd ho).sub (Sub.new (hpu o))
  have eS : ∀ o o' (l : List D), updD (updD (updD h x o) pf (.lst l)) x o' = updD (updD h x o') pf (.lst l) := fun o o' l => by rw [updD_comm nxp.symm, updD_updD]
  have s0 : updD h pf (.lst []) = updD (updD h x o0) pf (.lst ([] : List D)) := by rw [updD_id e0]
  rw [s0]
  refine lss_cons (ls_for c (li_range1E c (le_draw G c (by decide) (by decide +kernel) (lx_name c 0 rfl rfl rfl) (lx_eq lx_int (show D.int 13 = .int ((13 : Nat) : Int) from rfl)) (hS _ _ ho0) (by decide) (by decide) fun dn o1 hdn ho1 => ⟨_, rfl, ⟨by omega, by omega⟩, ?_⟩) (by decide +kernel) G.b_range))
  rw [eS]
  refine ⟨fun i ρ hh => ∃ (ss : List Stp) (o : DO), ρ = [some (.ref x), some (.int (qn : Nat)), some (.int (lanesB m ss : Nat)), some (.ref pf), none, none, none, none, none, none, none] ∧ hh = updD (updD h x o) pf (.lst (ss.map stepD)) ∧ HandO pc o ∧ StpI qn m ss i, ⟨[], o1, rfl, rfl, ho1, ⟨Nat.le_refl _, rfl, fun s hs => (nomatch hs), m1, Nat.le_succ_of_le m4⟩⟩, fun _ _ _ _ => trivial, ?_, ?_⟩
  · rintro i d ρ1 hh hd ⟨ss, o, rfl, rfl, ho, I⟩
    have l1 := I.l1
    have l5 := I.l5
    have hil : i < dn := by
      have := (List.getElem?_eq_some_iff.mp hd).1
      rwa [rngD_len, Int.toNat_natCast] at this
    have hsl := I.len
    refine ⟨_, lg_name c 4 rfl rfl ?_⟩
    refine lss_cons (ls_set c 5 rfl rfl (le_draw G c (by decide) (by decide +kernel) (lx_name c 0 rfl rfl rfl) (lx_eq lx_int (show D.int 5 = .int ((5 : Nat) : Int) from rfl)) (hS _ _ ho) (by decide) (by decide) fun way o2 hway ho2 => ?_))
    rw [eS]
    refine lss_cons (ls_set c 6 rfl rfl (le_draw G c (by decide) (by decide +kernel) (lx_name c 0 rfl rfl rfl) (lx_name c 2 rfl rfl rfl) (hS _ _ ho2) (by omega) (by omega) fun at_ o3 hat ho3 => ?_))
    rw [eS]
    have ef : ∀ o (l : List D), updD (updD h x o) pf (.lst l) pf = some (.lst l) := fun o l => updD_same
    have stay : ∀ ρ', ρ' = [some (.ref x), some (.int (qn : Nat)), some (.int (lanesB m ss : Nat)), some (.ref pf), some d, some (.int (way : Nat)), some (.int (at_ : Nat)), none, none, none, none] → Again (fun ρ hh => ∃ (ss : List Stp) (o : DO), ρ = [some (.ref x), some (.int (qn : Nat)), some (.int (lanesB m ss : Nat)), some (.ref pf), none, none, none, none, none, none, none] ∧ hh = updD (updD h x o) pf (.lst (ss.map stepD)) ∧ HandO pc o ∧ StpI qn m ss (i + 1)) ρ' (updD (updD h x o3) pf (.lst (ss.map stepD))) := fun ρ' e => by
      subst e
      refine ⟨_, _, ?_, Sub.refl _, ss, o3, rfl, rfl, ho3, I.stay⟩
      walk_at "fy wk"
    have len1 : (ss.map stepD).length < 100000 := by rw [List.length_map]; omega
    refine lss_one (ls_ifB (bb := decide (((way : Nat) : Int) = 0) && decide (((lanesB m ss : Nat) : Int) < 5)) (lb_w (lw_and (lb_cmp (lx_name c 5 rfl rfl rfl) lx_int f2_eqI) (fun _ => (lw_and1 (lb_cmp (lx_name c 2 rfl rfl rfl) lx_int f2_lt))) (fun _ => rfl))) (fun hb => ?_) (fun hb1 => ?_))
    · rw [Bool.and_eq_true, decide_eq_true_eq, decide_eq_true_eq] at hb
      have I2 := I.add (s := .dbl at_) trivial (decide_eq_true hat) (show 1 ≤ lanesB m ss + 1 by omega) (show lanesB m ss + 1 ≤ 5 by omega)
      refine lss_cons (ls_append (lx_name c 3 rfl rfl rfl) (ef _ _) ((lx_tup (la_cons lx_str (la_cons (lx_name c 6 rfl rfl rfl) la_nil))) _ ⟨_, ef _ _, len1, ?_⟩))
      refine lss_one (ls_set c 2 rfl rfl ((lx_bin (lx_name c 2 rfl rfl rfl) lx_int f2_add) _ ?_))
      refine ⟨_, _, ?_, Sub.refl _, ss ++ [.dbl at_], o3, rfl, by rw [updD_updD, List.map_append]; rfl, ho3, I2⟩
      rw [lanesB_snoc]
      walk_at "fy wk"
    refine lss_one (ls_ifB (bb := decide (((way : Nat) : Int) = 1) && decide ((2 : Int) < (lanesB m ss : Nat))) (lb_w (lw_and (lb_cmp (lx_name c 5 rfl rfl rfl) lx_int f2_eqI) (fun _ => (lw_and1 (lb_cmp (lx_name c 2 rfl rfl rfl) lx_int f2_gt))) (fun _ => rfl))) (fun hb => ?_) (fun hb2 => ?_))
    · rw [Bool.and_eq_true, decide_eq_true_eq, decide_eq_true_eq] at hb
      have I2 := I.add (s := .strk at_) trivial (decide_eq_true hat) (show 1 ≤ lanesB m ss - 1 by omega) (show lanesB m ss - 1 ≤ 5 by omega)
      refine lss_cons (ls_append (lx_name c 3 rfl rfl rfl) (ef _ _) ((lx_tup (la_cons lx_str (la_cons (lx_name c 6 rfl rfl rfl) la_nil))) _ ⟨_, ef _ _, len1, ?_⟩))
      refine lss_one (ls_set c 2 rfl rfl ((lx_bin (lx_name c 2 rfl rfl rfl) lx_int f2_sub) _ ?_))
      refine ⟨_, _, ?_, Sub.refl _, ss ++ [.strk at_], o3, rfl, by rw [updD_updD, List.map_append]; rfl, ho3, I2⟩
      rw [lanesB_snoc, show (((lanesB m ss : Nat) : Int) - 1) = ((Stp.strk at_).after (lanesB m ss) : Nat) by show _ = ((lanesB m ss - 1 : Nat) : Int); omega]
      walk_at "fy wk"
    refine lss_one (ls_ifB (bb := decide ((2 : Int) < (way : Nat)) && decide ((1 : Int) < (lanesB m ss : Nat))) (lb_w (lw_and (lb_cmp (lx_name c 5 rfl rfl rfl) lx_int f2_gt) (fun _ => (lw_and1 (lb_cmp (lx_name c 2 rfl rfl rfl) lx_int f2_gt))) (fun _ => rfl))) (fun hb => ?_) (fun hb3 => ?_))
    · rw [Bool.and_eq_true, decide_eq_true_eq, decide_eq_true_eq] at hb
      refine lss_cons (ls_set c 7 rfl rfl (le_draw (n := lanesB m ss - 1) G c (by decide) (by decide +kernel) (lx_name c 0 rfl rfl rfl) (lx_eq (lx_bin (lx_name c 2 rfl rfl rfl) lx_int f2_sub) (congrArg D.int (by omega))) (hS _ _ ho3) (by omega) (by omega) fun a o4 ha ho4 => ?_))
      rw [eS]
      refine lss_cons (ls_set c 8 rfl rfl (le_addE (lx_bin (lx_name c 7 rfl rfl rfl) lx_int f2_add) (le_draw (n := lanesB m ss - 1 - a) G c (by decide) (by decide +kernel) (lx_name c 0 rfl rfl rfl) (lx_eq (lx_bin (lx_bin (lx_name c 2 rfl rfl rfl) lx_int f2_sub) (lx_name c 7 rfl rfl rfl) f2_sub) (congrArg D.int (by omega))) (hS _ _ ho4) (by omega) (by omega) fun b0 o5 hb0 ho5 => ⟨_, rfl, ?_⟩)))
      rw [eS]
      obtain ⟨b, hbd⟩ : ∃ b : Nat, b = a + 1 + b0 := ⟨_, rfl⟩
      rw [show (((a : Nat) : Int) + 1 + (b0 : Nat)) = ((b : Nat) : Int) by omega]
      refine lss_one (ls_append (lx_name c 3 rfl rfl rfl) (ef _ _) (le_tupE (la_consE (lx_str _ (la_consE ((lx_name c 7 rfl rfl rfl) _ (la_consE ((lx_name c 8 rfl rfl rfl) _ (la_consE (le_addE (lx_bin (lx_name c 8 rfl rfl rfl) lx_int f2_add) (le_draw (n := lanesB m ss - b) G c (by decide) (by decide +kernel) (lx_name c 0 rfl rfl rfl) (lx_eq (lx_bin (lx_name c 2 rfl rfl rfl) (lx_name c 8 rfl rfl rfl) f2_sub) (congrArg D.int (by omega))) (hS _ _ ho5) (by omega) (by omega) fun c0 o6 hc0 ho6 => ⟨_, rfl, la_nil _ ⟨show 4 ≤ 100000 by decide, _, by rw [eS]; exact ef _ _, len1, ?_⟩⟩)))))))))))
      rw [eS]
      obtain ⟨d3, hd3⟩ : ∃ d3 : Nat, d3 = b + 1 + c0 := ⟨_, rfl⟩
      rw [show (((b : Nat) : Int) + 1 + (c0 : Nat)) = ((d3 : Nat) : Int) by omega]
      have I2 := I.add (s := .fly a b d3) trivial (decide_eq_true ⟨by omega, by omega, by omega⟩) (show 1 ≤ lanesB m ss by omega) (show lanesB m ss ≤ 5 by omega)
      refine ⟨_, _, ?_, Sub.refl _, ss ++ [.fly a b d3], o6, rfl, by rw [updD_updD, List.map_append]; rfl, ho6, I2⟩
      rw [lanesB_snoc]
      walk_at "fy wk"
    refine lss_one (ls_ifB (bb := decide ((2 : Int) < (lanesB m ss : Nat))) (lb_cmp (lx_name c 2 rfl rfl rfl) lx_int f2_gt) (fun hb => ?_) (fun hb4 => lss_nil (stay _ rfl)))
    rw [decide_eq_true_eq] at hb
    refine lss_cons (ls_set c 9 rfl rfl (le_addE lx_int (le_draw (n := 2) G c (by decide) (by decide +kernel) (lx_name c 0 rfl rfl rfl) lx_int (hS _ _ ho3) (by decide) (by decide) fun w0 o4 hw0 ho4 => ⟨_, rfl, ?_⟩)))
    rw [eS]
    obtain ⟨w, hw⟩ : ∃ w : Nat, w = 2 + w0 := ⟨_, rfl⟩
    rw [show ((2 : Int) + (w0 : Nat)) = ((w : Nat) : Int) by omega]
    refine lss_cons (ls_set c 10 rfl rfl (le_tupFE (la_consE (le_tupE (la_consE (le_call c (has_law_row G) (by decide) (by decide +kernel) ((la_cons (lx_name c 0 rfl rfl rfl) (la_cons (lx_name c 1 rfl rfl rfl) (la_cons (lx_name c 9 rfl rfl rfl) la_nil))) _ ⟨x, pc, qn, w, rfl, hS _ _ ho4, by omega, by omega, by omega, fun key o5 hkl hky ho5 => ?_⟩)))))))
    rw [eS]
    refine la_consE (le_draw (n := w) G c (by decide) (by decide +kernel) (lx_name c 0 rfl rfl rfl) (lx_name c 9 rfl rfl rfl) (hS _ _ ho5) (by omega) (by omega) fun ot o6 hot ho6 => la_nil _ ⟨show 2 ≤ 100000 by decide, la_nil _ ⟨show 1 ≤ 100000 by decide, ?_⟩⟩)
    rw [eS]
    refine lss_cons (ls_append (lx_name c 3 rfl rfl rfl) (ef _ _) (le_tupE (la_consE (lx_str _ (la_consE (le_draw (n := lanesB m ss - w + 1) G c (by decide) (by decide +kernel) (lx_name c 0 rfl rfl rfl) (lx_eq (lx_bin (lx_bin (lx_name c 2 rfl rfl rfl) (lx_name c 9 rfl rfl rfl) f2_sub) lx_int f2_add) (congrArg D.int (by omega))) (hS _ _ ho6) (by omega) (by omega) fun kk o7 hkk ho7 => ?_))))))
    rw [eS]
    refine la_consE ((lx_name c 9 rfl rfl rfl) _ (la_consE (le_draw (n := w) G c (by decide) (by decide +kernel) (lx_name c 0 rfl rfl rfl) (lx_name c 9 rfl rfl rfl) (hS _ _ ho7) (by omega) (by omega) fun pp o8 hpp ho8 => la_consE ((lx_name c 10 rfl rfl rfl) _ (la_nil _ ⟨show 5 ≤ 100000 by decide, _, by rw [eS]; exact ef _ _, len1, ?_⟩)))))
    rw [eS]
    have I2 := I.add (s := .cho kk w pp key ot) (show key.length ≤ 1000 by omega) (decide_eq_true ⟨by omega, by omega, by omega, by omega, hpp, hkl, hky, hot⟩) (show 1 ≤ lanesB m ss + 1 - w by omega) (show lanesB m ss + 1 - w ≤ 5 by omega)
    refine lss_one (ls_set c 2 rfl rfl ((lx_bin (lx_bin (lx_name c 2 rfl rfl rfl) (lx_name c 9 rfl rfl rfl) f2_sub) lx_int f2_add) _ ?_))
    refine ⟨_, _, ?_, Sub.refl _, ss ++ [.cho kk w pp key ot], o8, rfl, by rw [updD_updD, List.map_append]; rfl, ho8, I2⟩
    rw [lanesB_snoc, show (((lanesB m ss : Nat) : Int) - (w : Nat) + 1) = ((Stp.cho kk w pp key ot).after (lanesB m ss) : Nat) by show _ = ((lanesB m ss + 1 - w : Nat) : Int); omega]
    walk_at "fy wk"
  · rintro ρ1 hh ⟨ss, o, rfl, rfl, ho, I⟩
    have hl := I.len
    rw [rngD_len, Int.toNat_natCast] at hl
    exact lss_one (ls_ret ((lx_name c 3 rfl rfl rfl) _ (Fg.of (q ss o pf (by omega) I.can I.sm I.l5 ho hpf))))
end Fy
end
section
set_option linter.all false
set_option maxRecDepth 100000
set_option maxHeartbeats 4000000
namespace Fy
open PySem PySem.Spec PyProof.Rows L2
local macro_rules | `(tactic| walk_at "fy op") => `(tactic| first
  | exact f2_add | exact f2_sub | exact f2_cat (by first | assumption | omega | (simp only [List.length_append, cutD_len] <;> omega)) | exact f2_and | exact f2_mod (by omega) | exact f2_fdiv ⟨by omega, by omega⟩ | exact f2_mul (by unfold CMul; omega))
local macro_rules | `(tactic| walk_at "fy cmp") => `(tactic| first
  | exact f2_lt | exact f2_le | exact f2_gt | exact f2_ge | exact f2_eqI | exact f2_neI | exact f2_eqS | exact f2_isN | exact f2_notN)
local macro_rules | `(tactic| walk_at "fy ix") => `(tactic| first
  | exact ix2_T (by first | assumption | rfl) | exact ix2_L (by assumption) (by assumption))
local macro_rules | `(tactic| walk_at "fy wk") => `(tactic| repeat' (first | exact Paired.nil | exact True.intro | rfl | apply Paired.cons))
variable {T : Tx} {C : Addr} {X : Cx} {h : HD}
theorem rises_map (s : List Int) : ((fallsL s).map (!·)).all id = rises s := by
  have h := fallsL_any s
  rw [List.all_map]
  cases hr : rises s with
  | true =>
    rw [hr] at h
    rw [List.all_eq_true]
    intro x hx
    cases x with
    | false => rfl
    | true =>
      have : (fallsL s).any id = true := List.any_eq_true.mpr ⟨true, hx, rfl⟩
      rw [h] at this
      cases this
  | false =>
    rw [hr] at h
    obtain ⟨x, hx, hx2⟩ := List.any_eq_true.mp h
    cases hz : (fallsL s).all (id ∘ (!·)) with
    | false => rfl
    | true =>
      have := List.all_eq_true.mp hz x hx
      rw [show x = true from hx2] at this
      cases this
def sp_law_rises : FS := fun ds h Q => ∃ s : List Int, ds = [rowD s] ∧ s.length ≤ 1000 ∧ Q (.bl (rises s)) h
theorem has_law_rises (G : Top T C) : Has T 1 "_law_rises" ["_law_knot"] sp_law_rises := by
  refine has_of G.d_law_rises sc_law_rises hv_law_rises (fun ds h Q ⟨r, e, _⟩ => by subst e; rfl) (fun _ _ _ _ _ _ us hl => match us, hl with | [_], _ => rfl) fun X c ds h Q ⟨s, e, h1, q⟩ => ?_
  subst e
  have hz : (rngD 1 (((s.map D.int).length : Int) - 1).toNat).length = (fallsL s).length := by
    rw [rngD_len, fallsL_len, List.length_map]
    omega
  refine lss_one (ls_ret ((lx_callBL c (fun p hp => cb_all c (bs := (fallsL s).map (!·)) updD_same) (ll_comp c (own := [("_law_k", 1)]) (ds := rngD 1 (((s.map D.int).length : Int) - 1).toNat) (by decide +kernel) (is := [1]) (by simp) (fun d => [some (rowD s), some d]) (fun R k => li_range2 c lx_int (lx_callB c cb_lenT (la_cons (lx_name c 0 rfl rfl rfl) la_nil) (by decide +kernel) G.b_len (by decide +kernel)) (by decide +kernel) G.b_range ⟨by rw [List.length_map]; omega, by omega, by decide, by decide⟩ (k _ _ (Sub.refl _) fun _ _ _ => trivial)) (by rw [hz, List.length_map, List.length_map]) (by rw [hz, fallsL_len]; omega) (fun i d hd X' b => lg_name (blk_ctx c b rfl rfl) 1 rfl rfl rfl) fun i d rr hh hd hr sb X' b => ?_) (by decide +kernel) G.b_all (by decide +kernel)) _ ?_))
  · have hi := (List.getElem?_eq_some_iff.mp hd).1
    rw [hz] at hi
    have hi2 := hi
    rw [fallsL_len] at hi2
    rw [rngD_get (show i < (((s.map D.int).length : Int) - 1).toNat by rw [List.length_map]; omega)] at hd
    cases hd
    have ha : s[i]? = some s[i] := List.getElem?_eq_getElem (by omega)
    have hb : s[i + 1]? = some s[i + 1] := List.getElem?_eq_getElem (by omega)
    generalize s[i] = x at ha
    generalize s[i + 1] = y at hb
    rw [List.getElem?_map, List.getElem?_map, fallsL_get s i x y ha hb] at hr
    cases hr
    refine lx_eq (lx_cmp (lx_ix (lx_name (blk_ctx c b rfl rfl) 0 rfl rfl rfl) (lx_bin (lx_name (blk_ctx c b rfl rfl) 1 rfl rfl rfl) lx_int f2_sub) (ix2_T (z := .int x) (atI_nat' (by omega) (by rw [show ((1 : Int) + (i : Nat) - 1).toNat = i by omega, List.getElem?_map, ha]; rfl)))) (lx_ix (lx_name (blk_ctx c b rfl rfl) 0 rfl rfl rfl) (lx_name (blk_ctx c b rfl rfl) 1 rfl rfl rfl) (ix2_T (z := .int y) (atI_nat' (by omega) (by rw [show ((1 : Int) + (i : Nat)).toNat = i + 1 by omega, List.getElem?_map, hb]; rfl)))) f2_le) (congrArg D.bl ?_)
    show decide (x ≤ y) = !decide (y < x)
    rw [← decide_not]
    exact decide_eq_decide.mpr (by omega)
  · rw [rises_map]
    exact Fg.of q
def wordL (row : List Int) : List Int := ((List.range row.length).filter fun l => decide (l = 0) || !decide (atF row l = atF row (l - 1))).map (atF row)
def sp_law_word : FS := fun ds h Q => ∃ row : List Int, ds = [rowD row] ∧ row.length ≤ 1000 ∧ Q (rowD (wordL row)) h
theorem has_law_word (G : Top T C) : Has T 1 "_law_word" ["_law_row_here"] sp_law_word := by
  refine has_of G.d_law_word sc_law_word hv_law_word (fun ds h Q ⟨r, e, _⟩ => by subst e; rfl) (fun _ _ _ _ _ _ us hl => match us, hl with | [_], _ => rfl) fun X c ds h Q ⟨row, e, h1, q⟩ => ?_
  subst e
  have er : rngD 0 (((row.map D.int).length : Int)).toNat = natsD (List.range row.length) := by rw [Int.toNat_natCast, List.length_map, rngD_nats]
  refine lss_one (ls_ret ((lx_callTyL (z := rowD (wordL row)) c (fun p hp => cb_tupL updD_same) (ll_eq (ll_compIf c (own := [("_law_lane", 1)]) (ds := natsD (List.range row.length)) (by decide +kernel) (is := [1]) (by simp) (fun d => [some (rowD row), some d]) (fun d => decide ((unD d).toNat = 0) || !decide (atF row (unD d).toNat = atF row ((unD d).toNat - 1))) (fun d => .int (atF row (unD d).toNat)) (fun R k => li_range1 c (lx_callB c cb_lenT (la_cons (lx_name c 0 rfl rfl rfl) la_nil) (by decide +kernel) G.b_len (by decide +kernel)) (by decide +kernel) G.b_range ⟨by rw [List.length_map]; omega, by omega⟩ (by rw [er]; exact k _ _ (Sub.refl _) fun _ _ _ => trivial)) (by rw [natsD_len, List.length_range]; omega) (fun i d hd X' b => lg_name (blk_ctx c b rfl rfl) 1 rfl rfl rfl) (fun i d hh hd sb X' b => ?_) (fun i d hh hd ht sb X' b => ?_)) ?_) (by decide +kernel) G.b_tuple (by decide +kernel)) _ (Fg.of q)))
  · obtain ⟨j, hj, rfl⟩ := map_get hd
    have hjl : j < row.length := List.mem_range.mp (List.mem_of_getElem? hj)
    show LB X' _ _ hh (decide (((j : Nat) : Int).toNat = 0) || !decide (atF row ((j : Nat) : Int).toNat = atF row (((j : Nat) : Int).toNat - 1))) hh
    rw [Int.toNat_natCast]
    refine lb_w (lw_or (lb_eq (lb_cmp (lx_name (blk_ctx c b rfl rfl) 1 rfl rfl rfl) lx_int f2_eqI) (decide_eq_decide.mpr (by omega))) (fun hb => ?_) (fun _ => rfl))
    have hj0 := of_decide_eq_false hb
    exact lw_or1 (lb_cmp (lx_ix (lx_name (blk_ctx c b rfl rfl) 0 rfl rfl rfl) (lx_name (blk_ctx c b rfl rfl) 1 rfl rfl rfl) (ix2_T (atI_nat' (by omega) (by rw [Int.toNat_natCast]; exact atF_get hjl)))) (lx_ix (lx_name (blk_ctx c b rfl rfl) 0 rfl rfl rfl) (lx_bin (lx_name (blk_ctx c b rfl rfl) 1 rfl rfl rfl) lx_int f2_sub) (ix2_T (atI_nat' (by omega) (by rw [show ((j : Int) - 1).toNat = j - 1 by omega]; exact atF_get (by omega))))) f2_neI)
  · obtain ⟨j, hj, rfl⟩ := map_get hd
    have hjl : j < row.length := List.mem_range.mp (List.mem_of_getElem? hj)
    show LX X' _ _ hh (.int (atF row ((j : Nat) : Int).toNat)) hh
    rw [Int.toNat_natCast]
    exact lx_ix (lx_name (blk_ctx c b rfl rfl) 0 rfl rfl rfl) (lx_name (blk_ctx c b rfl rfl) 1 rfl rfl rfl) (ix2_T (atI_nat' (by omega) (by rw [Int.toNat_natCast]; exact atF_get hjl)))
  · unfold wordL natsD
    rw [List.filter_map, List.map_map, List.map_map]
    rfl
def sp_law_is_thin : FS := fun ds h Q => ∃ row out : List Int, ds = [rowD row, rowD out] ∧ row.length ≤ 1000 ∧ Q (.bl (thin row out)) h
theorem wayOf_none {row : List Int} {l : Int} {r : List Int} {i : Nat} (h : nextP row l i = none) : wayOf row (l :: r) i = none := by
  rw [wayOf, h]
theorem wayOf_some {row : List Int} {l : Int} {r : List Int} {i j : Nat} (h : nextP row l i = some j) : (wayOf row (l :: r) i).isSome = (wayOf row r j).isSome := by
  rw [wayOf, h]
  exact Option.isSome_map
theorem has_law_is_thin (G : Top T C) : Has T 1 "_law_is_thin" ["_law_row_here", "_law_out"] sp_law_is_thin := by
  refine has_of G.d_law_is_thin sc_law_is_thin hv_law_is_thin (fun ds h Q ⟨_, _, e, _⟩ => by subst e; rfl) (fun _ _ _ _ _ _ us hl => match us, hl with | [_, _], _ => rfl) fun X c ds h Q ⟨row, out, e, h1, q⟩ => ?_
  subst e
  refine lss_cons (ls_set c 2 rfl rfl (lx_int _ ?_))
  refine lss_cons (ls_for c (li_tup (lx_name c 1 rfl rfl rfl) ⟨fun i ρ hh => ∃ at_ : Nat, ρ = [some (rowD row), some (rowD out), some (.int (at_ : Nat)), none] ∧ hh = h ∧ at_ ≤ row.length ∧ thin row out = (wayOf row (out.drop i) at_).isSome, ⟨0, rfl, rfl, Nat.zero_le _, rfl⟩, fun _ _ _ _ => trivial, ?_, ?_⟩))
  · rintro i d ρ1 hh hd ⟨at_, rfl, rfl, hat, ht⟩
    obtain ⟨l, hl, rfl⟩ := map_get hd
    have hdr : out.drop i = l :: out.drop (i + 1) := by
      have hi := (List.getElem?_eq_some_iff.mp hl)
      rw [List.drop_eq_getElem_cons hi.1, hi.2]
    rw [hdr] at ht
    refine ⟨_, lg_name c 3 rfl rfl ?_⟩
    refine lss_cut (fun ρ' h' => ∃ a2 : Nat, ρ' = [some (rowD row), some (rowD out), some (.int (a2 : Nat)), some (.int l)] ∧ h' = hh ∧ at_ ≤ a2 ∧ a2 ≤ row.length ∧ (∀ j, at_ ≤ j → j < a2 → row[j]? ≠ some l) ∧ (a2 = row.length ∨ row[a2]? = some l)) ?_ ?_
    · refine ls_while c (fun m ρ hh' => ∃ a2 : Nat, m = row.length - a2 ∧ ρ = [some (rowD row), some (rowD out), some (.int (a2 : Nat)), some (.int l)] ∧ hh' = hh ∧ at_ ≤ a2 ∧ a2 ≤ row.length ∧ ∀ j, at_ ≤ j → j < a2 → row[j]? ≠ some l) (row.length - at_) ⟨at_, rfl, rfl, rfl, Nat.le_refl _, hat, fun j h1 h2 => by omega⟩ fun m ρ1 hh' hP => ?_
      obtain ⟨a2, rfl, rfl, rfl, hle, hle2, hno⟩ := hP
      refine (lb_w (lw_and (b2 := !decide (atF row a2 = l)) (lb_cmp (lx_name c 2 rfl rfl rfl) (lx_callB c cb_lenT (la_cons (lx_name c 0 rfl rfl rfl) la_nil) (by decide +kernel) G.b_len (by decide +kernel)) f2_lt) (fun hb => lw_and1 (lb_cmp (lx_ix (lx_name c 0 rfl rfl rfl) (lx_name c 2 rfl rfl rfl) (ix2_T (atI_nat' (by omega) (by rw [Int.toNat_natCast]; exact atF_get (by have := of_decide_eq_true hb; rw [List.length_map] at this; omega))))) (lx_name c 3 rfl rfl rfl) f2_neI)) (fun _ => rfl))) _ ⟨fun hb => ?_, fun hb => ?_⟩
      · rw [Bool.and_eq_true, decide_eq_true_eq, List.length_map, Bool.not_eq_true', decide_eq_false_iff_not] at hb
        refine lss_one (ls_set c 2 rfl rfl ((lx_eq (lx_bin (lx_name c 2 rfl rfl rfl) lx_int f2_add) (show D.int ((a2 : Int) + 1) = .int ((a2 + 1 : Nat)) by rw [Int.natCast_add]; rfl)) _ ?_))
        refine ⟨_, _, ?_, Sub.refl _, row.length - (a2 + 1), by omega, a2 + 1, rfl, rfl, rfl, by omega, by omega, fun j h1 h2 => ?_⟩
        · walk_at "fy wk"
        · rcases Nat.lt_or_ge j a2 with z | z
          · exact hno j h1 z
          · have : j = a2 := by omega
            subst this
            intro hz
            refine hb.2 ?_
            unfold atF
            rw [List.getD_eq_getElem?_getD, hz]
            rfl
      · refine ⟨a2, rfl, rfl, hle, hle2, hno, ?_⟩
        rw [Bool.and_eq_false_iff, decide_eq_false_iff_not, List.length_map, Bool.not_eq_false', decide_eq_true_eq] at hb
        rcases hb with hb | hb
        · exact .inl (by omega)
        · rcases Nat.lt_or_ge a2 row.length with z | z
          · refine .inr ?_
            have := atF_get z
            rw [hb, List.getElem?_map] at this
            obtain ⟨y, hy, hy2⟩ := Option.map_eq_some_iff.mp this
            cases hy2
            exact hy
          · exact .inl (by omega)
    · rintro ρ' h' ⟨a2, rfl, rfl, hle, hle2, hno, hor⟩
      refine lss_one (ls_ifB (bb := decide (a2 = row.length)) (lb_eq (lb_cmp (lx_name c 2 rfl rfl rfl) (lx_callB c cb_lenT (la_cons (lx_name c 0 rfl rfl rfl) la_nil) (by decide +kernel) G.b_len (by decide +kernel)) f2_eqI) (decide_eq_decide.mpr (by rw [List.length_map]; omega))) (fun hb => ?_) (fun hb => ?_))
      · have hz := of_decide_eq_true hb
        have hn : nextP row l at_ = none := nextP_none fun j hj hj2 => by
          have hlt := (List.getElem?_eq_some_iff.mp hj2).1
          exact hno j hj (by omega) hj2
        rw [wayOf_none hn] at ht
        refine lss_one (ls_ret (lx_bl _ (Fg.of ?_)))
        rw [ht] at q
        exact q
      · have hz := of_decide_eq_false hb
        have hr : row[a2]? = some l := by
          rcases hor with z | z
          · exact absurd z hz
          · exact z
        rw [wayOf_some (nextP_some hle hr hno)] at ht
        refine lss_nil ⟨_, _, ?_, Sub.refl _, a2, rfl, rfl, hle2, ht⟩
        walk_at "fy wk"
  · rintro ρ1 hh ⟨at_, rfl, rfl, hat, ht⟩
    rw [List.length_map, List.drop_length] at ht
    refine lss_one (ls_ret (lx_bl _ (Fg.of ?_)))
    rw [ht] at q
    exact q
end Fy
end
section
set_option linter.all false
set_option maxRecDepth 100000
set_option maxHeartbeats 4000000
namespace Fy
open PySem PySem.Spec PyProof.Rows L2
local macro_rules | `(tactic| walk_at "fy op") => `(tactic| first
  | exact f2_add | exact f2_sub | exact f2_cat (by first | assumption | omega | (simp only [List.length_append, cutD_len] <;> omega)) | exact f2_and | exact f2_mod (by omega) | exact f2_fdiv ⟨by omega, by omega⟩ | exact f2_mul (by unfold CMul; omega))
local macro_rules | `(tactic| walk_at "fy cmp") => `(tactic| first
  | exact f2_lt | exact f2_le | exact f2_gt | exact f2_ge | exact f2_eqI | exact f2_neI | exact f2_eqS | exact f2_isN | exact f2_notN)
local macro_rules | `(tactic| walk_at "fy ix") => `(tactic| first
  | exact ix2_T (by first | assumption | rfl) | exact ix2_L (by assumption) (by assumption))
local macro_rules | `(tactic| walk_at "fy wk") => `(tactic| repeat' (first | exact Paired.nil | exact True.intro | rfl | apply Paired.cons))
variable {T : Tx} {C : Addr} {X : Cx} {h : HD}
theorem sw_par {k : Nat} {N : List Str} {sc : Scope} {vt st : List Bool} {nx ny : Str} {px py pt : Pos} {kt k2 : Nat} {pt2 : Pos} {a b : Expr} (c : Ctx X T k N sc vt st) (hk : sc.kind = .function) (hx : sc.names.lookup nx = some .local) (hy : sc.names.lookup ny = some .local) (hn : [nx, ny].eraseDups.length = 2) (hl : (py.line == px.line) = true)
    (h1 : ([a, b].any fun | .Starred .. => true | _ => false) = false) (h2 : [a, b].all (foldedForSure 8) = false) (h3 : [a, b].all (constantsAlone 8) = false) : swappedStores [.Tuple [.Name nx px, .Name ny py] kt pt] (.Tuple [a, b] k2 pt2) X.env = pure (some [nx, ny]) := by
  have e1 : X.env.blockKind = .function := by unfold Env.blockKind; rw [c.hsc, hk]; rfl
  have e2 : X.env.kindOf nx = some .local := by show X.env.scope.names.lookup nx = _; rw [c.hsc]; exact hx
  have e3 : X.env.kindOf ny = some .local := by show X.env.scope.names.lookup ny = _; rw [c.hsc]; exact hy
  have hl2 : py.line = px.line := eq_of_beq hl
  have hf : ([Expr.Name nx px, .Name ny py].filterMap fun
    | .Name id pos => if X.env.kindOf id == some .local && pos.line == px.line then some id else none
    | _ => none) = [nx, ny] := by
    simp only [List.filterMap, e2, e3, hl2, beq_self_eq_true, Bool.and_true, if_true]
  unfold swappedStores
  dsimp only [pure_bind]
  refine (if_neg ?_).trans ((if_neg ?_).trans ((if_neg ?_).trans ((if_neg ?_).trans ((if_neg ?_).trans ?_))))
  · rw [e1]
    exact Bool.false_ne_true
  · exact fun z => Bool.false_ne_true (h1.symm.trans z)
  · have key : ∀ l : List Str, l = [nx, ny] → ¬ (l.length != 2 || l.eraseDups.length != l.length) = true := by
      rintro _ rfl
      rw [hn]
      exact Bool.false_ne_true
    exact key _ hf
  · exact fun z => Bool.false_ne_true (h2.symm.trans z)
  · exact fun z => Bool.false_ne_true (h3.symm.trans z)
  · exact congrArg (fun l => (pure (some l) : Sem (Option (List Str)))) hf
def Stp.pos : Stp → Nat
  | .dbl k => k
  | .strk k => k
  | .fly a _ _ => a
  | .cho k _ _ _ _ => k
theorem at_pos (s : Stp) : ∃ ds, stepD s = .tup ds ∧ atI ds 1 = some (.int (s.pos : Nat)) := by
  cases s <;> exact ⟨_, rfl, rfl⟩
theorem lx_pos {X : Cx} {ρ : Rho} {a : Expr} {s : Stp} {pos p2 : Pos} {kk : Nat} (ha : LX X a ρ h (stepD s) h) : LX X (.Subscript a (.Constant (.int 1) kk p2) pos) ρ h (.int (s.pos : Nat)) h := by
  obtain ⟨ds, e, h0⟩ := at_pos s
  rw [e] at ha
  exact lx_ix ha lx_int (ix2_T h0)
def sp_law_done : FS := fun ds h Q => ∃ (s : Stp) (L : List D) (q : Nat) (f : D → Int), ds = [stepD s, .tup L] ∧ s.word ≠ "choose" ∧ s.ok q L.length = true ∧ L.length ≤ 1000 ∧ Q (.tup (s.run f L)) h
theorem has_law_done (G : Top T C) : Has T 1 "_law_done" ["_law_step", "_law_lanes"] sp_law_done := by
  refine has_of G.d_law_done sc_law_done hv_law_done (fun ds h Q ⟨_, _, _, _, e, _⟩ => by subst e; rfl) (fun _ _ _ _ _ _ us hl => match us, hl with | [_, _], _ => rfl) fun X c ds h Q ⟨s, L, qn, f, e, hw, hok, hL, q⟩ => ?_
  subst e
  refine lss_cons (ls_par c (i := 2) (j := 3) rfl rfl (by decide) (by decide +kernel) (by decide +kernel) (la_cons (lx_word (s := s) (lx_name c 0 rfl rfl rfl)) (la_cons (lx_pos (s := s) (lx_name c 0 rfl rfl rfl)) la_nil)) ?_ (sw_par c rfl (by decide +kernel) (by decide +kernel) (by decide +kernel) rfl rfl rfl rfl))
  cases s with
  | dbl k =>
    have hk : k < L.length := of_decide_eq_true hok
    refine lss_cons (ls_ifB (bb := true) (lb_eq (lb_cmp (lx_name c 2 rfl rfl rfl) lx_str f2_eqS) (decide_eq_true rfl)) (fun _ => ?_) (fun z => nomatch z))
    refine lss_one (ls_ret ((lx_eq (lx_bin (lx_cutT (lx_name c 1 rfl rfl rfl) lo_none (lo_some (lx_eq (lx_bin (lx_name c 3 rfl rfl rfl) lx_int f2_add) (show D.int ((k : Int) + 1) = .int ((k + 1 : Nat)) by rw [Int.natCast_add]; rfl)))) (lx_cutT (lx_name c 1 rfl rfl rfl) (lo_some (lx_name c 3 rfl rfl rfl)) lo_none) (f2_cat ?_)) ?_) _ (Fg.of q)))
    · rw [cutD_to, cutD_from, List.length_take, List.length_drop]
      omega
    · rw [cutD_to, cutD_from]
      rfl
  | strk k =>
    have hk : k < L.length := of_decide_eq_true hok
    refine lss_cons (ls_ifB (bb := false) (lb_eq (lb_cmp (lx_name c 2 rfl rfl rfl) lx_str f2_eqS) (decide_eq_false (str_ne (x := "strike") (y := "double") (by decide +kernel)))) (fun z => nomatch z) (fun _ => lss_nil ?_))
    refine lss_cons (ls_ifB (bb := true) (lb_eq (lb_cmp (lx_name c 2 rfl rfl rfl) lx_str f2_eqS) (decide_eq_true rfl)) (fun _ => ?_) (fun z => nomatch z))
    refine lss_one (ls_ret ((lx_eq (lx_bin (lx_cutT (lx_name c 1 rfl rfl rfl) lo_none (lo_some (lx_name c 3 rfl rfl rfl))) (lx_cutT (lx_name c 1 rfl rfl rfl) (lo_some (lx_eq (lx_bin (lx_name c 3 rfl rfl rfl) lx_int f2_add) (show D.int ((k : Int) + 1) = .int ((k + 1 : Nat)) by rw [Int.natCast_add]; rfl))) lo_none) (f2_cat ?_)) ?_) _ (Fg.of q)))
    · rw [cutD_to, cutD_from, List.length_take, List.length_drop]
      omega
    · rw [cutD_to, cutD_from]
      rfl
  | fly a b d =>
    have hk : a < b ∧ b < d ∧ d ≤ L.length := of_decide_eq_true hok
    refine lss_cons (ls_ifB (bb := false) (lb_eq (lb_cmp (lx_name c 2 rfl rfl rfl) lx_str f2_eqS) (decide_eq_false (str_ne (x := "fly") (y := "double") (by decide +kernel)))) (fun z => nomatch z) (fun _ => lss_nil ?_))
    refine lss_cons (ls_ifB (bb := false) (lb_eq (lb_cmp (lx_name c 2 rfl rfl rfl) lx_str f2_eqS) (decide_eq_false (str_ne (x := "fly") (y := "strike") (by decide +kernel)))) (fun z => nomatch z) (fun _ => lss_nil ?_))
    refine lss_cons (ls_ifB (bb := true) (lb_eq (lb_cmp (lx_name c 2 rfl rfl rfl) lx_str f2_eqS) (decide_eq_true rfl)) (fun _ => ?_) (fun z => nomatch z))
    refine lss_cons (ls_par c (i := 4) (j := 5) rfl rfl (by decide) (by decide +kernel) (by decide +kernel) (la_cons (lx_ix (lx_name c 0 rfl rfl rfl) lx_int (ix2_T (z := .int (b : Nat)) rfl)) (la_cons (lx_ix (lx_name c 0 rfl rfl rfl) lx_int (ix2_T (z := .int (d : Nat)) rfl)) la_nil)) ?_ (sw_par c rfl (by decide +kernel) (by decide +kernel) (by decide +kernel) rfl rfl rfl rfl))
    refine lss_one (ls_ret ((lx_eq (lx_bin (lx_bin (lx_bin (lx_cutT (lx_name c 1 rfl rfl rfl) lo_none (lo_some (lx_name c 3 rfl rfl rfl))) (lx_cutT (lx_name c 1 rfl rfl rfl) (lo_some (lx_name c 4 rfl rfl rfl)) (lo_some (lx_name c 5 rfl rfl rfl))) (f2_cat ?_)) (lx_cutT (lx_name c 1 rfl rfl rfl) (lo_some (lx_name c 3 rfl rfl rfl)) (lo_some (lx_name c 4 rfl rfl rfl))) (f2_cat ?_)) (lx_cutT (lx_name c 1 rfl rfl rfl) (lo_some (lx_name c 5 rfl rfl rfl)) lo_none) (f2_cat ?_)) ?_) _ (Fg.of q)))
    · dsimp only [Stp.pos]
      rw [cutD_to, cutD_mid _ b d (by omega), List.length_take, List.length_take, List.length_drop]
      omega
    · dsimp only [Stp.pos]
      rw [cutD_to, cutD_mid _ b d (by omega), cutD_mid _ a b (by omega), List.length_append, List.length_take, List.length_take, List.length_take, List.length_drop, List.length_drop]
      omega
    · dsimp only [Stp.pos]
      rw [cutD_to, cutD_mid _ b d (by omega), cutD_mid _ a b (by omega), cutD_from, List.length_append, List.length_append, List.length_take, List.length_take, List.length_take, List.length_drop, List.length_drop, List.length_drop]
      omega
    · dsimp only [Stp.pos]
      rw [cutD_to, cutD_mid _ b d (by omega), cutD_mid _ a b (by omega), cutD_from]
      rfl
  | cho k w p key o => exact absurd rfl hw
def prD (row : List Int) (i : Nat) : D := .tup [.int (atF row i), .int (i : Nat)]
def fstI : D → Int
  | .tup (.int i :: _) => i
  | _ => 0
theorem exch_mapD {α β : Type} (g : α → β) (r : List α) (a b c : Nat) : (exch r a b c).map g = exch (r.map g) a b c := exch_map g r a b c
theorem run_map {row : List Int} (s : Stp) (L : List Nat) : (s.run (atF row) L).map (prD row) = s.run fstI (L.map (prD row)) := by
  have hf : ∀ M : List Nat, (M.map (prD row)).map fstI = M.map (atF row) := fun M => by rw [List.map_map]; rfl
  cases s with
  | dbl k =>
    unfold Stp.run
    simp only [List.map_append, List.map_take, List.map_drop]
  | strk k =>
    unfold Stp.run
    simp only [List.map_append, List.map_take, List.map_drop]
  | fly a b c => exact exch_map _ _ _ _ _
  | cho k w p key o =>
    unfold Stp.run
    simp only [List.map_append, List.map_take, List.map_drop]
    rw [← hf L]
def sp_law_came : FS := fun ds h Q => ∃ (ps : Addr) (row : List Int) (ss : List Stp) (q : Nat), ds = [.ref ps, rowD row] ∧ h ps = some (.lst (ss.map stepD)) ∧ cans q row.length ss = true ∧ 1 ≤ row.length ∧ row.length ≤ 12 ∧ Q (rowD (iN (srcs row ss))) h
theorem take_one {α : Type} {L : List α} {i : Nat} {x : α} (h : L[i]? = some x) : (L.drop i).take 1 = [x] := by
  obtain ⟨h1, h2⟩ := List.getElem?_eq_some_iff.mp h
  rw [List.drop_eq_getElem_cons h1, h2]
  rfl
theorem has_law_came (G : Top T C) : Has T 2 "_law_came" ["_law_steps_here", "_law_row_here"] sp_law_came := by
  refine has_of G.d_law_came sc_law_came hv_law_came (fun ds h Q ⟨_, _, _, _, e, _⟩ => by subst e; rfl) (fun _ _ _ _ _ _ us hl => match us, hl with | [_, _], _ => rfl) fun X c ds h Q ⟨ps, row, ss, qn, e, eps, hcan, hr1, hr12, q⟩ => ?_
  subst e
  have er : rngD 0 (((row.map D.int).length : Int)).toNat = natsD (List.range row.length) := by rw [Int.toNat_natCast, List.length_map, rngD_nats]
  refine lss_cons (ls_set c 2 rfl rfl ((lx_callTyL (z := .tup ((List.range row.length).map (prD row))) c (fun p hp => cb_tupL updD_same) (ll_comp c (own := [("_law_k", 9)]) (rs := (List.range row.length).map (prD row)) (ds := natsD (List.range row.length)) (by decide +kernel) (is := [9]) (by simp) (fun d => [some (.ref ps), some (rowD row), none, none, none, none, none, none, none, some d, none, none]) (fun R kk => li_range1 c (lx_callB c cb_lenT (la_cons (lx_name c 1 rfl rfl rfl) la_nil) (by decide +kernel) G.b_len (by decide +kernel)) (by decide +kernel) G.b_range ⟨by rw [List.length_map]; omega, by omega⟩ (by rw [er]; exact kk _ _ (Sub.refl _) fun _ _ _ => trivial)) (by rw [natsD_len, List.length_map]) (by rw [natsD_len, List.length_range]; omega) (fun i d hd X' b => lg_name (blk_ctx c b rfl rfl) 9 rfl rfl rfl) (fun i d d' hh hd hd' sb X' b => ?_)) (by decide +kernel) G.b_tuple (by decide +kernel)) _ ?_))
  · obtain ⟨j, hj, rfl⟩ := map_get hd
    have hjl : j < row.length := List.mem_range.mp (List.mem_of_getElem? hj)
    rw [List.getElem?_map, hj] at hd'
    cases hd'
    exact lx_tup (la_cons (lx_ix (lx_name (blk_ctx c b rfl rfl) 1 rfl rfl rfl) (lx_name (blk_ctx c b rfl rfl) 9 rfl rfl rfl) (ix2_T (atI_nat' (by omega) (by rw [Int.toNat_natCast]; exact atF_get hjl)))) (la_cons (lx_name (blk_ctx c b rfl rfl) 9 rfl rfl rfl) la_nil))
  refine lss_cons (ls_for c (li_list (lx_name c 0 rfl rfl rfl) eps ⟨fun i ρ hh => ρ = [some (.ref ps), some (rowD row), some (.tup ((runs (atF row) (ss.take i) (List.range row.length)).map (prD row))), none, none, none, none, none, none, none, none, none] ∧ hh = h, ⟨rfl, rfl⟩, fun i ρ hh hP => by rw [hP.2]; exact eps, ?_, ?_⟩))
  · rintro i d ρ1 hh hd ⟨rfl, rfl⟩
    obtain ⟨s, hs, rfl⟩ := map_get hd
    have hok := can_ok (cans_at hcan hs)
    have hlb := lanes_le (cans_take i hcan) hr1 (by omega : row.length ≤ 1000)
    have hl : (runs (atF row) (ss.take i) (List.range row.length)).length = lanesB row.length (ss.take i) := by
      have := runs_len (f := atF row) (q := qn) (ss := ss.take i) (L := List.range row.length) (by rw [List.length_range]; exact cans_take i hcan)
      rwa [List.length_range] at this
    have hrun : runs (atF row) (ss.take (i + 1)) (List.range row.length) = s.run (atF row) (runs (atF row) (ss.take i) (List.range row.length)) := runs_take hs
    rw [← hl] at hok hlb
    have hmap := run_map (row := row) s (runs (atF row) (ss.take i) (List.range row.length))
    generalize runs (atF row) (ss.take i) (List.range row.length) = L at hl hrun hok hlb hmap
    refine ⟨_, lg_name c 3 rfl rfl ?_⟩
    refine lss_one (ls_ifB (bb := decide (s.word = "choose")) (lb_cmp (lx_word (s := s) (lx_name c 3 rfl rfl rfl)) lx_str f2_eqS) (fun hb => ?_) (fun hb => ?_))
    · cases s with
      | dbl _ => exact absurd (of_decide_eq_true hb) (str_ne (x := "double") (y := "choose") (by decide +kernel))
      | strk _ => exact absurd (of_decide_eq_true hb) (str_ne (x := "strike") (y := "choose") (by decide +kernel))
      | fly _ _ _ => exact absurd (of_decide_eq_true hb) (str_ne (x := "fly") (y := "choose") (by decide +kernel))
      | cho k w p key o =>
        have ho : k < L.length ∧ 2 ≤ w ∧ w ≤ 3 ∧ k + w ≤ L.length ∧ p < w ∧ key.length = w ∧ (∀ x ∈ key, 0 ≤ x ∧ x < (qn : Nat)) ∧ o < w := of_decide_eq_true hok.1
        refine lss_cons (ls_set c 4 rfl rfl ((lx_ix (lx_name c 3 rfl rfl rfl) lx_int (ix2_T (z := .int (k : Nat)) rfl)) _ ?_))
        refine lss_cons (ls_set c 5 rfl rfl ((lx_eq (lx_cutT (lx_name c 2 rfl rfl rfl) (lo_some (lx_name c 4 rfl rfl rfl)) (lo_some (lx_eq (lx_bin (lx_name c 4 rfl rfl rfl) (lx_ix (lx_name c 3 rfl rfl rfl) lx_int (ix2_T (z := .int (w : Nat)) rfl)) f2_add) (show D.int ((k : Int) + (w : Nat)) = .int ((k + w : Nat)) by rw [Int.natCast_add])))) (show _ = D.tup (((L.drop k).take w).map (prD row)) by rw [cutD_mid _ _ _ (by omega), show k + w - k = w by omega, List.map_take, List.map_drop])) _ ?_))
        refine lss_cons (ls_set c 6 rfl rfl ((lx_ix (lx_name c 3 rfl rfl rfl) lx_int (ix2_T (z := .int (p : Nat)) rfl)) _ ?_))
        refine lss_cut (fun ρ' h' => ∃ y1 y2, ρ' = [some (.ref ps), some (rowD row), some (.tup (L.map (prD row))), some (stepD (.cho k w p key o)), some (.int (k : Nat)), some (.tup (((L.drop k).take w).map (prD row))), some (.int ((if ((L.drop k).take w).map (atF row) = key then o else p : Nat))), y1, y2, none, none, none] ∧ h' = hh) ?_ ?_
        · refine ls_for c (li_tupF (lx_ix (lx_name c 3 rfl rfl rfl) lx_int (ix2_T (z := .tupF [.tup [rowD key, .int (o : Nat)]]) rfl)) ⟨fun j ρ hh' => ∃ y1 y2, ρ = [some (.ref ps), some (rowD row), some (.tup (L.map (prD row))), some (stepD (.cho k w p key o)), some (.int (k : Nat)), some (.tup (((L.drop k).take w).map (prD row))), some (.int ((if j = 0 then p else if ((L.drop k).take w).map (atF row) = key then o else p : Nat))), y1, y2, none, none, none] ∧ hh' = hh, ⟨none, none, rfl, rfl⟩, fun _ _ _ _ => trivial, ?_, ?_⟩)
          · rintro j d ρ1 hh' hd2 ⟨y1, y2, rfl, rfl⟩
            have hj : j = 0 := by
              have := (List.getElem?_eq_some_iff.mp hd2).1
              exact Nat.lt_one_iff.mp this
            subst hj
            cases hd2
            refine ⟨_, lg_tup c (lgs_cons (lg_name c 7 rfl rfl (lgs_cons (lg_name c 8 rfl rfl (lgs_nil ?_))))) rfl⟩
            refine lss_one (ls_ifB (bb := decide (key = ((L.drop k).take w).map (atF row))) (lb_eq (lb_cmp (lx_name c 7 rfl rfl rfl) (lx_callTyL (z := rowD (((L.drop k).take w).map (atF row))) c (fun p hp => cb_tupL updD_same) (ll_comp c (own := [("_law_letter", 10), ("_law_source", 11)]) (rs := (((L.drop k).take w).map (atF row)).map D.int) (ds := ((L.drop k).take w).map (prD row)) (by decide +kernel) (is := [10] ++ ([11] ++ [])) (by simp) (pairF [some (.ref ps), some (rowD row), some (.tup (L.map (prD row))), some (stepD (.cho k w p key o)), some (.int (k : Nat)), some (.tup (((L.drop k).take w).map (prD row))), some (.int (p : Nat)), some (rowD key), some (.int (o : Nat)), none]) (fun R kk => li_tup (lx_name c 5 rfl rfl rfl) (kk _ _ (Sub.refl _) fun _ _ _ => trivial)) (by simp only [List.length_map]) (by rw [List.length_map, List.length_take]; omega) (fun i d hd X' b => ?_) (fun i d d' hh2 hd hd' sb X' b => ?_)) (by decide +kernel) G.b_tuple (by decide +kernel)) (f2_eqD c ok_row ok_row)) eqb_rows) (fun hb => ?_) (fun hb => ?_))
            · obtain ⟨y, hy, rfl⟩ := map_get hd
              exact lg_tup (blk_ctx c b rfl rfl) (lgs_cons (lg_name (blk_ctx c b rfl rfl) 10 rfl rfl (lgs_cons (lg_name (blk_ctx c b rfl rfl) 11 rfl rfl (lgs_nil rfl))))) rfl
            · obtain ⟨y, hy, rfl⟩ := map_get hd
              rw [List.getElem?_map, List.getElem?_map, hy] at hd'
              cases hd'
              exact lx_name (blk_ctx c b rfl rfl) 10 rfl rfl rfl
            · have hk := of_decide_eq_true hb
              refine lss_one (ls_set c 6 rfl rfl ((lx_name c 8 rfl rfl rfl) _ ?_))
              refine ⟨_, _, ?_, Sub.refl _, some (rowD key), some (.int (o : Nat)), rfl, rfl⟩
              rw [if_neg (Nat.succ_ne_zero _), if_pos hk.symm]
              walk_at "fy wk"
            · have hk := of_decide_eq_false hb
              refine lss_nil ⟨_, _, ?_, Sub.refl _, some (rowD key), some (.int (o : Nat)), rfl, rfl⟩
              rw [if_neg (Nat.succ_ne_zero _), if_neg (fun z => hk z.symm)]
              walk_at "fy wk"
          · rintro ρ1 hh' ⟨y1, y2, rfl, rfl⟩
            exact ⟨y1, y2, rfl, rfl⟩
        · rintro ρ' h' ⟨y1, y2, rfl, rfl⟩
          have hpw : (if ((L.drop k).take w).map (atF row) = key then o else p) < w := by
            split <;> omega
          have hrun2 : (Stp.cho k w p key o).run (atF row) L = L.take k ++ (L.drop (k + (if ((L.drop k).take w).map (atF row) = key then o else p))).take 1 ++ L.drop (k + w) := rfl
          rw [hrun2] at hrun
          generalize (if ((L.drop k).take w).map (atF row) = key then o else p) = pl at hpw hrun
          obtain ⟨y, hy⟩ : ∃ y, L[k + pl]? = some y := ⟨_, List.getElem?_eq_getElem (by omega)⟩
          rw [take_one hy] at hrun
          have hy2 : (((L.drop k).take w).map (prD row))[pl]? = some (prD row y) := by
            rw [List.getElem?_map, List.getElem?_take_of_lt hpw, List.getElem?_drop, hy]
            rfl
          refine lss_one (ls_set c 2 rfl rfl ((lx_eq (lx_bin (lx_bin (lx_cutT (lx_name c 2 rfl rfl rfl) lo_none (lo_some (lx_name c 4 rfl rfl rfl))) (lx_tup (la_cons (lx_ix (lx_name c 5 rfl rfl rfl) (lx_name c 6 rfl rfl rfl) (ix2_T (atI_nat' (by omega) (by rw [Int.toNat_natCast]; exact hy2)))) la_nil)) (f2_cat ?_)) (lx_cutT (lx_name c 2 rfl rfl rfl) (lo_some (lx_eq (lx_bin (lx_name c 4 rfl rfl rfl) (lx_ix (lx_name c 3 rfl rfl rfl) lx_int (ix2_T (z := .int (w : Nat)) rfl)) f2_add) (show D.int ((k : Int) + (w : Nat)) = .int ((k + w : Nat)) by rw [Int.natCast_add]))) lo_none) (f2_cat ?_)) (show _ = D.tup ((runs (atF row) (ss.take (i + 1)) (List.range row.length)).map (prD row)) by rw [hrun, cutD_to, cutD_from, List.map_append, List.map_append, List.map_take, List.map_drop]; rfl)) _ ?_))
          · rw [cutD_to, List.length_take, List.length_map]
            show _ + 1 ≤ _
            omega
          · rw [cutD_to, cutD_from, List.length_append, List.length_take, List.length_drop, List.length_map]
            show _ + 1 + _ ≤ _
            omega
          · refine ⟨_, _, ?_, Sub.refl _, rfl, rfl⟩
            walk_at "fy wk"
    · have hw := of_decide_eq_false hb
      refine lss_one (ls_set c 2 rfl rfl ((lx_call (z := .tup ((runs (atF row) (ss.take (i + 1)) (List.range row.length)).map (prD row))) c (has_law_done G) (by decide) (by decide +kernel) (la_cons (lx_name c 3 rfl rfl rfl) (la_cons (lx_name c 2 rfl rfl rfl) la_nil)) fun Q q => ⟨s, L.map (prD row), qn, fstI, rfl, hw, by rw [List.length_map]; exact hok.1, by rw [List.length_map]; omega, by rw [← hmap, ← hrun]; exact q⟩) _ ?_))
      refine ⟨_, _, ?_, Sub.refl _, rfl, rfl⟩
      walk_at "fy wk"
  · rintro ρ1 hh ⟨rfl, rfl⟩
    rw [List.length_map, List.take_length]
    have hm : ∀ x ∈ srcs row ss, x < row.length := fun x hx => srcs_mem hx
    have hln := srcs_len (row := row) (ss := ss) (q := qn) hcan
    have hlb := lanes_le hcan hr1 (by omega : row.length ≤ 1000)
    refine lss_one (ls_ret ((lx_callTyL (z := rowD (iN (srcs row ss))) c (fun p hp => cb_tupL updD_same) (ll_comp c (own := [("_law_letter", 10), ("_law_source", 11)]) (rs := (iN (srcs row ss)).map D.int) (ds := (srcs row ss).map (prD row)) (by decide +kernel) (is := [10] ++ ([11] ++ [])) (by simp) (pairF [some (.ref ps), some (rowD row), some (.tup ((srcs row ss).map (prD row))), none, none, none, none, none, none, none]) (fun R kk => li_tup (lx_name c 2 rfl rfl rfl) (kk _ _ (Sub.refl _) fun _ _ _ => trivial)) (by unfold iN; simp only [List.length_map]) (by rw [List.length_map]; omega) (fun i d hd X' b => ?_) (fun i d d' hh2 hd hd' sb X' b => ?_)) (by decide +kernel) G.b_tuple (by decide +kernel)) _ (Fg.of q)))
    · obtain ⟨y, hy, rfl⟩ := map_get hd
      exact lg_tup (blk_ctx c b rfl rfl) (lgs_cons (lg_name (blk_ctx c b rfl rfl) 10 rfl rfl (lgs_cons (lg_name (blk_ctx c b rfl rfl) 11 rfl rfl (lgs_nil rfl))))) rfl
    · obtain ⟨y, hy, rfl⟩ := map_get hd
      unfold iN at hd'
      rw [List.getElem?_map, List.getElem?_map, hy] at hd'
      cases hd'
      exact lx_name (blk_ctx c b rfl rfl) 11 rfl rfl rfl
end Fy
end
section
set_option linter.all false
set_option maxRecDepth 100000
set_option maxHeartbeats 4000000
namespace Fy
open PySem PySem.Spec PyProof.Rows L2
local macro_rules | `(tactic| walk_at "fy op") => `(tactic| first
  | exact f2_add | exact f2_sub | exact f2_cat (by first | assumption | omega | (simp only [List.length_append, cutD_len] <;> omega)) | exact f2_and | exact f2_mod (by omega) | exact f2_fdiv ⟨by omega, by omega⟩ | exact f2_mul (by unfold CMul; omega))
local macro_rules | `(tactic| walk_at "fy cmp") => `(tactic| first
  | exact f2_lt | exact f2_le | exact f2_gt | exact f2_ge | exact f2_eqI | exact f2_neI | exact f2_eqS | exact f2_isN | exact f2_notN)
local macro_rules | `(tactic| walk_at "fy ix") => `(tactic| first
  | exact ix2_T (by first | assumption | rfl) | exact ix2_L (by assumption) (by assumption))
local macro_rules | `(tactic| walk_at "fy wk") => `(tactic| repeat' (first | exact Paired.nil | exact True.intro | rfl | apply Paired.cons))
variable {T : Tx} {C : Addr} {X : Cx} {h : HD}
def SD (W : BW) : List (List Key × D) := W.map fun p => (rowK p.1, .bl true)
theorem valD_SD (W : BW) (r : List Int) : (valD (SD W) (rowK r)).isSome = decide (r ∈ W.map (·.1)) := by
  unfold valD SD
  rw [Option.isSome_map]
  induction W with
  | nil => rfl
  | cons p W ih =>
    rw [List.map_cons, List.find?_cons, List.map_cons]
    by_cases h : p.1 = r
    · rw [h]
      simp
    · have h1 : ¬ rowK p.1 = rowK r := fun z => h (rowK_inj z)
      have h2 : ¬ r = p.1 := fun z => h z.symm
      rw [decide_eq_false h1]
      dsimp only
      rw [ih]
      simp [h2]
theorem putD_SD {W : BW} {t : List Int} {d : Nat} (h : t ∉ W.map (·.1)) : putD (SD W) (rowK t) (.bl true) = SD (W ++ [(t, d)]) := by
  have h1 : ((SD W).any fun kv => decide (kv.1 = rowK t)) = false := by
    rw [List.any_eq_false]
    intro x hx
    unfold SD at hx
    obtain ⟨p, hp, rfl⟩ := List.mem_map.mp hx
    intro z
    exact h (List.mem_map.mpr ⟨p, hp, rowK_inj (of_decide_eq_true z)⟩)
  unfold putD
  rw [h1, if_neg Bool.false_ne_true]
  unfold SD
  rw [List.map_append]
  rfl
theorem bfs_prefix (es : List (Nat × Nat × Nat)) (W0 : BW) : ∀ k, ∃ V, bfs es W0 (k + 1) = bfs es W0 k ++ V := by
  intro k
  rw [bfs]
  split
  · exact bTurn_app _ _ _ _
  · exact ⟨[], (List.append_nil _).symm⟩
theorem bfs_prefix' (es : List (Nat × Nat × Nat)) (W0 : BW) {k : Nat} : ∀ j, ∃ V, bfs es W0 (k + j) = bfs es W0 k ++ V
  | 0 => ⟨[], (List.append_nil _).symm⟩
  | j + 1 => by
    obtain ⟨V, h1⟩ := bfs_prefix' es W0 (k := k) j
    obtain ⟨V2, h2⟩ := bfs_prefix es W0 (k + j)
    exact ⟨V ++ V2, by rw [← Nat.add_assoc, h2, h1, List.append_assoc]⟩
theorem bfs_at {es : List (Nat × Nat × Nat)} {W0 : BW} {k k' x : Nat} {p : List Int × Nat} (h : (bfs es W0 k)[x]? = some p) (hk : k ≤ k') : (bfs es W0 k')[x]? = some p := by
  obtain ⟨j, rfl⟩ := Nat.le.dest hk
  obtain ⟨V, e⟩ := bfs_prefix' es W0 (k := k) j
  rw [e, List.getElem?_append_left (List.getElem?_eq_some_iff.mp h).1]
  exact h
theorem bfs_at' {es : List (Nat × Nat × Nat)} {W0 : BW} {k k' x : Nat} {p : List Int × Nat} (h : (bfs es W0 k')[x]? = some p) (hk : k ≤ k') (hx : x < (bfs es W0 k).length) : (bfs es W0 k)[x]? = some p := by
  obtain ⟨j, rfl⟩ := Nat.le.dest hk
  obtain ⟨V, e⟩ := bfs_prefix' es W0 (k := k) j
  rw [e, List.getElem?_append_left hx] at h
  exact h
theorem bfs_len_le {es : List (Nat × Nat × Nat)} {W0 : BW} {k k' : Nat} (hk : k ≤ k') : (bfs es W0 k).length ≤ (bfs es W0 k').length := by
  obtain ⟨j, rfl⟩ := Nat.le.dest hk
  obtain ⟨V, e⟩ := bfs_prefix' es W0 (k := k) j
  rw [e, List.length_append]
  omega
def StopAt (P : List Int → Bool) (s : List Int) (d : Nat) : Prop := s.length ≤ 20 ∧ ∃ (K : Nat) (rr : List Int), (∀ j, j ≤ K → (bfs (exs s.length) [(s, 0)] j).length ≤ 40000) ∧ (bfs (exs s.length) [(s, 0)] K)[K]? = some (rr, d) ∧ P rr = true ∧
  (∀ j, j < K → ∃ r' d', (bfs (exs s.length) [(s, 0)] j)[j]? = some (r', d') ∧ P r' = false)
theorem bTurn_cat (es es' : List (Nat × Nat × Nat)) (W : BW) (r : List Int) (d : Nat) : bTurn (es ++ es') W r d = bTurn es' (bTurn es W r d) r d := by
  unfold bTurn
  rw [List.foldl_append]
structure LInv (h0 : HD) (pl ps pf : Addr) (lay : List D) (hi i : Nat) (W : BW) (hh : HD) : Prop where
  sb : Sub h0 hh
  s0 : h0 ps = none
  f0 : h0 pf = none
  ne : pl ≠ pf
  l : hh pl = some (.lst lay)
  s : hh ps = some (.dT (SD W))
  f : hh pf = some (.lst ((WL W).drop hi))
  le : hi ≤ W.length
  dp : ∀ p ∈ W.drop hi, p.2 = i + 1
theorem LInv.add {h0 hh : HD} {pl ps pf : Addr} {lay : List D} {hi i : Nat} {W : BW} (I : LInv h0 pl ps pf lay hi i W hh) (t : List Int) : LInv h0 pl ps pf lay hi i (W ++ [(t, i + 1)]) (updD (updD hh ps (.dT (SD (W ++ [(t, i + 1)])))) pf (.lst ((WL W).drop hi ++ [rowD t]))) := by
  have n1 : ps ≠ pf := neD I.s I.f (fun z => nomatch z)
  have n2 : pl ≠ ps := neD I.l I.s (fun z => nomatch z)
  have hle := I.le
  refine ⟨(I.sb.put _ I.s0).put _ I.f0, I.s0, I.f0, I.ne, by rw [updD_ne I.ne, updD_ne n2]; exact I.l, by rw [updD_ne n1]; exact updD_same, ?_, by rw [List.length_append]; omega, fun p hp => ?_⟩
  · rw [updD_same]
    unfold WL
    rw [List.map_append, List.drop_append_of_le_length (by rw [List.length_map]; exact hle)]
    rfl
  · rw [List.drop_append_of_le_length hle] at hp
    rcases List.mem_append.mp hp with z | z
    · exact I.dp p z
    · rw [List.mem_singleton.mp z]
theorem ex_cut (r : List Int) {a b c : Nat} (h1 : a ≤ b) (h2 : b ≤ c) : D.tup (cutD (r.map D.int) none (some (a : Nat)) ++ cutD (r.map D.int) (some (b : Nat)) (some (c : Nat)) ++ cutD (r.map D.int) (some (a : Nat)) (some (b : Nat)) ++ cutD (r.map D.int) (some (c : Nat)) none) = rowT (exch r a b c) := by
  rw [rowT_eq]
  unfold rowD
  rw [exch_map, cutD_to, cutD_mid _ b c h2, cutD_mid _ a b h1, cutD_from]
  rfl
theorem range_flat_pre {β : Type} (f : Nat → List β) (i : Nat) : ∀ j, ∃ V, (List.range (i + j)).flatMap f = (List.range i).flatMap f ++ V
  | 0 => ⟨[], (List.append_nil _).symm⟩
  | j + 1 => by
    obtain ⟨V, h⟩ := range_flat_pre f i j
    exact ⟨V ++ f (i + j), by rw [← Nat.add_assoc, range_flat_succ, h, List.append_assoc]⟩
def sp_law_unknotted : FS := fun ds h Q => ∃ (s : List Int) (d : Nat), ds = [rowD s] ∧ UnkAt s d ∧ Q (.int (d : Nat)) h
theorem has_law_unknotted (G : Top T C) : Has T 2 "_law_unknotted" ["_law_knot"] sp_law_unknotted := by
  refine has_of G.d_law_unknotted sc_law_unknotted hv_law_unknotted (fun ds h Q ⟨r, _, e, _⟩ => by subst e; rfl) (fun _ _ _ _ _ _ us hl => match us, hl with | [_], _ => rfl) fun X c ds h Q ⟨s, d, e, ⟨hn, K, rr, hlen, hK, hP1, hno⟩, q⟩ => ?_
  subst e
  generalize hes : exs s.length = es at hlen hK hno
  have nd : (([(s, 0)] : BW).map (·.1)).Nodup := by simp
  have ln : ∀ p ∈ ([(s, 0)] : BW), p.1.length = s.length := fun p hp => by rw [List.mem_singleton.mp hp]
  have lens : ∀ k, ∀ p ∈ bfs es [(s, 0)] k, p.1.length = s.length := by rw [← hes]; exact bfs_lens ln
  have hel : es.length ≤ 8000 := by rw [← hes]; exact exs_len _ hn
  refine lss_cons (ls_set c 1 rfl rfl ((ll_disp (la_cons (lx_name c 0 rfl rfl rfl) la_nil)) _ fun pl hpl => ?_))
  refine lss_cons (ls_set c 2 rfl rfl (le_dispT (ks := rowK s) (d := .bl true) c (fun hh => lx_eq (lx_name c 0 rfl rfl rfl) (rowT_eq s).symm) (fun hh => lx_bl) fun ps hps => ?_))
  obtain ⟨hps0, nsl⟩ := fresh2 hps
  refine lss_cons (ls_set c 3 rfl rfl (lx_int _ ?_))
  refine lss_cons (ls_while c (fun mm ρ hh => ∃ lo i pl, mm = K - lo ∧ lo ≤ K ∧ ρ = [some (rowD s), some (.ref pl), some (.ref ps), some (.int (i : Nat)), none, none, none, none, none, none] ∧ Sub h hh ∧ h ps = none ∧ h pl = none ∧ hh ps = some (.dT (SD (bfs es [(s, 0)] lo))) ∧ hh pl = some (.lst ((WL (bfs es [(s, 0)] lo)).drop lo)) ∧ ∀ p ∈ (bfs es [(s, 0)] lo).drop lo, p.2 = i) K ⟨0, 0, pl, rfl, Nat.zero_le _, rfl, (Sub.new hpl).trans (Sub.new hps), hps0, hpl, by rw [updD_same]; rfl, by rw [updD_ne nsl.symm, updD_same]; rfl, fun p hp => by rw [List.mem_singleton.mp hp]⟩ fun mm ρ1 hh hP => ?_)
  obtain ⟨lo, i, pl, rfl, hloK, rfl, sb, es0, el0, eS, eL, hdp⟩ := hP
  generalize hWl : bfs es [(s, 0)] lo = Wl at eS eL hdp
  have hWlen : Wl.length ≤ 40000 := by rw [← hWl]; exact hlen lo hloK
  have hWs : ∀ p ∈ Wl, p.1.length = s.length := by rw [← hWl]; exact lens lo
  have hhi : lo < Wl.length := by
    rcases Nat.lt_or_ge lo K with z | z
    · obtain ⟨r', d', e1, _⟩ := hno lo z
      rw [hWl] at e1
      exact (List.getElem?_eq_some_iff.mp e1).1
    · have : lo = K := by omega
      subst this
      rw [hWl] at hK
      exact (List.getElem?_eq_some_iff.mp hK).1
  have lay_get : ∀ {x : Nat} {d : D}, ((WL Wl).drop lo)[x]? = some d → ∃ r, Wl[lo + x]? = some (r, i) ∧ d = rowD r := fun {x d} hx => by
    unfold WL at hx
    rw [List.getElem?_drop] at hx
    obtain ⟨⟨r, dr⟩, h1, rfl⟩ := map_get hx
    have h2 := hdp (r, dr) (List.mem_of_getElem? (i := x) (by rw [List.getElem?_drop]; exact h1))
    dsimp only at h2
    exact ⟨r, by rw [h1, h2], rfl⟩
  have hlayl : ((WL Wl).drop lo).length = Wl.length - lo := by
    unfold WL
    rw [List.length_drop, List.length_map]
  obtain ⟨any, hany⟩ : ∃ any : Bool, any = ((Wl.drop lo).any fun p => rises p.1) := ⟨_, rfl⟩
  have stop : any = true → d = i := fun ha => by
    rw [hany] at ha
    obtain ⟨p, hp, hp2⟩ := List.any_eq_true.mp ha
    obtain ⟨x, hx⟩ := List.getElem?_of_mem hp
    rw [List.getElem?_drop] at hx
    have hKx : K ≤ lo + x := by
      rcases Nat.lt_or_ge (lo + x) K with z | z
      · obtain ⟨r', d', e1, e2⟩ := hno _ z
        have := bfs_at (es := es) (W0 := [(s, 0)]) (k := lo) (k' := lo + x) (x := lo + x) (p := p) (by rw [hWl]; exact hx) (Nat.le_add_right _ _)
        rw [e1] at this
        cases this
        dsimp only at hp2
        rw [e2] at hp2
        cases hp2
      · exact z
    have hxl := (List.getElem?_eq_some_iff.mp hx).1
    have h1 := bfs_at' (k := lo) hK hloK (by rw [hWl]; omega)
    rw [hWl] at h1
    exact hdp (rr, d) (List.mem_of_getElem? (i := K - lo) (by rw [List.getElem?_drop, show lo + (K - lo) = K by omega]; exact h1))
  have goon : any = false → Wl.length ≤ K := fun ha => by
    rw [hany] at ha
    rcases Nat.lt_or_ge K Wl.length with z | z
    · have h1 := bfs_at' (k := lo) hK hloK (by rw [hWl]; exact z)
      rw [hWl] at h1
      have := List.any_eq_false.mp ha (rr, d) (List.mem_of_getElem? (i := K - lo) (by rw [List.getElem?_drop, show lo + (K - lo) = K by omega]; exact h1))
      exact absurd hP1 this
    · exact z
  have hlay : (WL Wl).drop lo = ((Wl.drop lo).map (·.1)).map rowD := by
    simp only [WL, List.map_drop, List.map_map]
    rfl
  refine (lb_not (lb_val (lx_eq (lx_callBL c (fun p hp => cb_any c (bs := ((Wl.drop lo).map (·.1)).map rises) updD_same) (ll_comp c (own := [("_law_there", 4)]) (ds := (WL Wl).drop lo) (rs := (((Wl.drop lo).map (·.1)).map rises).map D.bl) (by decide +kernel) (is := [4]) (by simp) (fun d => [some (rowD s), some (.ref pl), some (.ref ps), some (.int (i : Nat)), some d, none, none, none, none, none]) (fun R kk => li_list (lx_name c 1 rfl rfl rfl) eL (kk _ _ (Sub.refl _) fun p3 acc hp3 => by rw [updD_ne (neN eL hp3)]; exact eL)) (by rw [hlayl, List.length_map, List.length_map, List.length_map, List.length_drop]) (by rw [hlayl]; omega) (fun x d hd X' b => lg_name (blk_ctx c b rfl rfl) 4 rfl rfl rfl) (fun x d d' hh hd hd' sb X' b => ?_)) (by decide +kernel) G.b_any (by decide +kernel)) (show _ = D.bl any by rw [hany, List.any_map, List.any_map]; rfl)))) _ ⟨fun hb => ?_, fun hb => ?_⟩
  · rw [hlay] at hd
    obtain ⟨r, hr, rfl⟩ := map_get hd
    rw [List.getElem?_map, List.getElem?_map, hr] at hd'
    cases hd'
    have hrl : r.length = s.length := by
      obtain ⟨p, hp, rfl⟩ := List.mem_map.mp (List.mem_of_getElem? hr)
      exact hWs p (List.mem_of_mem_drop hp)
    exact lx_call (blk_ctx c b rfl rfl) (has_law_rises G) (by decide) (by decide +kernel) (la_cons (lx_name (blk_ctx c b rfl rfl) 4 rfl rfl rfl) la_nil) fun Q q => ⟨r, rfl, by omega, q⟩
  · have hgo := goon (by rwa [Bool.not_eq_true'] at hb)
    refine lss_cons (ls_set c 5 rfl rfl ((ll_disp la_nil) _ fun pf hpf => ?_))
    have hpf0 : h pf = none := by
      cases hz : h pf with
      | none => rfl
      | some o => rw [sb _ _ hz] at hpf; cases hpf
    have I0 : LInv h pl ps pf ((WL Wl).drop lo) Wl.length i (bfs es [(s, 0)] (lo + 0)) (updD hh pf (.lst [])) := by
      rw [Nat.add_zero, hWl]
      refine ⟨sb.trans (Sub.new hpf), es0, hpf0, neN eL hpf, by rw [updD_ne (neN eL hpf)]; exact eL, by rw [updD_ne (neN eS hpf)]; exact eS, ?_, Nat.le_refl _, fun p hp => ?_⟩
      · rw [updD_same]
        unfold WL
        rw [List.drop_eq_nil_of_le (by rw [List.length_map]; exact Nat.le_refl _)]
      · rw [List.drop_length] at hp
        cases hp
    refine lss_cut (fun ρ' h' => ρ' = [some (rowD s), some (.ref pl), some (.ref ps), some (.int (i : Nat)), none, some (.ref pf), none, none, none, none] ∧ LInv h pl ps pf ((WL Wl).drop lo) Wl.length i (bfs es [(s, 0)] Wl.length) h') ?_ ?_
    · refine ls_for c (li_list (lx_name c 1 rfl rfl rfl) I0.l ⟨fun j ρ h' => ρ = [some (rowD s), some (.ref pl), some (.ref ps), some (.int (i : Nat)), none, some (.ref pf), none, none, none, none] ∧ LInv h pl ps pf ((WL Wl).drop lo) Wl.length i (bfs es [(s, 0)] (lo + j)) h', ⟨rfl, I0⟩, fun j ρ h' hP => hP.2.l, ?_, ?_⟩)
      · rintro j d0 ρ1 h1 hd0 ⟨rfl, I⟩
        obtain ⟨r, hr, rfl⟩ := lay_get hd0
        have hjl : lo + j < Wl.length := (List.getElem?_eq_some_iff.mp hr).1
        have hrl : r.length = s.length := hWs _ (List.mem_of_getElem? hr)
        have hst : bfs es [(s, 0)] (lo + (j + 1)) = bTurn es (bfs es [(s, 0)] (lo + j)) r i := bfs_step (bfs_at (k := lo) (by rw [hWl]; exact hr) (Nat.le_add_right _ _))
        have hW40 : (bfs es [(s, 0)] (lo + j)).length ≤ 40000 := hlen _ (by omega)
        have hsub : ∀ es', es'.length ≤ 8000 → (bTurn es' (bfs es [(s, 0)] (lo + j)) r i).length < 100000 := fun es' h8 => by
          have := bTurn_len es' (bfs es [(s, 0)] (lo + j)) r i
          omega
        generalize bfs es [(s, 0)] (lo + j) = W at I hst hW40 hsub
        refine ⟨_, lg_name c 4 rfl rfl ?_⟩
        refine lss_one (ls_for c (li_range1 c (lx_bin (lx_callB c cb_lenT (la_cons (lx_name c 0 rfl rfl rfl) la_nil) (by decide +kernel) G.b_len (by decide +kernel)) lx_int f2_sub) (by decide +kernel) G.b_range ⟨by rw [List.length_map]; omega, by rw [List.length_map]; omega⟩ ⟨fun a ρ h' => ρ = [some (rowD s), some (.ref pl), some (.ref ps), some (.int (i : Nat)), some (rowD r), some (.ref pf), none, none, none, none] ∧ LInv h pl ps pf ((WL Wl).drop lo) Wl.length i (bTurn ((List.range a).flatMap (exsA s.length)) W r i) h', ⟨rfl, I⟩, fun _ _ _ _ => trivial, ?_, ?_⟩))
        · rintro a d1 ρ1 h2 hd1 ⟨rfl, Ia⟩
          have ha : a < s.length - 1 := by
            have := (List.getElem?_eq_some_iff.mp hd1).1
            rw [rngD_len, List.length_map] at this
            omega
          rw [rngD_get (show a < (((s.map D.int).length : Int) - 1).toNat by rw [List.length_map]; omega), Int.zero_add] at hd1
          cases hd1
          refine ⟨_, lg_name c 6 rfl rfl ?_⟩
          refine lss_one (ls_for c (li_range2 c (lx_bin (lx_name c 6 rfl rfl rfl) lx_int f2_add) (lx_callB c cb_lenT (la_cons (lx_name c 0 rfl rfl rfl) la_nil) (by decide +kernel) G.b_len (by decide +kernel)) (by decide +kernel) G.b_range ⟨by rw [List.length_map]; omega, by omega, by omega, by omega⟩ ⟨fun jb ρ h' => ρ = [some (rowD s), some (.ref pl), some (.ref ps), some (.int (i : Nat)), some (rowD r), some (.ref pf), some (.int (a : Nat)), none, none, none] ∧ LInv h pl ps pf ((WL Wl).drop lo) Wl.length i (bTurn ((List.range a).flatMap (exsA s.length) ++ (List.range jb).flatMap fun j => exsB s.length a (a + 1 + j)) W r i) h', ⟨rfl, by rw [List.range_zero, List.flatMap_nil, List.append_nil]; exact Ia⟩, fun _ _ _ _ => trivial, ?_, ?_⟩))
          · rintro jb d2 ρ1 h3 hd2 ⟨rfl, Ib⟩
            have hjb : jb < s.length - 1 - a := by
              have := (List.getElem?_eq_some_iff.mp hd2).1
              rw [rngD_len, List.length_map] at this
              omega
            rw [rngD_get (show jb < (((s.map D.int).length : Int) - ((a : Nat) + 1)).toNat by rw [List.length_map]; omega)] at hd2
            cases hd2
            obtain ⟨b, hbb⟩ : ∃ b : Nat, b = a + 1 + jb := ⟨_, rfl⟩
            rw [show ((a : Nat) : Int) + 1 + (jb : Nat) = (b : Nat) by omega]
            refine ⟨_, lg_name c 7 rfl rfl ?_⟩
            have hsucc : (List.range (jb + 1)).flatMap (fun j => exsB s.length a (a + 1 + j)) = (List.range jb).flatMap (fun j => exsB s.length a (a + 1 + j)) ++ exsB s.length a b := by rw [range_flat_succ, hbb]
            have hcat : bTurn ((List.range a).flatMap (exsA s.length) ++ (List.range (jb + 1)).flatMap fun j => exsB s.length a (a + 1 + j)) W r i = bTurn (exsB s.length a b) (bTurn ((List.range a).flatMap (exsA s.length) ++ (List.range jb).flatMap fun j => exsB s.length a (a + 1 + j)) W r i) r i := by rw [hsucc, ← List.append_assoc, bTurn_cat]
            have hpre : ((List.range a).flatMap (exsA s.length) ++ (List.range jb).flatMap fun j => exsB s.length a (a + 1 + j)).length + (exsB s.length a b).length ≤ 8000 := by
              have e1 : ∃ V, exs s.length = ((List.range a).flatMap (exsA s.length) ++ (List.range jb).flatMap fun j => exsB s.length a (a + 1 + j)) ++ exsB s.length a b ++ V := by
                obtain ⟨q1, hq1⟩ : ∃ q1, s.length - 1 = a + 1 + q1 := ⟨s.length - 1 - (a + 1), by omega⟩
                obtain ⟨q2, hq2⟩ : ∃ q2, s.length - 1 - a = jb + 1 + q2 := ⟨s.length - 1 - a - (jb + 1), by omega⟩
                obtain ⟨V1, hV1⟩ := range_flat_pre (exsA s.length) (a + 1) q1
                obtain ⟨V2, hV2⟩ := range_flat_pre (fun j => exsB s.length a (a + 1 + j)) (jb + 1) q2
                refine ⟨V2 ++ V1, ?_⟩
                unfold exs
                rw [hq1, hV1, range_flat_succ, exsA_eq, hq2, hV2, hsucc]
                simp only [List.append_assoc]
              obtain ⟨V, hV⟩ := e1
              have := congrArg List.length hV
              rw [List.length_append, List.length_append] at this
              have h8 := exs_len s.length hn
              omega
            have hWb : ∀ m, m ≤ (exsB s.length a b).length → (bTurn ((exsB s.length a b).take m) (bTurn ((List.range a).flatMap (exsA s.length) ++ (List.range jb).flatMap fun j => exsB s.length a (a + 1 + j)) W r i) r i).length < 100000 := fun m hm => by
              rw [← bTurn_cat]
              refine hsub _ ?_
              rw [List.length_append, List.length_take]
              omega
            have hLb : (exsB s.length a b).length = s.length - b := by
              unfold exsB
              rw [List.length_map, List.length_range]
            generalize bTurn ((List.range a).flatMap (exsA s.length) ++ (List.range jb).flatMap fun j => exsB s.length a (a + 1 + j)) W r i = W2 at Ib hWb hcat
            refine lss_one (ls_for c (li_range2 c (lx_bin (lx_name c 7 rfl rfl rfl) lx_int f2_add) (lx_bin (lx_callB c cb_lenT (la_cons (lx_name c 0 rfl rfl rfl) la_nil) (by decide +kernel) G.b_len (by decide +kernel)) lx_int f2_add) (by decide +kernel) G.b_range ⟨by rw [List.length_map]; omega, by omega, by omega, by omega⟩ ⟨fun jc ρ h' => ρ = [some (rowD s), some (.ref pl), some (.ref ps), some (.int (i : Nat)), some (rowD r), some (.ref pf), some (.int (a : Nat)), some (.int (b : Nat)), none, none] ∧ LInv h pl ps pf ((WL Wl).drop lo) Wl.length i (bTurn ((exsB s.length a b).take jc) W2 r i) h', ⟨rfl, Ib⟩, fun _ _ _ _ => trivial, ?_, ?_⟩))
            · rintro jc d3 ρ1 h4 hd3 ⟨rfl, Ic⟩
              have hjc : jc < s.length - b := by
                have := (List.getElem?_eq_some_iff.mp hd3).1
                rw [rngD_len, List.length_map] at this
                omega
              rw [rngD_get (show jc < (((s.map D.int).length : Int) + 1 - ((b : Nat) + 1)).toNat by rw [List.length_map]; omega)] at hd3
              cases hd3
              obtain ⟨cc, hcc⟩ : ∃ cc : Nat, cc = b + 1 + jc := ⟨_, rfl⟩
              rw [show ((b : Nat) : Int) + 1 + (jc : Nat) = (cc : Nat) by omega]
              refine ⟨_, lg_name c 8 rfl rfl ?_⟩
              have hget : (exsB s.length a b)[jc]? = some (a, b, cc) := by
                unfold exsB
                rw [List.getElem?_map, List.getElem?_range hjc, hcc]
                rfl
              have hnext := bTurn_take _ W2 r i _ hget
              have hW3 := hWb jc (by omega)
              generalize bTurn ((exsB s.length a b).take jc) W2 r i = W3 at Ic hW3 hnext
              refine lss_cons (ls_set c 9 rfl rfl ((lx_eq (lx_bin (lx_bin (lx_bin (lx_cutT (lx_name c 4 rfl rfl rfl) lo_none (lo_some (lx_name c 6 rfl rfl rfl))) (lx_cutT (lx_name c 4 rfl rfl rfl) (lo_some (lx_name c 7 rfl rfl rfl)) (lo_some (lx_name c 8 rfl rfl rfl))) (f2_cat ?_)) (lx_cutT (lx_name c 4 rfl rfl rfl) (lo_some (lx_name c 6 rfl rfl rfl)) (lo_some (lx_name c 7 rfl rfl rfl))) (f2_cat ?_)) (lx_cutT (lx_name c 4 rfl rfl rfl) (lo_some (lx_name c 8 rfl rfl rfl)) lo_none) (f2_cat ?_)) (ex_cut r (a := a) (b := b) (c := cc) (by omega) (by omega))) _ ?_))
              · rw [cutD_to, cutD_mid _ b cc (by omega), List.length_take, List.length_take, List.length_drop, List.length_map]
                omega
              · rw [cutD_to, cutD_mid _ b cc (by omega), cutD_mid _ a b (by omega), List.length_append, List.length_take, List.length_take, List.length_take, List.length_drop, List.length_drop, List.length_map]
                omega
              · rw [cutD_to, cutD_mid _ b cc (by omega), cutD_mid _ a b (by omega), cutD_from, List.length_append, List.length_append, List.length_take, List.length_take, List.length_take, List.length_drop, List.length_drop, List.length_drop, List.length_map]
                omega
              dsimp only at hnext
              generalize exch r a b cc = t at hnext
              refine lss_one (ls_ifB (lb_dnotin c (lx_name c 9 rfl rfl rfl) (lx_name c 2 rfl rfl rfl) (DGD.ofT (ks := rowK t) Ic.s)) (fun hb => ?_) (fun hb => ?_))
              · rw [valD_SD, Bool.not_eq_true', decide_eq_false_iff_not] at hb
                have hadd : bAdd i W3 t = W3 ++ [(t, i + 1)] := by
                  unfold bAdd
                  rw [if_neg hb]
                rw [hadd] at hnext
                have n1 : pf ≠ ps := neD Ic.f Ic.s (fun z => nomatch z)
                refine lss_cons (ls_dput (v := .bl true) c lx_bl (lx_name c 2 rfl rfl rfl) (lx_name c 9 rfl rfl rfl) (.inr ⟨SD W3, rowK t, Ic.s, rfl, by unfold SD; rw [List.length_map]; exact hW3, rfl⟩) ?_)
                rw [putD_SD (d := i + 1) hb]
                have ef : updD h4 ps (.dT (SD (W3 ++ [(t, i + 1)]))) pf = some (.lst ((WL W3).drop Wl.length)) := by rw [updD_ne n1]; exact Ic.f
                refine lss_one (ls_append (lx_name c 5 rfl rfl rfl) ef ((lx_eq (lx_name c 9 rfl rfl rfl) (rowT_eq t)) _ ⟨_, ef, ?_, ?_⟩))
                · unfold WL
                  rw [List.length_drop, List.length_map]
                  omega
                · refine ⟨_, _, ?_, Sub.refl _, rfl, (by rw [hnext]; exact Ic.add t)⟩
                  walk_at "fy wk"
              · rw [valD_SD, Bool.not_eq_false', decide_eq_true_eq] at hb
                have hadd : bAdd i W3 t = W3 := by
                  unfold bAdd
                  rw [if_pos hb]
                rw [hadd] at hnext
                refine lss_nil ⟨_, _, ?_, Sub.refl _, rfl, (by rw [hnext]; exact Ic)⟩
                walk_at "fy wk"
            · rintro ρ1 h4 ⟨rfl, Ic⟩
              rw [rngD_len, List.take_of_length_le (by rw [hLb, List.length_map]; omega)] at Ic
              refine ⟨_, _, ?_, Sub.refl _, rfl, (by rw [hcat]; exact Ic)⟩
              walk_at "fy wk"
          · rintro ρ1 h3 ⟨rfl, Ib⟩
            rw [rngD_len, List.length_map, show ((s.length : Int) - ((a : Nat) + 1)).toNat = s.length - 1 - a by omega, ← exsA_eq, ← range_flat_succ] at Ib
            refine ⟨_, _, ?_, Sub.refl _, rfl, Ib⟩
            walk_at "fy wk"
        · rintro ρ1 h2 ⟨rfl, Ia⟩
          rw [rngD_len, List.length_map, show ((s.length : Int) - 1).toNat = s.length - 1 by omega] at Ia
          refine ⟨_, _, ?_, Sub.refl _, rfl, ?_⟩
          · walk_at "fy wk"
          · rw [hst, ← hes]
            exact Ia
      · rintro ρ1 h1 ⟨rfl, I⟩
        rw [hlayl, show lo + (Wl.length - lo) = Wl.length by omega] at I
        exact ⟨rfl, I⟩
    · rintro ρ' h' ⟨rfl, I⟩
      refine lss_cons (ls_set c 1 rfl rfl ((lx_name c 5 rfl rfl rfl) _ ?_))
      refine lss_one (ls_set c 3 rfl rfl ((lx_eq (lx_bin (lx_name c 3 rfl rfl rfl) lx_int f2_add) (show D.int ((i : Int) + 1) = .int ((i + 1 : Nat)) by rw [Int.natCast_add]; rfl)) _ ?_))
      refine ⟨_, _, ?_, Sub.refl _, K - Wl.length, by omega, Wl.length, i + 1, pf, rfl, hgo, rfl, I.sb, es0, hpf0, I.s, I.f, I.dp⟩
      walk_at "fy wk"
  · refine lss_one (ls_ret ((lx_name c 3 rfl rfl rfl) _ ⟨h, sb, ?_⟩))
    rw [← stop (by rwa [Bool.not_eq_false'] at hb)]
    exact q
def sp_law_fewest : FS := fun ds h Q => ∃ (row s : List Int) (d : Nat), ds = [rowD row, rowD s] ∧ row.length ≤ 1000 ∧ (∀ x ∈ s, x ∈ row) ∧ StopAt (thin row) s d ∧ Q (.int (d : Nat)) h
theorem has_law_fewest (G : Top T C) : Has T 2 "_law_fewest" ["_law_row_here", "_law_out"] sp_law_fewest := by
  refine has_of G.d_law_fewest sc_law_fewest hv_law_fewest (fun ds h Q ⟨_, _, _, e, _⟩ => by subst e; rfl) (fun _ _ _ _ _ _ us hl => match us, hl with | [_, _], _ => rfl) fun X c ds h Q ⟨row, s, d, e, hrow, hsr, ⟨hn, K, rr, hlen, hK, hP1, hno⟩, q⟩ => ?_
  subst e
  generalize hes : exs s.length = es at hlen hK hno
  have nd : (([(s, 0)] : BW).map (·.1)).Nodup := by simp
  have ln : ∀ p ∈ ([(s, 0)] : BW), p.1.length = s.length := fun p hp => by rw [List.mem_singleton.mp hp]
  have lens : ∀ k, ∀ p ∈ bfs es [(s, 0)] k, p.1.length = s.length := by rw [← hes]; exact bfs_lens ln
  have hel : es.length ≤ 8000 := by rw [← hes]; exact exs_len _ hn
  have hfil : s.filter (fun x => !decide (x ∈ row)) = [] := by
    rw [List.filter_eq_nil_iff]
    intro x hx
    rw [decide_eq_true (hsr x hx)]
    exact Bool.false_ne_true
  refine lss_cons (ls_ifB (bb := false) (lb_eq (lb_cmp (lx_callBL c (fun p hp => cb_lenN) (ll_compIf c (own := [("_law_letter", 11)]) (ds := s.map D.int) (by decide +kernel) (is := [11]) (by simp) (fun d => [some (rowD row), some (rowD s), none, none, none, none, none, none, none, none, none, some d]) (fun d => !decide (unD d ∈ row)) (fun d => d) (fun R kk => li_tup (lx_name c 1 rfl rfl rfl) (kk _ _ (Sub.refl _) fun _ _ _ => trivial)) (by rw [List.length_map]; omega) (fun i d hd X' b => lg_name (blk_ctx c b rfl rfl) 11 rfl rfl rfl) (fun i d hh hd sb X' b => ?_) (fun i d hh hd ht sb X' b => lx_name (blk_ctx c b rfl rfl) 11 rfl rfl rfl)) (by decide +kernel) G.b_len (by decide +kernel)) lx_int f2_gt) ?_) (fun z => nomatch z) (fun _ => lss_nil ?_))
  · obtain ⟨y, hy, rfl⟩ := map_get hd
    exact lb_cmp (lx_name (blk_ctx c b rfl rfl) 11 rfl rfl rfl) (lx_name (blk_ctx c b rfl rfl) 0 rfl rfl rfl) f2_notinT
  · rw [List.map_id', List.filter_map]
    rw [show ((fun d => !decide (unD d ∈ row)) ∘ D.int) = fun x => !decide (x ∈ row) from rfl, hfil]
    rfl
  refine lss_cons (ls_set c 2 rfl rfl ((ll_disp (la_cons (lx_name c 1 rfl rfl rfl) la_nil)) _ fun pl hpl => ?_))
  refine lss_cons (ls_set c 3 rfl rfl (le_dispT (ks := rowK s) (d := .bl true) c (fun hh => lx_eq (lx_name c 1 rfl rfl rfl) (rowT_eq s).symm) (fun hh => lx_bl) fun ps hps => ?_))
  obtain ⟨hps0, nsl⟩ := fresh2 hps
  refine lss_cons (ls_set c 4 rfl rfl (lx_int _ ?_))
  refine lss_cons (ls_while c (fun mm ρ hh => ∃ lo i pl, mm = K - lo ∧ lo ≤ K ∧ ρ = [some (rowD row), some (rowD s), some (.ref pl), some (.ref ps), some (.int (i : Nat)), none, none, none, none, none, none, none] ∧ Sub h hh ∧ h ps = none ∧ h pl = none ∧ hh ps = some (.dT (SD (bfs es [(s, 0)] lo))) ∧ hh pl = some (.lst ((WL (bfs es [(s, 0)] lo)).drop lo)) ∧ ∀ p ∈ (bfs es [(s, 0)] lo).drop lo, p.2 = i) K ⟨0, 0, pl, rfl, Nat.zero_le _, rfl, (Sub.new hpl).trans (Sub.new hps), hps0, hpl, by rw [updD_same]; rfl, by rw [updD_ne nsl.symm, updD_same]; rfl, fun p hp => by rw [List.mem_singleton.mp hp]⟩ fun mm ρ1 hh hP => ?_)
  obtain ⟨lo, i, pl, rfl, hloK, rfl, sb, es0, el0, eS, eL, hdp⟩ := hP
  generalize hWl : bfs es [(s, 0)] lo = Wl at eS eL hdp
  have hWlen : Wl.length ≤ 40000 := by rw [← hWl]; exact hlen lo hloK
  have hWs : ∀ p ∈ Wl, p.1.length = s.length := by rw [← hWl]; exact lens lo
  have hhi : lo < Wl.length := by
    rcases Nat.lt_or_ge lo K with z | z
    · obtain ⟨r', d', e1, _⟩ := hno lo z
      rw [hWl] at e1
      exact (List.getElem?_eq_some_iff.mp e1).1
    · have : lo = K := by omega
      subst this
      rw [hWl] at hK
      exact (List.getElem?_eq_some_iff.mp hK).1
  have lay_get : ∀ {x : Nat} {d : D}, ((WL Wl).drop lo)[x]? = some d → ∃ r, Wl[lo + x]? = some (r, i) ∧ d = rowD r := fun {x d} hx => by
    unfold WL at hx
    rw [List.getElem?_drop] at hx
    obtain ⟨⟨r, dr⟩, h1, rfl⟩ := map_get hx
    have h2 := hdp (r, dr) (List.mem_of_getElem? (i := x) (by rw [List.getElem?_drop]; exact h1))
    dsimp only at h2
    exact ⟨r, by rw [h1, h2], rfl⟩
  have hlayl : ((WL Wl).drop lo).length = Wl.length - lo := by
    unfold WL
    rw [List.length_drop, List.length_map]
  obtain ⟨any, hany⟩ : ∃ any : Bool, any = ((Wl.drop lo).any fun p => thin row p.1) := ⟨_, rfl⟩
  have stop : any = true → d = i := fun ha => by
    rw [hany] at ha
    obtain ⟨p, hp, hp2⟩ := List.any_eq_true.mp ha
    obtain ⟨x, hx⟩ := List.getElem?_of_mem hp
    rw [List.getElem?_drop] at hx
    have hKx : K ≤ lo + x := by
      rcases Nat.lt_or_ge (lo + x) K with z | z
      · obtain ⟨r', d', e1, e2⟩ := hno _ z
        have := bfs_at (es := es) (W0 := [(s, 0)]) (k := lo) (k' := lo + x) (x := lo + x) (p := p) (by rw [hWl]; exact hx) (Nat.le_add_right _ _)
        rw [e1] at this
        cases this
        dsimp only at hp2
        rw [e2] at hp2
        cases hp2
      · exact z
    have hxl := (List.getElem?_eq_some_iff.mp hx).1
    have h1 := bfs_at' (k := lo) hK hloK (by rw [hWl]; omega)
    rw [hWl] at h1
    exact hdp (rr, d) (List.mem_of_getElem? (i := K - lo) (by rw [List.getElem?_drop, show lo + (K - lo) = K by omega]; exact h1))
  have goon : any = false → Wl.length ≤ K := fun ha => by
    rw [hany] at ha
    rcases Nat.lt_or_ge K Wl.length with z | z
    · have h1 := bfs_at' (k := lo) hK hloK (by rw [hWl]; exact z)
      rw [hWl] at h1
      have := List.any_eq_false.mp ha (rr, d) (List.mem_of_getElem? (i := K - lo) (by rw [List.getElem?_drop, show lo + (K - lo) = K by omega]; exact h1))
      exact absurd hP1 this
    · exact z
  have hlay : (WL Wl).drop lo = ((Wl.drop lo).map (·.1)).map rowD := by
    simp only [WL, List.map_drop, List.map_map]
    rfl
  refine (lb_eq (lb_cmp (lx_callBL c (fun p hp => cb_lenN) (ll_compIf c (own := [("_law_there", 5)]) (ds := (WL Wl).drop lo) (by decide +kernel) (is := [5]) (by simp) (fun d => [some (rowD row), some (rowD s), some (.ref pl), some (.ref ps), some (.int (i : Nat)), some d, none, none, none, none, none, none]) (fun d => thin row (unrow d)) (fun d => d) (fun R kk => li_list (lx_name c 2 rfl rfl rfl) eL (kk _ _ (Sub.refl _) fun p3 acc hp3 => by rw [updD_ne (neN eL hp3)]; exact eL)) (by rw [hlayl]; omega) (fun x d hd X' b => lg_name (blk_ctx c b rfl rfl) 5 rfl rfl rfl) (fun x d hh hd sb X' b => ?_) (fun x d hh hd ht sb X' b => lx_name (blk_ctx c b rfl rfl) 5 rfl rfl rfl)) (by decide +kernel) G.b_len (by decide +kernel)) lx_int f2_eqI) (show _ = !any from ?_)) _ ⟨fun hb => ?_, fun hb => ?_⟩
  · rw [hlay] at hd
    obtain ⟨r, hr, rfl⟩ := map_get hd
    rw [unrow_row]
    exact lb_val (lx_call (z := .bl (thin row r)) (blk_ctx c b rfl rfl) (has_law_is_thin G) (by decide) (by decide +kernel) (la_cons (lx_name (blk_ctx c b rfl rfl) 0 rfl rfl rfl) (la_cons (lx_name (blk_ctx c b rfl rfl) 5 rfl rfl rfl) la_nil)) fun Q q => ⟨row, r, rfl, hrow, q⟩)
  · rw [List.map_id', hlay, filter_rows, List.length_map, hany]
    generalize Wl.drop lo = Z
    induction Z with
    | nil => rfl
    | cons p Z ih =>
      rw [List.map_cons, List.any_cons]
      cases hz : thin row p.1 with
      | true =>
        rw [List.filter_cons_of_pos hz]
        rfl
      | false =>
        rw [List.filter_cons_of_neg (by rw [hz]; exact Bool.false_ne_true), Bool.false_or]
        exact ih
  · have hgo := goon (by rwa [Bool.not_eq_true'] at hb)
    refine lss_cons (ls_set c 6 rfl rfl ((ll_disp la_nil) _ fun pf hpf => ?_))
    have hpf0 : h pf = none := by
      cases hz : h pf with
      | none => rfl
      | some o => rw [sb _ _ hz] at hpf; cases hpf
    have I0 : LInv h pl ps pf ((WL Wl).drop lo) Wl.length i (bfs es [(s, 0)] (lo + 0)) (updD hh pf (.lst [])) := by
      rw [Nat.add_zero, hWl]
      refine ⟨sb.trans (Sub.new hpf), es0, hpf0, neN eL hpf, by rw [updD_ne (neN eL hpf)]; exact eL, by rw [updD_ne (neN eS hpf)]; exact eS, ?_, Nat.le_refl _, fun p hp => ?_⟩
      · rw [updD_same]
        unfold WL
        rw [List.drop_eq_nil_of_le (by rw [List.length_map]; exact Nat.le_refl _)]
      · rw [List.drop_length] at hp
        cases hp
    refine lss_cut (fun ρ' h' => ρ' = [some (rowD row), some (rowD s), some (.ref pl), some (.ref ps), some (.int (i : Nat)), none, some (.ref pf), none, none, none, none, none] ∧ LInv h pl ps pf ((WL Wl).drop lo) Wl.length i (bfs es [(s, 0)] Wl.length) h') ?_ ?_
    · refine ls_for c (li_list (lx_name c 2 rfl rfl rfl) I0.l ⟨fun j ρ h' => ρ = [some (rowD row), some (rowD s), some (.ref pl), some (.ref ps), some (.int (i : Nat)), none, some (.ref pf), none, none, none, none, none] ∧ LInv h pl ps pf ((WL Wl).drop lo) Wl.length i (bfs es [(s, 0)] (lo + j)) h', ⟨rfl, I0⟩, fun j ρ h' hP => hP.2.l, ?_, ?_⟩)
      · rintro j d0 ρ1 h1 hd0 ⟨rfl, I⟩
        obtain ⟨r, hr, rfl⟩ := lay_get hd0
        have hjl : lo + j < Wl.length := (List.getElem?_eq_some_iff.mp hr).1
        have hrl : r.length = s.length := hWs _ (List.mem_of_getElem? hr)
        have hst : bfs es [(s, 0)] (lo + (j + 1)) = bTurn es (bfs es [(s, 0)] (lo + j)) r i := bfs_step (bfs_at (k := lo) (by rw [hWl]; exact hr) (Nat.le_add_right _ _))
        have hW40 : (bfs es [(s, 0)] (lo + j)).length ≤ 40000 := hlen _ (by omega)
        have hsub : ∀ es', es'.length ≤ 8000 → (bTurn es' (bfs es [(s, 0)] (lo + j)) r i).length < 100000 := fun es' h8 => by
          have := bTurn_len es' (bfs es [(s, 0)] (lo + j)) r i
          omega
        generalize bfs es [(s, 0)] (lo + j) = W at I hst hW40 hsub
        refine ⟨_, lg_name c 5 rfl rfl ?_⟩
        refine lss_one (ls_for c (li_range1 c (lx_bin (lx_callB c cb_lenT (la_cons (lx_name c 1 rfl rfl rfl) la_nil) (by decide +kernel) G.b_len (by decide +kernel)) lx_int f2_sub) (by decide +kernel) G.b_range ⟨by rw [List.length_map]; omega, by rw [List.length_map]; omega⟩ ⟨fun a ρ h' => ρ = [some (rowD row), some (rowD s), some (.ref pl), some (.ref ps), some (.int (i : Nat)), some (rowD r), some (.ref pf), none, none, none, none, none] ∧ LInv h pl ps pf ((WL Wl).drop lo) Wl.length i (bTurn ((List.range a).flatMap (exsA s.length)) W r i) h', ⟨rfl, I⟩, fun _ _ _ _ => trivial, ?_, ?_⟩))
        · rintro a d1 ρ1 h2 hd1 ⟨rfl, Ia⟩
          have ha : a < s.length - 1 := by
            have := (List.getElem?_eq_some_iff.mp hd1).1
            rw [rngD_len, List.length_map] at this
            omega
          rw [rngD_get (show a < (((s.map D.int).length : Int) - 1).toNat by rw [List.length_map]; omega), Int.zero_add] at hd1
          cases hd1
          refine ⟨_, lg_name c 7 rfl rfl ?_⟩
          refine lss_one (ls_for c (li_range2 c (lx_bin (lx_name c 7 rfl rfl rfl) lx_int f2_add) (lx_callB c cb_lenT (la_cons (lx_name c 1 rfl rfl rfl) la_nil) (by decide +kernel) G.b_len (by decide +kernel)) (by decide +kernel) G.b_range ⟨by rw [List.length_map]; omega, by omega, by omega, by omega⟩ ⟨fun jb ρ h' => ρ = [some (rowD row), some (rowD s), some (.ref pl), some (.ref ps), some (.int (i : Nat)), some (rowD r), some (.ref pf), some (.int (a : Nat)), none, none, none, none] ∧ LInv h pl ps pf ((WL Wl).drop lo) Wl.length i (bTurn ((List.range a).flatMap (exsA s.length) ++ (List.range jb).flatMap fun j => exsB s.length a (a + 1 + j)) W r i) h', ⟨rfl, by rw [List.range_zero, List.flatMap_nil, List.append_nil]; exact Ia⟩, fun _ _ _ _ => trivial, ?_, ?_⟩))
          · rintro jb d2 ρ1 h3 hd2 ⟨rfl, Ib⟩
            have hjb : jb < s.length - 1 - a := by
              have := (List.getElem?_eq_some_iff.mp hd2).1
              rw [rngD_len, List.length_map] at this
              omega
            rw [rngD_get (show jb < (((s.map D.int).length : Int) - ((a : Nat) + 1)).toNat by rw [List.length_map]; omega)] at hd2
            cases hd2
            obtain ⟨b, hbb⟩ : ∃ b : Nat, b = a + 1 + jb := ⟨_, rfl⟩
            rw [show ((a : Nat) : Int) + 1 + (jb : Nat) = (b : Nat) by omega]
            refine ⟨_, lg_name c 8 rfl rfl ?_⟩
            have hsucc : (List.range (jb + 1)).flatMap (fun j => exsB s.length a (a + 1 + j)) = (List.range jb).flatMap (fun j => exsB s.length a (a + 1 + j)) ++ exsB s.length a b := by rw [range_flat_succ, hbb]
            have hcat : bTurn ((List.range a).flatMap (exsA s.length) ++ (List.range (jb + 1)).flatMap fun j => exsB s.length a (a + 1 + j)) W r i = bTurn (exsB s.length a b) (bTurn ((List.range a).flatMap (exsA s.length) ++ (List.range jb).flatMap fun j => exsB s.length a (a + 1 + j)) W r i) r i := by rw [hsucc, ← List.append_assoc, bTurn_cat]
            have hpre : ((List.range a).flatMap (exsA s.length) ++ (List.range jb).flatMap fun j => exsB s.length a (a + 1 + j)).length + (exsB s.length a b).length ≤ 8000 := by
              have e1 : ∃ V, exs s.length = ((List.range a).flatMap (exsA s.length) ++ (List.range jb).flatMap fun j => exsB s.length a (a + 1 + j)) ++ exsB s.length a b ++ V := by
                obtain ⟨q1, hq1⟩ : ∃ q1, s.length - 1 = a + 1 + q1 := ⟨s.length - 1 - (a + 1), by omega⟩
                obtain ⟨q2, hq2⟩ : ∃ q2, s.length - 1 - a = jb + 1 + q2 := ⟨s.length - 1 - a - (jb + 1), by omega⟩
                obtain ⟨V1, hV1⟩ := range_flat_pre (exsA s.length) (a + 1) q1
                obtain ⟨V2, hV2⟩ := range_flat_pre (fun j => exsB s.length a (a + 1 + j)) (jb + 1) q2
                refine ⟨V2 ++ V1, ?_⟩
                unfold exs
                rw [hq1, hV1, range_flat_succ, exsA_eq, hq2, hV2, hsucc]
                simp only [List.append_assoc]
              obtain ⟨V, hV⟩ := e1
              have := congrArg List.length hV
              rw [List.length_append, List.length_append] at this
              have h8 := exs_len s.length hn
              omega
            have hWb : ∀ m, m ≤ (exsB s.length a b).length → (bTurn ((exsB s.length a b).take m) (bTurn ((List.range a).flatMap (exsA s.length) ++ (List.range jb).flatMap fun j => exsB s.length a (a + 1 + j)) W r i) r i).length < 100000 := fun m hm => by
              rw [← bTurn_cat]
              refine hsub _ ?_
              rw [List.length_append, List.length_take]
              omega
            have hLb : (exsB s.length a b).length = s.length - b := by
              unfold exsB
              rw [List.length_map, List.length_range]
            generalize bTurn ((List.range a).flatMap (exsA s.length) ++ (List.range jb).flatMap fun j => exsB s.length a (a + 1 + j)) W r i = W2 at Ib hWb hcat
            refine lss_one (ls_for c (li_range2 c (lx_bin (lx_name c 8 rfl rfl rfl) lx_int f2_add) (lx_bin (lx_callB c cb_lenT (la_cons (lx_name c 1 rfl rfl rfl) la_nil) (by decide +kernel) G.b_len (by decide +kernel)) lx_int f2_add) (by decide +kernel) G.b_range ⟨by rw [List.length_map]; omega, by omega, by omega, by omega⟩ ⟨fun jc ρ h' => ρ = [some (rowD row), some (rowD s), some (.ref pl), some (.ref ps), some (.int (i : Nat)), some (rowD r), some (.ref pf), some (.int (a : Nat)), some (.int (b : Nat)), none, none, none] ∧ LInv h pl ps pf ((WL Wl).drop lo) Wl.length i (bTurn ((exsB s.length a b).take jc) W2 r i) h', ⟨rfl, Ib⟩, fun _ _ _ _ => trivial, ?_, ?_⟩))
            · rintro jc d3 ρ1 h4 hd3 ⟨rfl, Ic⟩
              have hjc : jc < s.length - b := by
                have := (List.getElem?_eq_some_iff.mp hd3).1
                rw [rngD_len, List.length_map] at this
                omega
              rw [rngD_get (show jc < (((s.map D.int).length : Int) + 1 - ((b : Nat) + 1)).toNat by rw [List.length_map]; omega)] at hd3
              cases hd3
              obtain ⟨cc, hcc⟩ : ∃ cc : Nat, cc = b + 1 + jc := ⟨_, rfl⟩
              rw [show ((b : Nat) : Int) + 1 + (jc : Nat) = (cc : Nat) by omega]
              refine ⟨_, lg_name c 9 rfl rfl ?_⟩
              have hget : (exsB s.length a b)[jc]? = some (a, b, cc) := by
                unfold exsB
                rw [List.getElem?_map, List.getElem?_range hjc, hcc]
                rfl
              have hnext := bTurn_take _ W2 r i _ hget
              have hW3 := hWb jc (by omega)
              generalize bTurn ((exsB s.length a b).take jc) W2 r i = W3 at Ic hW3 hnext
              refine lss_cons (ls_set c 10 rfl rfl ((lx_eq (lx_bin (lx_bin (lx_bin (lx_cutT (lx_name c 5 rfl rfl rfl) lo_none (lo_some (lx_name c 7 rfl rfl rfl))) (lx_cutT (lx_name c 5 rfl rfl rfl) (lo_some (lx_name c 8 rfl rfl rfl)) (lo_some (lx_name c 9 rfl rfl rfl))) (f2_cat ?_)) (lx_cutT (lx_name c 5 rfl rfl rfl) (lo_some (lx_name c 7 rfl rfl rfl)) (lo_some (lx_name c 8 rfl rfl rfl))) (f2_cat ?_)) (lx_cutT (lx_name c 5 rfl rfl rfl) (lo_some (lx_name c 9 rfl rfl rfl)) lo_none) (f2_cat ?_)) (ex_cut r (a := a) (b := b) (c := cc) (by omega) (by omega))) _ ?_))
              · rw [cutD_to, cutD_mid _ b cc (by omega), List.length_take, List.length_take, List.length_drop, List.length_map]
                omega
              · rw [cutD_to, cutD_mid _ b cc (by omega), cutD_mid _ a b (by omega), List.length_append, List.length_take, List.length_take, List.length_take, List.length_drop, List.length_drop, List.length_map]
                omega
              · rw [cutD_to, cutD_mid _ b cc (by omega), cutD_mid _ a b (by omega), cutD_from, List.length_append, List.length_append, List.length_take, List.length_take, List.length_take, List.length_drop, List.length_drop, List.length_drop, List.length_map]
                omega
              dsimp only at hnext
              generalize exch r a b cc = t at hnext
              refine lss_one (ls_ifB (lb_dnotin c (lx_name c 10 rfl rfl rfl) (lx_name c 3 rfl rfl rfl) (DGD.ofT (ks := rowK t) Ic.s)) (fun hb => ?_) (fun hb => ?_))
              · rw [valD_SD, Bool.not_eq_true', decide_eq_false_iff_not] at hb
                have hadd : bAdd i W3 t = W3 ++ [(t, i + 1)] := by
                  unfold bAdd
                  rw [if_neg hb]
                rw [hadd] at hnext
                have n1 : pf ≠ ps := neD Ic.f Ic.s (fun z => nomatch z)
                refine lss_cons (ls_dput (v := .bl true) c lx_bl (lx_name c 3 rfl rfl rfl) (lx_name c 10 rfl rfl rfl) (.inr ⟨SD W3, rowK t, Ic.s, rfl, by unfold SD; rw [List.length_map]; exact hW3, rfl⟩) ?_)
                rw [putD_SD (d := i + 1) hb]
                have ef : updD h4 ps (.dT (SD (W3 ++ [(t, i + 1)]))) pf = some (.lst ((WL W3).drop Wl.length)) := by rw [updD_ne n1]; exact Ic.f
                refine lss_one (ls_append (lx_name c 6 rfl rfl rfl) ef ((lx_eq (lx_name c 10 rfl rfl rfl) (rowT_eq t)) _ ⟨_, ef, ?_, ?_⟩))
                · unfold WL
                  rw [List.length_drop, List.length_map]
                  omega
                · refine ⟨_, _, ?_, Sub.refl _, rfl, (by rw [hnext]; exact Ic.add t)⟩
                  walk_at "fy wk"
              · rw [valD_SD, Bool.not_eq_false', decide_eq_true_eq] at hb
                have hadd : bAdd i W3 t = W3 := by
                  unfold bAdd
                  rw [if_pos hb]
                rw [hadd] at hnext
                refine lss_nil ⟨_, _, ?_, Sub.refl _, rfl, (by rw [hnext]; exact Ic)⟩
                walk_at "fy wk"
            · rintro ρ1 h4 ⟨rfl, Ic⟩
              rw [rngD_len, List.take_of_length_le (by rw [hLb, List.length_map]; omega)] at Ic
              refine ⟨_, _, ?_, Sub.refl _, rfl, (by rw [hcat]; exact Ic)⟩
              walk_at "fy wk"
          · rintro ρ1 h3 ⟨rfl, Ib⟩
            rw [rngD_len, List.length_map, show ((s.length : Int) - ((a : Nat) + 1)).toNat = s.length - 1 - a by omega, ← exsA_eq, ← range_flat_succ] at Ib
            refine ⟨_, _, ?_, Sub.refl _, rfl, Ib⟩
            walk_at "fy wk"
        · rintro ρ1 h2 ⟨rfl, Ia⟩
          rw [rngD_len, List.length_map, show ((s.length : Int) - 1).toNat = s.length - 1 by omega] at Ia
          refine ⟨_, _, ?_, Sub.refl _, rfl, ?_⟩
          · walk_at "fy wk"
          · rw [hst, ← hes]
            exact Ia
      · rintro ρ1 h1 ⟨rfl, I⟩
        rw [hlayl, show lo + (Wl.length - lo) = Wl.length by omega] at I
        exact ⟨rfl, I⟩
    · rintro ρ' h' ⟨rfl, I⟩
      refine lss_cons (ls_set c 2 rfl rfl ((lx_name c 6 rfl rfl rfl) _ ?_))
      refine lss_one (ls_set c 4 rfl rfl ((lx_eq (lx_bin (lx_name c 4 rfl rfl rfl) lx_int f2_add) (show D.int ((i : Int) + 1) = .int ((i + 1 : Nat)) by rw [Int.natCast_add]; rfl)) _ ?_))
      refine ⟨_, _, ?_, Sub.refl _, K - Wl.length, by omega, Wl.length, i + 1, pf, rfl, hgo, rfl, I.sb, es0, hpf0, I.s, I.f, I.dp⟩
      walk_at "fy wk"
  · refine lss_one (ls_ret ((lx_name c 4 rfl rfl rfl) _ ⟨h, sb, ?_⟩))
    rw [← stop (by rwa [Bool.not_eq_false'] at hb)]
    exact q
end Fy
end
section
set_option linter.all false
set_option maxRecDepth 100000
set_option maxHeartbeats 4000000
namespace Fy
open PySem PySem.Spec PyProof.Rows L2
local macro_rules | `(tactic| walk_at "fy op") => `(tactic| first
  | exact f2_add | exact f2_sub | exact f2_cat (by first | assumption | omega | (simp only [List.length_append, cutD_len] <;> omega)) | exact f2_and | exact f2_mod (by omega) | exact f2_fdiv ⟨by omega, by omega⟩ | exact f2_mul (by unfold CMul; omega))
local macro_rules | `(tactic| walk_at "fy cmp") => `(tactic| first
  | exact f2_lt | exact f2_le | exact f2_gt | exact f2_ge | exact f2_eqI | exact f2_neI | exact f2_eqS | exact f2_isN | exact f2_notN)
local macro_rules | `(tactic| walk_at "fy ix") => `(tactic| first
  | exact ix2_T (by first | assumption | rfl) | exact ix2_L (by assumption) (by assumption))
local macro_rules | `(tactic| walk_at "fy wk") => `(tactic| repeat' (first | exact Paired.nil | exact True.intro | rfl | apply Paired.cons))
variable {T : Tx} {C : Addr} {X : Cx} {h : HD}
section
variable {k : Nat} {N : List Str} {sc : Scope} {vt st : List Bool} {ρ : Rho} {h1 : HD} {a b e : Expr} {pos : Pos} {p p' : Addr} {bb : Bool}
theorem lb_cmpE {op : CmpOp} {r : R2} (o : OpR X (compareOp op) r) (ha : LE X a ρ h fun x h1 => LE X b ρ h1 fun y h2 => Sub h h2 ∧ ∀ (H : Hp) (u v : V) (K : VK), RelH h2 H → Den H u x → Den H v y → (∀ w H', TupS H H' → RelH h2 H' → Den H' w (.bl bb) → K w H') → r u v H K)
    (hm : behindInMarks op b = false := by first | exact nomark _ | rfl) : LB X (.Compare a [op] [b] pos) ρ h bb h := fun Q q =>
  lt_of' (pt_cmpR o pe_we pe_we hm) fun σ H hs hh => ha.use hs hh fun u H1 x h1 t1 r1 d1 hb => hb.use (hs.mono t1) r1 fun v H2 y h2 t2 r2 d2 ⟨sb, ho⟩ => ho H2 u v _ r2 (d1.mono t2) d2 fun w H' t3 r3 d3 => ⟨bb, d3.bl_inv, (t1.trans t2).trans t3, _, r3.sub sb, q⟩
theorem lb_neLs {ds res : List D} (c : Ctx X T k N sc vt st) (ha : LE X a ρ h fun x h1 => LE X b ρ h1 fun y h2 => ∃ p p', x = .ref p ∧ y = .ref p' ∧ Sub h h2 ∧ h2 p = some (.lst ds) ∧ h2 p' = some (.lst res)) (hx : (D.tup ds).ok = true) (hy : (D.tup res).ok = true)
    (hm : behindInMarks .NotEq b = false := by first | exact nomark _ | rfl) : LB X (.Compare a [.NotEq] [b] pos) ρ h (!D.eqbs ds res) h :=
  lb_cmpE (op_neD c.hu64) (ha.mono fun x h1 hb => hb.mono fun y h2 ⟨p, p', e1, e2, sb, hp, hp'⟩ => by
    subst e1 e2
    refine ⟨sb, fun H u v K r a b q => ?_⟩
    obtain ⟨p1, s1⟩ := ok_shaped hx
    obtain ⟨p2, s2⟩ := ok_shaped hy
    obtain ⟨vs, e1, d1⟩ := r.lst hp
    obtain ⟨ws, e2, d2⟩ := r.lst hp'
    rw [D.pure] at p1 p2
    have z1 : SeqAt.shaped (.list (D.toPs ds)) = true := by
      unfold SeqAt.shaped at s1 ⊢
      simpa [D.toP, PyData.canLay0, PyData.depth] using s1
    have z2 : SeqAt.shaped (.list (D.toPs res)) = true := by
      unfold SeqAt.shaped at s2 ⊢
      simpa [D.toP, PyData.canLay0, PyData.depth] using s2
    refine ⟨.list (D.toPs ds), .list (D.toPs res), by rw [a.ref_inv]; exact .lst (SqL.of e1) (dpAll_of d1 p1), by rw [b.ref_inv]; exact .lst (SqL.of e2) (dpAll_of d2 p2), z1, z2, ?_⟩
    rw [PyData.eqv, eqbs_eqv p1 p2]
    exact q _ H (TupS.refl H) r (.bl _)) hm
theorem lb_neDs {ks ls : List (Key × D)} (c : Ctx X T k N sc vt st) (ha : LE X a ρ h fun x h1 => LE X b ρ h1 fun y h2 => ∃ p p', x = .ref p ∧ y = .ref p' ∧ Sub h h2 ∧ h2 p = some (.dK ks) ∧ h2 p' = some (.dK ls)) (hl : ks.length = ls.length) (hv : ∀ kv ∈ ks, ∃ i, kv.2 = .int i ∧ valD ls kv.1 = some (.int i))
    (hm : behindInMarks .NotEq b = false := by first | exact nomark _ | rfl) : LB X (.Compare a [.NotEq] [b] pos) ρ h false h :=
  lb_cmpE (op_ne_dictA (Nat.lt_of_succ_lt c.hu)) (ha.mono fun x h1 hb => hb.mono fun y h2 ⟨p, p', e1, e2, sb, hp, hp'⟩ => by
    subst e1 e2
    refine ⟨sb, fun H u v K r a b q => ?_⟩
    obtain ⟨vs, e1, d1⟩ := r.dK hp
    obtain ⟨ws, e2, d2⟩ := r.dK hp'
    refine ⟨p, p', vs, ws, a.ref_inv, b.ref_inv, e1, e2, by rw [PD.length d1, PD.length d2, hl], fun kv hkv => ?_, q _ H (TupS.refl H) r (.bl false)⟩
    obtain ⟨i, hi⟩ := List.mem_iff_getElem?.mp hkv
    obtain ⟨kd', g1, g2, g3⟩ := pget d1 hi
    obtain ⟨n, hn1, hn2⟩ := hv kd' (List.mem_of_getElem? g1)
    rw [hn1] at g3
    have e5 := g3.int_inv
    obtain ⟨w, e6, e7⟩ := (d2.val kd'.1 |> fun o => (show OD H (valV ws kd'.1) (some (.int n)) from hn2 ▸ o)).some_inv
    rw [g2, e5, e6, e7.int_inv]
    exact ⟨rfl, rfl⟩) hm
end
theorem ok_of {d : D} (h1 : d.pure = true) (h2 : d.toP.depth ≤ 60) : d.ok = true := by
  unfold D.ok
  rw [h1, decide_eq_true h2]
  rfl
theorem row_pure (r : List Int) : (rowD r).pure = true := pures_ints
theorem row_depth (r : List Int) : (rowD r).toP.depth ≤ 1 := by
  show PyData.depth (.tuple (D.toPs (r.map .int))) ≤ 1
  rw [PyData.depth, depths_ints]
  exact Nat.le_refl _
theorem str_oks : PyData.strOk ("double" : Str) = true ∧ PyData.strOk ("strike" : Str) = true ∧ PyData.strOk ("fly" : Str) = true ∧ PyData.strOk ("choose" : Str) = true := by
  refine ⟨?_, ?_, ?_, ?_⟩ <;> decide +kernel
theorem step_pure (s : Stp) : (stepD s).pure = true := by
  obtain ⟨a1, a2, a3, a4⟩ := str_oks
  cases s with
  | dbl k => simp [stepD, D.pure, D.pures, a1]
  | strk k => simp [stepD, D.pure, D.pures, a2]
  | fly a b c => simp [stepD, D.pure, D.pures, a3]
  | cho k w p key o =>
    have := row_pure key
    simp [stepD, D.pure, D.pures, a4, this]
theorem step_depth (s : Stp) : (stepD s).toP.depth ≤ 6 := by
  cases s with
  | dbl k => simp [stepD, D.toP, D.toPs, PyData.depth, PyData.depthAll]
  | strk k => simp [stepD, D.toP, D.toPs, PyData.depth, PyData.depthAll]
  | fly a b c => simp [stepD, D.toP, D.toPs, PyData.depth, PyData.depthAll]
  | cho k w p key o =>
    have := row_depth key
    simp [stepD, D.toP, D.toPs, PyData.depth, PyData.depthAll]
    omega
theorem depths_le {m : Nat} : ∀ {ds : List D}, (∀ d ∈ ds, d.toP.depth ≤ m) → PyData.depthAll (D.toPs ds) ≤ m
  | [], _ => Nat.zero_le _
  | d :: ds, h => by
    rw [D.toPs, PyData.depthAll]
    exact Nat.max_le.mpr ⟨h d List.mem_cons_self, depths_le fun d' h' => h d' (List.mem_cons_of_mem _ h')⟩
theorem pures_all : ∀ {ds : List D}, (∀ d ∈ ds, d.pure = true) → D.pures ds = true
  | [], _ => rfl
  | d :: ds, h => by
    rw [D.pures, h d List.mem_cons_self, pures_all fun d' h' => h d' (List.mem_cons_of_mem _ h')]
    rfl
theorem ok_tup {ds : List D} {m : Nat} (h1 : ∀ d ∈ ds, d.pure = true) (h2 : ∀ d ∈ ds, d.toP.depth ≤ m) (hm : m + 1 ≤ 60) : (D.tup ds).ok = true := by
  refine ok_of (pures_all h1) ?_
  show PyData.depth (.tuple (D.toPs ds)) ≤ 60
  rw [PyData.depth]
  have := depths_le h2
  omega
theorem ok_steps (ss : List Stp) : (D.tup (ss.map stepD)).ok = true := ok_tup (m := 6) (fun d hd => by
    obtain ⟨s, _, rfl⟩ := List.mem_map.mp hd
    exact step_pure s) (fun d hd => by
    obtain ⟨s, _, rfl⟩ := List.mem_map.mp hd
    exact step_depth s) (by decide)
theorem eqb_ok {d : D} (h : d.ok = true) : D.eqb d d = true := eqb_refl (ok_shaped h).1
def stackS (L : List Stp) (s : Stp) : List Stp := match L.getLast? with
  | some t => if undB t s = true then L.dropLast else L ++ [s]
  | none => L ++ [s]
def stackL (ss : List Stp) : List Stp := ss.foldl stackS []
theorem stackL_succ {ss : List Stp} {i : Nat} {s : Stp} (h : ss[i]? = some s) : stackL (ss.take (i + 1)) = stackS (stackL (ss.take i)) s := by
  unfold stackL
  rw [take_snoc h, List.foldl_append]
  rfl
theorem stackS_len (L : List Stp) (s : Stp) : (stackS L s).length ≤ L.length + 1 := by
  unfold stackS
  split
  · split
    · rw [List.length_dropLast]
      omega
    · rw [List.length_append]
      exact Nat.le_refl _
  · rw [List.length_append]
    exact Nat.le_refl _
theorem stackL_len (ss : List Stp) : ∀ i, (stackL (ss.take i)).length ≤ i
  | 0 => Nat.le_refl _
  | i + 1 => by
    rcases Nat.lt_or_ge i ss.length with z | z
    · rw [stackL_succ (List.getElem?_eq_getElem z)]
      have := stackS_len (stackL (ss.take i)) ss[i]
      have := stackL_len ss i
      omega
    · rw [List.take_of_length_le (by omega)]
      have := stackL_len ss i
      rw [List.take_of_length_le (by omega)] at this
      omega
theorem und_eq (t s : Stp) : (decide (t.word = "double") && (decide (s.word = "strike") && (decide (((s.pos : Nat) : Int) - (t.pos : Nat) = 0) || decide (((s.pos : Nat) : Int) - (t.pos : Nat) = 1)))) = undB t s := by
  obtain ⟨a1, a2, a3, a4, a5, a6, a7, a8, a9, b1, b2, b3⟩ := wne
  cases t with
  | dbl k =>
    cases s with
    | strk j =>
      show (decide (("double" : Str) = "double") && (decide (("strike" : Str) = "strike") && (decide (((j : Nat) : Int) - (k : Nat) = 0) || decide (((j : Nat) : Int) - (k : Nat) = 1)))) = (decide ((j : Int) = (k : Nat)) || decide ((j : Int) = ((k : Nat) : Int) + 1))
      rw [decide_eq_true rfl, decide_eq_true rfl, Bool.true_and, Bool.true_and]
      rw [show decide (((j : Nat) : Int) - (k : Nat) = 0) = decide ((j : Int) = (k : Nat)) from decide_eq_decide.mpr (by omega), show decide (((j : Nat) : Int) - (k : Nat) = 1) = decide ((j : Int) = ((k : Nat) : Int) + 1) from decide_eq_decide.mpr (by omega)]
    | dbl j => simp [Stp.word, undB, a1, a2, a3, a4, a5, a6, a7, a8, a9, b1, b2, b3]
    | fly _ _ _ => simp [Stp.word, undB, a1, a2, a3, a4, a5, a6, a7, a8, a9, b1, b2, b3]
    | cho _ _ _ _ _ => simp [Stp.word, undB, a1, a2, a3, a4, a5, a6, a7, a8, a9, b1, b2, b3]
  | strk k => simp [Stp.word, undB, a1, a2, a3, a4, a5, a6, a7, a8, a9, b1, b2, b3]
  | fly _ _ _ => simp [Stp.word, undB, a1, a2, a3, a4, a5, a6, a7, a8, a9, b1, b2, b3]
  | cho _ _ _ _ _ => simp [Stp.word, undB, a1, a2, a3, a4, a5, a6, a7, a8, a9, b1, b2, b3]
def moreD : Stp → Int
  | .dbl _ => 1
  | .strk _ => -1
  | _ => 0
def moreK : List (Key × D) := [(.inr "double", .int 1), (.inr "strike", .int (-1)), (.inr "fly", .int 0)]
theorem more_new : mergeD [] moreK = moreK := rfl
theorem more_get (s : Stp) : (valD moreK (.inr s.word)).getD (.int 0) = .int (moreD s) := by
  cases s <;> rfl
end Fy
end
section
set_option linter.all false
set_option maxRecDepth 100000
set_option maxHeartbeats 4000000
namespace Fy
open PySem PySem.Spec PyProof.Rows L2
local macro_rules | `(tactic| walk_at "fy op") => `(tactic| first
  | exact f2_add | exact f2_sub | exact f2_cat (by first | assumption | omega | (simp only [List.length_append, cutD_len] <;> omega)) | exact f2_and | exact f2_mod (by omega) | exact f2_fdiv ⟨by omega, by omega⟩ | exact f2_mul (by unfold CMul; omega))
local macro_rules | `(tactic| walk_at "fy cmp") => `(tactic| first
  | exact f2_lt | exact f2_le | exact f2_gt | exact f2_ge | exact f2_eqI | exact f2_neI | exact f2_eqS | exact f2_isN | exact f2_notN)
local macro_rules | `(tactic| walk_at "fy ix") => `(tactic| first
  | exact ix2_T (by first | assumption | rfl) | exact ix2_L (by assumption) (by assumption))
local macro_rules | `(tactic| walk_at "fy wk") => `(tactic| repeat' (first | exact Paired.nil | exact True.intro | rfl | apply Paired.cons))
variable {T : Tx} {C : Addr} {X : Cx} {h : HD}
def wideN (m : Nat) : Stp → Int
  | .cho _ w _ _ _ => 1 - (w : Nat)
  | s => moreD s
theorem after_int {q m : Nat} {s : Stp} (h : s.ok q m = true) : ((s.after m : Nat) : Int) = (m : Int) + wideN m s := by
  cases s with
  | dbl k => exact Int.natCast_add m 1
  | strk k =>
    have hk : k < m := of_decide_eq_true h
    show ((m - 1 : Nat) : Int) = (m : Int) + -1
    omega
  | fly a b c =>
    show ((m : Nat) : Int) = (m : Int) + 0
    omega
  | cho k w p key o =>
    have hk : k < m ∧ 2 ≤ w ∧ w ≤ 3 ∧ k + w ≤ m ∧ _ := of_decide_eq_true h
    show ((m + 1 - w : Nat) : Int) = (m : Int) + (1 - (w : Nat))
    omega
def sp_law_sizes_right : FS := fun ds h Q => ∃ (x ps : Addr) (q m : Nat) (ss : List Stp) (mx : Int) (j : Nat), ds = [.ref x, .ref ps, .int m] ∧ NetAt C h x q m ss ∧ h ps = some (.lst (ss.map stepD)) ∧ NetOk q m ss ∧ NetOk q m (shorts ss.length ss) ∧ shorts ss.length ss = stackL ss ∧ (∀ r ∈ rowsOf (lets q) m, outOf r ss = outOf r (shorts ss.length ss)) ∧
  (iN (behind m ss))[j]? = some mx ∧ (∀ y ∈ iN (behind m ss), y ≤ mx) ∧ (∀ i, i < j → (iN (behind m ss))[i]? ≠ some mx) ∧ Q (.bl true) h
theorem has_law_sizes_right (G : Top T C) : Has T 11 "_law_sizes_right" ["_law_net", "_law_steps_here", "_law_lanes"] (sp_law_sizes_right (C := C)) := by
  refine has_of G.d_law_sizes_right sc_law_sizes_right hv_law_sizes_right (fun ds h Q ⟨_, _, _, _, _, _, _, e, _⟩ => by subst e; rfl) (fun _ _ _ _ _ _ us hl => match us, hl with | [_, _, _], _ => rfl) fun X c ds h Q ⟨x, ps, qn, m, ss, mx, j, e, n, eps, ok, okS, hst, hal, hj, hmx, hno, q⟩ => ?_
  subst e
  have hln := ok.len
  have hm9 := ok.m9
  refine lss_cons (ls_set c 3 rfl rfl ((ll_disp (la_cons (lx_name c 2 rfl rfl rfl) la_nil)) _ fun pm hpm => ?_))
  refine lss_hide ?_
  intro s' hs'
  refine ls_setH hs' c 4 rfl rfl (fun e' he' => le_dispG (kds := kindsD []) he' (lps_cons (fun hh => lx_int) (lps_cons (fun hh => lx_int) (lps_cons (fun hh => lx_int) (lps_cons (fun hh => lx_int) lps_nil)))) rfl rfl (fun z => nomatch z) (show 4 ≤ 15 by decide) (show 4 ≤ 15 by decide) fun pk hpk => ?_)
  rw [kinds_new]
  obtain ⟨hpk0, nkm⟩ := fresh2 hpk
  refine lss_cons (ls_set c 5 rfl rfl ((ll_disp la_nil) _ fun pf hpf => ?_))
  obtain ⟨hpf1, nfk⟩ := fresh2 hpf
  obtain ⟨hpf0, nfm⟩ := fresh2 hpf1
  have hint : ∀ i s, ss[i]? = some s → ∀ {z : D}, atI (natsD (behindTo m ss i)) (-1) = some z → z = .int (lanesB m (ss.take i) : Nat) := fun i s hs z hz => by
    rw [behindTo_last] at hz
    cases hz
    rfl
  refine lss_cut (fun ρ' h' => ∃ y1 y2 y3, ρ' = [some (.ref x), some (.ref ps), some (.int (m : Nat)), some (.ref pm), some (.ref pk), some (.ref pf), y1, y2, y3, none, none] ∧ Sub h h' ∧ h' pm = some (.lst (natsD (behind m ss))) ∧ h' pk = some (.dK (kindsD ss)) ∧ h' pf = some (.lst (flyD ss ss.length))) ?_ ?_
  · refine ls_for c (li_range1 c (lx_eq (lx_callB c (cb_lenL (ds := ss.map stepD) ((((Sub.new hpm).trans (Sub.new hpk)).trans (Sub.new hpf)) _ _ eps)) (la_cons (lx_name c 1 rfl rfl rfl) la_nil) (by decide +kernel) G.b_len (by decide +kernel)) (congrArg (fun n : Nat => D.int (n : Int)) (List.length_map stepD))) (by decide +kernel) G.b_range ⟨by omega, by omega⟩ ⟨fun i ρ hh => ρ = [some (.ref x), some (.ref ps), some (.int (m : Nat)), some (.ref pm), some (.ref pk), some (.ref pf), none, none, none, none, none] ∧ Sub h hh ∧ hh pm = some (.lst (natsD (behindTo m ss i))) ∧ hh pk = some (.dK (kindsD (ss.take i))) ∧ hh pf = some (.lst (flyD ss i)), ⟨rfl, ((Sub.new hpm).trans (Sub.new hpk)).trans (Sub.new hpf), ?_, ?_, updD_same⟩, fun _ _ _ _ => trivial, ?_, ?_⟩)
    · rw [updD_ne nfm.symm, updD_ne nkm.symm, updD_same]
      rfl
    · rw [updD_ne nfk.symm, updD_same]
      rfl
    · rintro i d ρ1 hh hd ⟨rfl, sb, em, ek, ef⟩
      have hi : i < ss.length := by
        have := (List.getElem?_eq_some_iff.mp hd).1
        rwa [rngD_len, Int.toNat_natCast] at this
      rw [rngD_get (by rw [Int.toNat_natCast]; exact hi), Int.zero_add] at hd
      cases hd
      have hs : ss[i]? = some ss[i] := List.getElem?_eq_getElem hi
      generalize ss[i] = s at hs
      have hok := can_ok (cans_at ok.can hs)
      have nmk : pm ≠ pk := nkm.symm
      have nmf : pm ≠ pf := nfm.symm
      have nkf : pk ≠ pf := nfk.symm
      refine ⟨_, lg_name c 6 rfl rfl ?_⟩
      refine lss_cons (ls_set c 7 rfl rfl ((lx_ix (lx_name c 1 rfl rfl rfl) (lx_name c 6 rfl rfl rfl) (ix2_L (z := stepD s) (sb _ _ eps) (atI_nat' (by omega) (by rw [Int.toNat_natCast, List.getElem?_map, hs]; rfl)))) _ ?_))
      refine lss_cons (ls_dput (v := .int (cntW s.word (ss.take i) + 1)) c (lx_bin (lx_dget (y := .str s.word) (z := .int (cntW s.word (ss.take i))) c (lx_name c 4 rfl rfl rfl) (lx_word (lx_name c 7 rfl rfl rfl)) (by have := DGD.ofK (k := .inr s.word) ek; rw [kinds_get] at this; exact this)) lx_int f2_add) (lx_name c 4 rfl rfl rfl) (lx_word (lx_name c 7 rfl rfl rfl)) (.inl ⟨_, .inr s.word, ek, rfl, kinds_len _, rfl⟩) ?_)
      rw [kinds_put, ← take_snoc hs]
      have sb2 : Sub h (updD hh pk (.dK (kindsD (ss.take (i + 1))))) := sb.put _ hpk0
      have em2 : updD hh pk (.dK (kindsD (ss.take (i + 1)))) pm = some (.lst (natsD (behindTo m ss i))) := by rw [updD_ne nmk]; exact em
      have ef2 : updD hh pk (.dK (kindsD (ss.take (i + 1)))) pf = some (.lst (flyD ss i)) := by rw [updD_ne nkf.symm]; exact ef
      have ek2 : updD hh pk (.dK (kindsD (ss.take (i + 1)))) pk = some (.dK (kindsD (ss.take (i + 1)))) := updD_same
      generalize updD hh pk (.dK (kindsD (ss.take (i + 1)))) = h2 at sb2 em2 ef2 ek2
      refine lss_hide ?_
      intro s' hs'
      refine ls_setH hs' c 8 rfl rfl (fun e' he' => (lx_eq (lx_dgetG (kds := moreK) (ky := .inr s.word) (x := .int 0) he' c (fun a' ha' Q q => le_dispG (kds := moreK) ha' (lps_cons (fun hh => lx_int) (lps_cons (fun hh => lx_neg lx_int) (lps_cons (fun hh => lx_int) lps_nil))) rfl rfl (fun z => nomatch z) (show 3 ≤ 15 by decide) (show 3 ≤ 15 by decide) (by rw [more_new]; exact q)) (fun hh sb => lx_word (lx_name c 7 rfl rfl rfl)) (fun hh => lx_int) rfl ⟨rfl, rfl, rfl, rfl⟩) (more_get s)) _ ?_)
      refine lss_cut (fun ρ' h' => ρ' = [some (.ref x), some (.ref ps), some (.int (m : Nat)), some (.ref pm), some (.ref pk), some (.ref pf), some (.int (i : Nat)), some (stepD s), some (.int (wideN (lanesB m (ss.take i)) s)), none, none] ∧ h' = h2) ?_ ?_
      · refine ls_ifB (bb := decide (s.word = "choose")) (lb_cmp (lx_word (s := s) (lx_name c 7 rfl rfl rfl)) lx_str f2_eqS) (fun hb => ?_) (fun hb => ?_)
        · cases s with
          | dbl _ => exact absurd (of_decide_eq_true hb) (str_ne (x := "double") (y := "choose") (by decide +kernel))
          | strk _ => exact absurd (of_decide_eq_true hb) (str_ne (x := "strike") (y := "choose") (by decide +kernel))
          | fly _ _ _ => exact absurd (of_decide_eq_true hb) (str_ne (x := "fly") (y := "choose") (by decide +kernel))
          | cho k w p key o => exact lss_one (ls_set c 8 rfl rfl ((lx_bin lx_int (lx_ix (lx_name c 7 rfl rfl rfl) lx_int (ix2_T (z := .int (w : Nat)) rfl)) f2_sub) _ ⟨rfl, rfl⟩))
        · cases s with
          | cho k w p key o => exact absurd rfl (of_decide_eq_false hb)
          | dbl _ => exact lss_nil ⟨rfl, rfl⟩
          | strk _ => exact lss_nil ⟨rfl, rfl⟩
          | fly _ _ _ => exact lss_nil ⟨rfl, rfl⟩
      · rintro ρ' h' ⟨rfl, rfl⟩
        refine lss_cut (fun ρ' h'' => ρ' = [some (.ref x), some (.ref ps), some (.int (m : Nat)), some (.ref pm), some (.ref pk), some (.ref pf), some (.int (i : Nat)), some (stepD s), some (.int (wideN (lanesB m (ss.take i)) s)), none, none] ∧ Sub h h'' ∧ h'' pm = some (.lst (natsD (behindTo m ss i))) ∧ h'' pk = some (.dK (kindsD (ss.take (i + 1)))) ∧ h'' pf = some (.lst (flyD ss (i + 1)))) ?_ ?_
        · have stay : (∀ a b d, s ≠ .fly a b d) → flyD ss (i + 1) = flyD ss i := fun hn => by
            rw [flyD_succ]
            have : flyF ss i = none := by
              unfold flyF
              rw [hs]
              cases s with
              | fly a b c => exact absurd rfl (hn a b c)
              | dbl _ => rfl
              | strk _ => rfl
              | cho _ _ _ _ _ => rfl
            rw [this]
            exact List.append_nil _
          refine ls_ifB (bb := decide (s.word = "fly")) (lb_cmp (lx_word (s := s) (lx_name c 7 rfl rfl rfl)) lx_str f2_eqS) (fun hb => ?_) (fun hb => ?_)
          · cases s with
            | dbl _ => exact absurd (of_decide_eq_true hb) (str_ne (x := "double") (y := "fly") (by decide +kernel))
            | strk _ => exact absurd (of_decide_eq_true hb) (str_ne (x := "strike") (y := "fly") (by decide +kernel))
            | cho _ _ _ _ _ => exact absurd (of_decide_eq_true hb) (str_ne (x := "choose") (y := "fly") (by decide +kernel))
            | fly a b d =>
              refine lss_one (ls_append (lx_name c 5 rfl rfl rfl) ef2 ((lx_tup (la_cons (lx_name c 6 rfl rfl rfl) (la_cons (lx_bin (lx_ix (lx_name c 7 rfl rfl rfl) lx_int (ix2_T (z := .int (b : Nat)) rfl)) (lx_ix (lx_name c 7 rfl rfl rfl) lx_int (ix2_T (z := .int (a : Nat)) rfl)) f2_sub) (la_cons (lx_bin (lx_ix (lx_name c 7 rfl rfl rfl) lx_int (ix2_T (z := .int (d : Nat)) rfl)) (lx_ix (lx_name c 7 rfl rfl rfl) lx_int (ix2_T (z := .int (b : Nat)) rfl)) f2_sub) la_nil)))) _ ⟨_, ef2, ?_, ?_⟩))
              · have := flyD_len ss i
                omega
              · refine ⟨rfl, sb2.put _ hpf0, by rw [updD_ne nmf]; exact em2, by rw [updD_ne nkf]; exact ek2, ?_⟩
                rw [updD_same, flyD_succ]
                have : flyF ss i = some (.tup [.int (i : Nat), .int ((b : Int) - a), .int ((d : Int) - b)]) := by
                  unfold flyF
                  rw [hs]
                rw [this]
                rfl
          · exact lss_nil ⟨rfl, sb2, em2, ek2, by rw [stay fun a b d z => by subst z; exact absurd rfl (of_decide_eq_false hb)]; exact ef2⟩
        · rintro ρ' h'' ⟨rfl, sb3, em3, ek3, ef3⟩
          refine lss_one (ls_append (lx_name c 3 rfl rfl rfl) em3 ((lx_bin (lx_ix (lx_name c 3 rfl rfl rfl) (lx_neg lx_int) (ix2_L em3 (behindTo_last m ss i))) (lx_name c 8 rfl rfl rfl) f2_add) _ ⟨_, em3, by rw [natsD_len, behindTo_len]; omega, ?_⟩))
          refine ⟨_, _, ?_, Sub.refl _, rfl, sb3.put _ hpm, ?_, by rw [updD_ne nmk.symm]; exact ek3, by rw [updD_ne nmf.symm]; exact ef3⟩
          · walk_at "fy wk"
          · rw [updD_same, behindTo_succ hs, after_int hok.1]
    · rintro ρ1 hh ⟨rfl, sb, em, ek, ef⟩
      rw [rngD_len, Int.toNat_natCast] at em ek ef
      rw [behindTo_all] at em
      rw [List.take_length] at ek
      exact ⟨none, none, none, rfl, sb, em, ek, ef⟩
  · rintro ρ' h' ⟨y1, y2, y3, rfl, sb, em, ek, ef⟩
    have hmem := List.mem_of_getElem? hj
    have em' : h' pm = some (.lst ((iN (behind m ss)).map D.int)) := by rw [em, natsD_ints]; rfl
    have nh := n.sub sb
    have okw : (D.tup [.int mx, .int (j : Nat)]).ok = true := ok_ints (r := [mx, ((j : Nat) : Int)])
    have okf : (D.tup (flyD ss ss.length)).ok = true := ok_tup (m := 1) (fun d hd => by
      unfold flyD at hd
      obtain ⟨i, _, hi⟩ := List.mem_filterMap.mp hd
      unfold flyF at hi
      split at hi
      · cases hi
        rfl
      · cases hi) (fun d hd => by
      unfold flyD at hd
      obtain ⟨i, _, hi⟩ := List.mem_filterMap.mp hd
      unfold flyF at hi
      split at hi
      · cases hi
        exact Nat.le_refl 1
      · cases hi) (by decide)
    refine lss_cons (ls_ifB (bb := false || (false || false)) (lb_w (lw_or (lb_eq (lb_cmp (lx_call (z := .tup [.int mx, .int (j : Nat)]) c (has_widest G) (by decide) (by decide +kernel) (la_cons (lx_name c 0 rfl rfl rfl) la_nil) fun Q q => ⟨x, qn, m, ss, mx, j, rfl, nh, ok, hj, hmx, hno, q⟩) (lx_tup (la_cons (lx_callB c (cb_maxL c em' (List.length_pos_of_mem hmem) hmem hmx) (la_cons (lx_name c 3 rfl rfl rfl) la_nil) (by decide +kernel) G.b_max (by decide +kernel)) (la_cons (lx_index (lx_name c 3 rfl rfl rfl) em' (lx_callB c (cb_maxL c em' (List.length_pos_of_mem hmem) hmem hmx) (la_cons (lx_name c 3 rfl rfl rfl) la_nil) (by decide +kernel) G.b_max (by decide +kernel)) em' hj hno) la_nil))) (f2_neD c okw okw)) (by rw [eqb_ok okw]; rfl)) (fun _ => lw_or (lb_neDs (ks := kindsD ss) (ls := kindsD ss) c (le_call c (has_kinds_of G) (by decide) (by decide +kernel) ((la_cons (lx_name c 0 rfl rfl rfl) la_nil) _ ⟨x, qn, m, ss, rfl, nh, fun p hp => (lx_name c 4 rfl rfl rfl) _ ⟨p, pk, rfl, rfl, Sub.new hp, updD_same, (Sub.new hp) _ _ ek⟩⟩)) rfl ?_) (fun _ => lw_or1 (lb_eq (lb_neLs c (le_call c (has_flights G) (by decide) (by decide +kernel) ((la_cons (lx_name c 0 rfl rfl rfl) la_nil) _ ⟨x, qn, m, ss, rfl, nh, hln, fun p hp => (lx_name c 5 rfl rfl rfl) _ ⟨p, pf, rfl, rfl, Sub.new hp, updD_same, (Sub.new hp) _ _ ef⟩⟩)) okf okf) (by rw [eqbs_refl (ok_shaped okf).1]; rfl))) (fun _ => rfl)) (fun _ => rfl))) (fun z => nomatch z) (fun _ => lss_nil ?_))
    · intro kv hkv
      unfold kindsD at hkv
      simp only [List.mem_cons, List.not_mem_nil, or_false] at hkv
      rcases hkv with rfl | rfl | rfl | rfl
      · exact ⟨_, rfl, kinds_get ss (.cho 0 0 0 [] 0)⟩
      · exact ⟨_, rfl, kinds_get ss (.dbl 0)⟩
      · exact ⟨_, rfl, kinds_get ss (.fly 0 0 0)⟩
      · exact ⟨_, rfl, kinds_get ss (.strk 0)⟩
    refine lss_cons (ls_set c 9 rfl rfl ((ll_disp la_nil) _ fun pl hpl => ?_))
    have hpl0 : h pl = none := by
      cases hz : h pl with
      | none => rfl
      | some o => rw [sb _ _ hz] at hpl; cases hpl
    refine lss_cons (ls_for c (li_list (lx_name c 1 rfl rfl rfl) ((sb.trans (Sub.new hpl)) _ _ eps) ⟨fun i ρ hh => ∃ y1 y2 y3, ρ = [some (.ref x), some (.ref ps), some (.int (m : Nat)), some (.ref pm), some (.ref pk), some (.ref pf), y1, y2, y3, some (.ref pl), none] ∧ Sub h hh ∧ hh pl = some (.lst ((stackL (ss.take i)).map stepD)), ⟨y1, y2, y3, rfl, sb.trans (Sub.new hpl), updD_same⟩, fun i ρ hh ⟨_, _, _, hP⟩ => hP.2.1 _ _ eps, ?_, ?_⟩))
    · rintro i d ρ1 hh hd ⟨y1, y2, y3, rfl, sb4, el⟩
      obtain ⟨s, hs, rfl⟩ := map_get hd
      have hi : i < ss.length := (List.getElem?_eq_some_iff.mp hs).1
      have hsl := stackL_len ss i
      have hsucc := stackL_succ hs
      generalize stackL (ss.take i) = L at el hsl hsucc
      refine ⟨_, lg_name c 7 rfl rfl ?_⟩
      have push : stackL (ss.take (i + 1)) = L ++ [s] → ∀ E : EndsD, E.nx = Again (fun ρ hh => ∃ y1 y2 y3, ρ = [some (.ref x), some (.ref ps), some (.int (m : Nat)), some (.ref pm), some (.ref pk), some (.ref pf), y1, y2, y3, some (.ref pl), none] ∧ Sub h hh ∧ hh pl = some (.lst ((stackL (ss.take (i + 1))).map stepD))) → E.nx [some (.ref x), some (.ref ps), some (.int (m : Nat)), some (.ref pm), some (.ref pk), some (.ref pf), y1, some (stepD s), y3, some (.ref pl), none] (updD hh pl (.lst (L.map stepD ++ [stepD s]))) := fun hp E hE => by
        rw [hE]
        refine ⟨_, _, Wk.refl _, Sub.refl _, _, _, _, rfl, sb4.put _ hpl0, ?_⟩
        rw [updD_same, hp, List.map_append]
        rfl
      have hll : (L.map stepD).length < 100000 := by rw [List.length_map]; omega
      rcases List.eq_nil_or_concat L with hL | ⟨L', t, hL⟩
      · refine lss_one (ls_ifB (bb := false && false) (lb_w (lw_and (b2 := false) (lb_eq (lb_cmp (lx_callB c (cb_lenL el) (la_cons (lx_name c 9 rfl rfl rfl) la_nil) (by decide +kernel) G.b_len (by decide +kernel)) lx_int f2_gt) (by rw [hL]; rfl)) (fun z => nomatch z) (fun _ => rfl))) (fun z => nomatch z) (fun _ => ?_))
        have hp : stackL (ss.take (i + 1)) = L ++ [s] := by
          rw [hsucc, hL]
          rfl
        exact lss_one (ls_append (lx_name c 9 rfl rfl rfl) el ((lx_name c 7 rfl rfl rfl) _ ⟨_, el, hll, push hp _ rfl⟩))
      · rw [List.concat_eq_append] at hL
        have hlast : atI (L.map stepD) (-1) = some (stepD t) := atI_last (n := L'.length) (by rw [hL, List.length_map, List.length_append]; rfl) (by rw [hL, List.getElem?_map, List.getElem?_append_right (Nat.le_refl _), Nat.sub_self]; rfl)
        have hgl : L.getLast? = some t := by rw [hL, List.getLast?_concat]
        refine lss_one (ls_ifB (bb := true && undB t s) (lb_eq (lb_w (lw_and (lb_eq (lb_cmp (lx_callB c (cb_lenL el) (la_cons (lx_name c 9 rfl rfl rfl) la_nil) (by decide +kernel) G.b_len (by decide +kernel)) lx_int f2_gt) (decide_eq_true (by rw [hL, List.length_map, List.length_append]; show (0 : Int) < ((L'.length + 1 : Nat) : Int); omega))) (fun _ => lw_and (lb_cmp (lx_word (s := t) (lx_ix (lx_name c 9 rfl rfl rfl) (lx_neg lx_int) (ix2_L el hlast))) lx_str f2_eqS) (fun _ => lw_and (lb_cmp (lx_word (s := s) (lx_name c 7 rfl rfl rfl)) lx_str f2_eqS) (fun _ => lw_and1 (lb_cmp (lx_bin (lx_pos (s := s) (lx_name c 7 rfl rfl rfl)) (lx_pos (s := t) (lx_ix (lx_name c 9 rfl rfl rfl) (lx_neg lx_int) (ix2_L el hlast))) f2_sub) (lx_tup (la_cons lx_int (la_cons lx_int la_nil))) f2_inT2)) (fun _ => rfl)) (fun _ => rfl)) (fun _ => rfl))) (by rw [und_eq])) (fun hb => ?_) (fun hb => ?_))
        · rw [Bool.true_and] at hb
          have hp : stackL (ss.take (i + 1)) = L' := by
            rw [hsucc]
            unfold stackS
            rw [hgl]
            dsimp only
            rw [if_pos hb, hL, List.dropLast_concat]
          have el2 : hh pl = some (.lst (L'.map stepD ++ [stepD t])) := by
            rw [el, hL, List.map_append]
            rfl
          refine lss_one (ls_pop (lx_name c 9 rfl rfl rfl) el2 ?_)
          refine ⟨_, _, Wk.refl _, Sub.refl _, _, _, _, rfl, sb4.put _ hpl0, ?_⟩
          rw [updD_same, hp]
        · rw [Bool.true_and] at hb
          have hp : stackL (ss.take (i + 1)) = L ++ [s] := by
            rw [hsucc]
            unfold stackS
            rw [hgl]
            dsimp only
            rw [if_neg (by rw [hb]; exact Bool.false_ne_true)]
          exact lss_one (ls_append (lx_name c 9 rfl rfl rfl) el ((lx_name c 7 rfl rfl rfl) _ ⟨_, el, hll, push hp _ rfl⟩))
    · rintro ρ1 hh ⟨y1, y2, y3, rfl, sb4, el⟩
      rw [List.length_map, List.take_length, ← hst] at el
      refine lss_cons (ls_set c 10 rfl rfl (le_call c (has_shortened G) (by decide) (by decide +kernel) ((la_cons (lx_name c 0 rfl rfl rfl) la_nil) _ ⟨x, qn, m, ss, rfl, n.sub sb4, hln, okS, fun y h5 sb5 n5 => ?_⟩)))
      generalize shorts ss.length ss = zz at el okS hal n5
      obtain ⟨oth5, e5⟩ := n5.fld
      have okz := ok_steps zz
      refine lss_one (ls_ret ((lx_eq (lx_and (lx_eq (lx_cmp (lx_meth0 (z := .tup (zz.map stepD)) c (has_steps G) (by decide) (lx_name c 10 rfl rfl rfl) e5 G.cl rfl (fun Q q => ⟨y, qn, m, zz, rfl, n5, q⟩)) (lx_callTy c (cb_tupL (sb5 _ _ el)) (la_cons (lx_name c 9 rfl rfl rfl) la_nil) (by decide +kernel) G.b_tuple (by decide +kernel)) (f2_eqD c okz okz)) (congrArg D.bl (eqb_ok okz))) (fun _ => lx_one (lx_cmp (lx_call (z := .non) c (has_alike G) (by decide) (by decide +kernel) (la_cons (lx_name c 0 rfl rfl rfl) (la_cons (lx_name c 10 rfl rfl rfl) la_nil)) fun Q q => ⟨x, y, qn, m, ss, zz, rfl, (n.sub sb4).sub sb5, n5, ok, okS, hal, q⟩) lx_non f2_isN)) (fun z => nomatch z)) rfl) _ (Fg.to (sb4.trans sb5) q)))
end Fy
end
section
set_option linter.all false
set_option maxRecDepth 100000
set_option maxHeartbeats 4000000
namespace Fy
open PySem PySem.Spec PyProof.Rows L2
local macro_rules | `(tactic| walk_at "fy op") => `(tactic| first
  | exact f2_add | exact f2_sub | exact f2_cat (by first | assumption | omega | (simp only [List.length_append, cutD_len] <;> omega)) | exact f2_and | exact f2_mod (by omega) | exact f2_fdiv ⟨by omega, by omega⟩ | exact f2_mul (by unfold CMul; omega))
local macro_rules | `(tactic| walk_at "fy cmp") => `(tactic| first
  | exact f2_lt | exact f2_le | exact f2_gt | exact f2_ge | exact f2_eqI | exact f2_neI | exact f2_eqS | exact f2_isN | exact f2_notN)
local macro_rules | `(tactic| walk_at "fy ix") => `(tactic| first
  | exact ix2_T (by first | assumption | rfl) | exact ix2_L (by assumption) (by assumption))
local macro_rules | `(tactic| walk_at "fy wk") => `(tactic| repeat' (first | exact Paired.nil | exact True.intro | rfl | apply Paired.cons))
variable {T : Tx} {C : Addr} {X : Cx} {h : HD}
theorem lx_ixLL {k : Nat} {N : List Str} {sc : Scope} {vt st : List Bool} {ρ : Rho} {a b : Expr} {pos : Pos} {ds : List D} {z : D} {i : Int} (ha : LL X a ρ h ds) (hb : ∀ hh, Sub h hh → LX X b ρ hh (.int i) hh) (hz : atI ds i = some z) (hs : PlainIx b := by exact fun _ _ => rfl) : LX X (.Subscript a b pos) ρ h z h := fun Q q =>
  le_of (pe_ix ix_list pe_we pe_we hs) fun σ H hs hh => (ha (fun d h' => ∃ p, h p = none ∧ d = .ref p ∧ h' = updD h p (.lst ds)) (fun p hp => ⟨p, hp, rfl, rfl⟩)).use hs hh fun u H1 d h1 t1 r1 d1 ⟨p, hp, e1, e2⟩ => by
    subst e1 e2
    refine (hb _ (Sub.new hp)).use (hs.mono t1) r1 fun v H2 t2 r2 d2 => ?_
    obtain ⟨vs, e1, d3⟩ := r2.lst (a := p) (ds := ds) updD_same
    have hzz : ixN vs.length i = ixN ds.length i := by rw [d3.length]
    unfold atI at hz
    cases q1 : ixN ds.length i with
    | none => rw [q1] at hz; cases hz
    | some j =>
      rw [q1] at hz
      obtain ⟨w, e2, d4⟩ := d3.get (show ds[j]? = some z from hz)
      exact ⟨p, vs, i, w, (d1.mono t2).ref_inv, d2.int_inv, SqL.of e1, by unfold atI; rw [hzz, q1]; exact e2, oq_of (t1.trans t2) (r2.sub (Sub.new hp)) d4 q⟩
def bitR (n i : Nat) : List Int := ((List.range n).map fun l => Builtin.bitAnd (((i : Nat) : Int) / 2 ^ ((l : Nat) : Int).toNat) 1).reverse
def pw2 : List Int := [1, 2, 4, 8, 16, 32, 64]
theorem bits_rows : ∀ n, n < 7 → ∀ i, i < 2 ^ n → (rowsOf (lets 2) n)[i]? = some (bitR n i) := by decide +kernel
theorem pw2_get : ∀ n, n < 7 → pw2[n]? = some ((2 ^ n : Nat) : Int) := by decide +kernel
def manyI (r : List Int) : Int := ((wordL r).length : Nat) - 1
def prC (r : List Int) : D := .tup [rowD r, .int (manyI r)]
theorem rows2_len (n : Nat) : (rowsOf (lets 2) n).length = 2 ^ n := by
  rw [rowsOf_len]
  rfl
def sp_law_pairs : FS := fun ds h Q => ∃ n : Nat, ds = [.int n] ∧ n < 7 ∧ ∀ p, h p = none → Q (.ref p) (updD h p (.lst ((rowsOf (lets 2) n).map prC)))
theorem has_law_pairs (G : Top T C) : Has T 2 "_law_pairs" ["_law_lanes"] sp_law_pairs := by
  refine has_of G.d_law_pairs sc_law_pairs hv_law_pairs (fun ds h Q ⟨_, e, _⟩ => by subst e; rfl) (fun _ _ _ _ _ _ us hl => match us, hl with | [_], _ => rfl) fun X c ds h Q ⟨n, e, hn, q⟩ => ?_
  subst e
  have hp2 : 2 ^ n ≤ 64 := by
    have : 2 ^ n ≤ 2 ^ 6 := Nat.pow_le_pow_right (by decide) (by omega)
    exact this
  have hg := pw2_get n hn
  have hrl := rows2_len n
  have hbits := bits_rows n hn
  generalize 2 ^ n = M at hp2 hg hrl hbits
  refine lss_cons (ls_set c 1 rfl rfl ((ll_disp la_nil) _ fun pf hpf => ?_))
  refine lss_cons (ls_for c (li_range1 c (lx_ixLL (k := 0) (N := []) (sc := defScope s_law_pairs) (vt := []) (st := []) (z := .int ((M : Nat) : Int)) (ds := pw2.map D.int) (ll_disp (la_cons lx_int (la_cons lx_int (la_cons lx_int (la_cons lx_int (la_cons lx_int (la_cons lx_int (la_cons lx_int la_nil)))))))) (fun hh sb => lx_name c 0 rfl rfl rfl) (atI_nat' (by omega) (by rw [Int.toNat_natCast, List.getElem?_map, hg]; rfl))) (by decide +kernel) G.b_range ⟨by omega, by omega⟩ ⟨fun i ρ hh => ρ = [some (.int (n : Nat)), some (.ref pf), none, none, none] ∧ hh = updD h pf (.lst (((rowsOf (lets 2) n).take i).map prC)), ⟨rfl, rfl⟩, fun _ _ _ _ => trivial, ?_, ?_⟩))
  · rintro i d ρ1 hh hd ⟨rfl, rfl⟩
    have hi : i < M := by
      have := (List.getElem?_eq_some_iff.mp hd).1
      rwa [rngD_len, Int.toNat_natCast] at this
    rw [rngD_get (by rw [Int.toNat_natCast]; exact hi), Int.zero_add] at hd
    cases hd
    have hr := hbits i hi
    have er : rngD 0 (((n : Nat) : Int)).toNat = natsD (List.range n) := by rw [Int.toNat_natCast, rngD_nats]
    have ef : updD h pf (.lst (((rowsOf (lets 2) n).take i).map prC)) pf = some (.lst (((rowsOf (lets 2) n).take i).map prC)) := updD_same
    have hbl : (bitR n i).length = n := by
      unfold bitR
      rw [List.length_reverse, List.length_map, List.length_range]
    refine ⟨_, lg_name c 2 rfl rfl ?_⟩
    refine lss_cons (ls_set c 3 rfl rfl ((lx_eq (lx_rev (lx_callTyL (z := .tup (((List.range n).map fun l => Builtin.bitAnd (((i : Nat) : Int) / 2 ^ ((l : Nat) : Int).toNat) 1).map D.int)) c (fun p hp => cb_tupL updD_same) (ll_comp c (own := [("_law_lane", 4)]) (rs := ((List.range n).map fun l => Builtin.bitAnd (((i : Nat) : Int) / 2 ^ ((l : Nat) : Int).toNat) 1).map D.int) (ds := natsD (List.range n)) (by decide +kernel) (is := [4]) (by simp) (fun d => [some (.int (n : Nat)), some (.ref pf), some (.int (i : Nat)), none, some d]) (fun R kk => li_range1 c (lx_name c 0 rfl rfl rfl) (by decide +kernel) G.b_range ⟨by omega, by omega⟩ (by rw [er]; exact kk _ _ (Sub.refl _) fun _ _ _ => trivial)) (by rw [natsD_len, List.length_map, List.length_map]) (by rw [natsD_len, List.length_range]; omega) (fun i d hd X' b => lg_name (blk_ctx c b rfl rfl) 4 rfl rfl rfl) (fun j d d' hh hd hd' sb X' b => ?_)) (by decide +kernel) G.b_tuple (by decide +kernel))) (show _ = rowD (bitR n i) by unfold bitR rowD; rw [List.map_reverse])) _ ?_))
    · obtain ⟨l, hl, rfl⟩ := map_get hd
      rw [List.getElem?_map, List.getElem?_map, hl] at hd'
      cases hd'
      exact lx_bin (lx_callTy (blk_ctx c b rfl rfl) cb_int (la_cons (lx_bin (lx_name (blk_ctx c b rfl rfl) 2 rfl rfl rfl) (lx_name (blk_ctx c b rfl rfl) 4 rfl rfl rfl) (f2_shr (by omega))) la_nil) (by decide +kernel) G.b_int (by decide +kernel)) lx_int f2_and
    · refine lss_one (ls_append (lx_name c 1 rfl rfl rfl) ef ((lx_tup (la_cons (lx_name c 3 rfl rfl rfl) (la_cons (lx_bin (lx_eq (lx_callB c cb_lenT (la_cons (lx_call (z := rowD (wordL (bitR n i))) c (has_law_word G) (by decide) (by decide +kernel) (la_cons (lx_name c 3 rfl rfl rfl) la_nil) fun Q q => ⟨bitR n i, rfl, by omega, q⟩) la_nil) (by decide +kernel) G.b_len (by decide +kernel)) (congrArg (fun n : Nat => D.int (n : Int)) (List.length_map D.int))) lx_int f2_sub) la_nil))) _ ⟨_, ef, ?_, ?_⟩))
      · rw [List.length_map, List.length_take]
        omega
      · refine ⟨_, _, ?_, Sub.refl _, rfl, ?_⟩
        · walk_at "fy wk"
        · rw [updD_updD, take_snoc hr, List.map_append]
          rfl
  · rintro ρ1 hh ⟨rfl, rfl⟩
    rw [rngD_len, Int.toNat_natCast, List.take_of_length_le (by rw [hrl]; exact Nat.le_refl _)]
    exact lss_one (ls_ret ((lx_name c 1 rfl rfl rfl) _ (Fg.of (q pf hpf))))
def hd0 (r : List Int) : Int := r.getD 0 0
def needI (row out : List Int) : Int := if manyI row = 0 then 0 else if (manyI out + (if (!decide (hd0 out = hd0 row)) = true then 1 else 0) - manyI row + 1) / 2 > 0 then (manyI out + (if (!decide (hd0 out = hd0 row)) = true then 1 else 0) - manyI row + 1) / 2 else 0
def needN (row out : List Int) : Nat := (needI row out).toNat
theorem needI_nn (row out : List Int) : needI row out = (needN row out : Nat) := by
  unfold needN
  have : 0 ≤ needI row out := by
    unfold needI
    split
    · exact Int.le_refl _
    · split <;> omega
  omega
def canF (row out : List Int) : Bool := decide (0 < manyI row) || (decide (manyI out = 0) && decide (hd0 out = hd0 row))
abbrev B3 := Option (Nat × List Int × List Int)
def betF (n : Nat) : B3 → Bool
  | none => true
  | some p => decide (p.1 < n)
def farSt (row : List Int) (b : B3) (out : List Int) : B3 := if (canF row out && betF (needN row out) b) = true then some (needN row out, row, out) else b
def farF (n o : Nat) : B3 := (rowsOf (lets 2) n).foldl (fun b row => (rowsOf (lets 2) o).foldl (farSt row) b) none
def sp_law_is_far_right : FS := fun ds h Q => ∃ (n o : Nat) (mx : List Int → Nat) (bo : List Int → List Int), ds = [.int n, .int o] ∧ 1 ≤ n ∧ n ≤ 6 ∧ 1 ≤ o ∧ o ≤ 6 ∧
  (∀ r ∈ rowsOf (lets 2) n, ∃ ls dst, FarAt r ls o dst (mx r) (bo r)) ∧ farF n o = farR mx bo (rowsOf (lets 2) n) ∧ Q (.bl true) h
theorem far_ok (b : B3) : (farD b).ok = true := by
  cases b with
  | none => decide +kernel
  | some p =>
    have p1 := row_pure p.2.1
    have p2 := row_pure p.2.2
    have d1 := row_depth p.2.1
    have d2 := row_depth p.2.2
    refine ok_tup (m := 1) (fun d hd => ?_) (fun d hd => ?_) (by decide)
    · simp only [List.mem_cons, List.not_mem_nil, or_false] at hd
      rcases hd with rfl | rfl | rfl
      · rfl
      · exact p1
      · exact p2
    · simp only [List.mem_cons, List.not_mem_nil, or_false] at hd
      rcases hd with rfl | rfl | rfl
      · exact Nat.zero_le _
      · exact d1
      · exact d2
theorem far_step {row out : List Int} {b : B3} : farSt row b out = if (canF row out && betF (needN row out) b) = true then some (needN row out, row, out) else b := rfl
theorem has_law_is_far_right (G : Top T C) : Has T 5 "_law_is_far_right" ["_law_lanes", "_law_outs"] sp_law_is_far_right := by
  refine has_of G.d_law_is_far_right sc_law_is_far_right hv_law_is_far_right (fun ds h Q ⟨_, _, _, _, e, _⟩ => by subst e; rfl) (fun _ _ _ _ _ _ us hl => match us, hl with | [_, _], _ => rfl) fun X c ds h Q ⟨n, o, mx, bo, e, n1, n6, o1, o6, hF, hfar, q⟩ => ?_
  subst e
  refine lss_cons (ls_set c 2 rfl rfl (lx_non _ ?_))
  refine lss_cons (ls_for c (li_ll (ll_call (res := (rowsOf (lets 2) n).map prC) c (has_law_pairs G) (by decide) (by decide +kernel) (la_cons (lx_name c 0 rfl rfl rfl) la_nil) fun Q q => ⟨n, rfl, by omega, q⟩) fun pa hpa => ⟨fun i ρ hh => ρ = [some (.int (n : Nat)), some (.int (o : Nat)), some (farD (((rowsOf (lets 2) n).take i).foldl (fun b row => (rowsOf (lets 2) o).foldl (farSt row) b) none)), none, none, none, none, none] ∧ Sub h hh ∧ hh pa = some (.lst ((rowsOf (lets 2) n).map prC)), ⟨rfl, Sub.new hpa, updD_same⟩, fun i ρ hh hP => hP.2.2, ?_, ?_⟩))
  · rintro i d ρ1 hh hd ⟨rfl, sb, epa⟩
    obtain ⟨row, hrow, rfl⟩ := map_get hd
    have hsucc : ((rowsOf (lets 2) n).take (i + 1)).foldl (fun b row => (rowsOf (lets 2) o).foldl (farSt row) b) none = (rowsOf (lets 2) o).foldl (farSt row) (((rowsOf (lets 2) n).take i).foldl (fun b row => (rowsOf (lets 2) o).foldl (farSt row) b) none) := by
      rw [take_snoc hrow, List.foldl_append]
      rfl
    generalize ((rowsOf (lets 2) n).take i).foldl (fun b row => (rowsOf (lets 2) o).foldl (farSt row) b) none = b0 at hsucc
    have hrl := (rowsOf_row _ _ _ (List.mem_of_getElem? hrow)).1
    refine ⟨_, lg_tup c (lgs_cons (lg_name c 3 rfl rfl (lgs_cons (lg_name c 4 rfl rfl (lgs_nil ?_))))) rfl⟩
    refine lss_one (ls_for c (li_ll (ll_call (res := (rowsOf (lets 2) o).map prC) c (has_law_pairs G) (by decide) (by decide +kernel) (la_cons (lx_name c 1 rfl rfl rfl) la_nil) fun Q q => ⟨o, rfl, by omega, q⟩) fun pb hpb => ⟨fun j ρ h' => ρ = [some (.int (n : Nat)), some (.int (o : Nat)), some (farD (((rowsOf (lets 2) o).take j).foldl (farSt row) b0)), some (rowD row), some (.int (manyI row)), none, none, none] ∧ Sub hh h' ∧ h' pb = some (.lst ((rowsOf (lets 2) o).map prC)), ⟨rfl, Sub.new hpb, updD_same⟩, fun j ρ h' hP => hP.2.2, ?_, ?_⟩))
    · rintro j d ρ1 h2 hd2 ⟨rfl, sb2, epb⟩
      obtain ⟨out, hout, rfl⟩ := map_get hd2
      have hsucc2 : ((rowsOf (lets 2) o).take (j + 1)).foldl (farSt row) b0 = farSt row (((rowsOf (lets 2) o).take j).foldl (farSt row) b0) out := by
        rw [take_snoc hout, List.foldl_append]
        rfl
      generalize ((rowsOf (lets 2) o).take j).foldl (farSt row) b0 = b1 at hsucc2
      have hol := (rowsOf_row _ _ _ (List.mem_of_getElem? hout)).1
      have hr0 : ∀ {r : List Int}, 1 ≤ r.length → atI (r.map D.int) 0 = some (.int (hd0 r)) := fun {r} hr => by
        cases r with
        | nil => exact absurd hr (by decide)
        | cons y ys => exact at0
      refine ⟨_, lg_tup c (lgs_cons (lg_name c 5 rfl rfl (lgs_cons (lg_name c 6 rfl rfl (lgs_nil ?_))))) rfl⟩
      refine lss_cons (ls_set c 7 rfl rfl ((lx_callB c (cb_max2 c) (la_cons lx_int (la_cons (lx_bin (lx_bin (lx_bin (lx_bin (lx_name c 6 rfl rfl rfl) (lx_callTy c cb_intB (la_cons (lx_cmp (lx_ix (lx_name c 5 rfl rfl rfl) lx_int (ix2_T (hr0 (by omega)))) (lx_ix (lx_name c 3 rfl rfl rfl) lx_int (ix2_T (hr0 (by omega)))) f2_neI) la_nil) (by decide +kernel) G.b_int (by decide +kernel)) f2_add) (lx_name c 4 rfl rfl rfl) f2_sub) lx_int f2_add) lx_int (f2_fdiv ⟨by decide, by decide⟩)) la_nil)) (by decide +kernel) G.b_max (by decide +kernel)) _ ?_))
      refine lss_cut (fun ρ' h' => ρ' = [some (.int (n : Nat)), some (.int (o : Nat)), some (farD b1), some (rowD row), some (.int (manyI row)), some (rowD out), some (.int (manyI out)), some (.int (needN row out : Nat))] ∧ h' = h2) ?_ ?_
      · refine ls_ifB (bb := decide (manyI row = 0)) (lb_cmp (lx_name c 4 rfl rfl rfl) lx_int f2_eqI) (fun hb => ?_) (fun hb => ?_)
        · refine lss_one (ls_set c 7 rfl rfl (lx_int _ ⟨?_, rfl⟩))
          rw [← needI_nn]
          unfold needI
          rw [if_pos (of_decide_eq_true hb)]
          rfl
        · refine lss_nil ⟨?_, rfl⟩
          rw [← needI_nn]
          unfold needI
          rw [if_neg (of_decide_eq_false hb)]
          rfl
      · rintro ρ' h' ⟨rfl, rfl⟩
        have done : ∀ b2, (if (canF row out && betF (needN row out) b1) = true then some (needN row out, row, out) else b1) = b2 → ∀ y, Again (fun ρ h' => ρ = [some (.int (n : Nat)), some (.int (o : Nat)), some (farD (((rowsOf (lets 2) o).take (j + 1)).foldl (farSt row) b0)), some (rowD row), some (.int (manyI row)), none, none, none] ∧ Sub hh h' ∧ h' pb = some (.lst ((rowsOf (lets 2) o).map prC))) [some (.int (n : Nat)), some (.int (o : Nat)), some (farD b2), some (rowD row), some (.int (manyI row)), some (rowD out), some (.int (manyI out)), y] h' := fun b2 hb2 y => by
          rw [← far_step, ← hsucc2] at hb2
          refine ⟨_, _, ?_, Sub.refl _, rfl, sb2, epb⟩
          rw [hb2]
          walk_at "fy wk"
        refine lss_one (ls_ifB (bb := canF row out && betF (needN row out) b1) (lb_w (lw_and (lb_w (lw_or (lb_cmp (lx_name c 4 rfl rfl rfl) lx_int f2_gt) (fun _ => lw_or1 (lb_w (lw_and (lb_cmp (lx_name c 6 rfl rfl rfl) lx_int f2_eqI) (fun _ => lw_and1 (lb_cmp (lx_ix (lx_name c 5 rfl rfl rfl) lx_int (ix2_T (hr0 (by omega)))) (lx_ix (lx_name c 3 rfl rfl rfl) lx_int (ix2_T (hr0 (by omega)))) f2_eqI)) (fun _ => rfl)))) (fun _ => rfl))) (fun _ => lw_and1 ?_) (fun _ => rfl))) (fun hb => ?_) (fun hb => lss_nil (done b1 (by rw [hb, if_neg Bool.false_ne_true]) _)))
        · cases b1 with
          | none => exact lb_w (lw_or (b2 := false) (b1 := true) (lb_cmp (lx_name c 2 rfl rfl rfl) lx_non f2_isN) (fun z => nomatch z) (fun _ => rfl))
          | some p => exact lb_eq (lb_w (lw_or (b1 := false) (lb_cmp (lx_name c 2 rfl rfl rfl) lx_non f2_isN) (fun _ => lw_or1 (lb_cmp (lx_name c 7 rfl rfl rfl) (lx_ix (lx_name c 2 rfl rfl rfl) lx_int (ix2_T (z := .int (p.1 : Nat)) rfl)) f2_gt)) (fun _ => rfl))) (show decide (((p.1 : Nat) : Int) < (needN row out : Nat)) = decide (p.1 < needN row out) from decide_eq_decide.mpr (by omega))
        · refine lss_one (ls_set c 2 rfl rfl ((lx_tup (la_cons (lx_name c 7 rfl rfl rfl) (la_cons (lx_name c 3 rfl rfl rfl) (la_cons (lx_name c 5 rfl rfl rfl) la_nil)))) _ ?_))
          exact done (some (needN row out, row, out)) (by rw [hb, if_pos rfl]) _
    · rintro ρ1 h2 ⟨rfl, sb2, epb⟩
      rw [List.length_map, List.take_length, ← hsucc]
      refine ⟨_, _, ?_, Sub.refl _, rfl, sb.trans sb2, sb2 _ _ epa⟩
      walk_at "fy wk"
  · rintro ρ1 hh ⟨rfl, sb, epa⟩
    rw [List.length_map, List.take_length]
    rw [show (rowsOf (lets 2) n).foldl (fun b row => (rowsOf (lets 2) o).foldl (farSt row) b) none = farR mx bo (rowsOf (lets 2) n) from hfar]
    refine lss_one (ls_ret ((lx_eq (lx_cmp (lx_call (z := farD (farR mx bo (rowsOf (lets 2) n))) c (has_farthest G) (by decide) (by decide +kernel) (la_cons lx_int (la_cons (lx_name c 0 rfl rfl rfl) (la_cons (lx_name c 1 rfl rfl rfl) la_nil))) fun Q q => ⟨2, n, o, mx, bo, rfl, by decide, by decide, n1, n6, o1, o6, ?_, hF, q⟩) (lx_name c 2 rfl rfl rfl) (f2_eqD c (far_ok _) (far_ok _))) (congrArg D.bl (eqb_ok (far_ok _)))) _ (Fg.to sb q)))
    have : 2 ^ (max n o) ≤ 2 ^ 6 := Nat.pow_le_pow_right (by decide) (by omega)
    omega
end Fy
end
section
set_option linter.all false
set_option maxRecDepth 100000
set_option maxHeartbeats 4000000
namespace Fy
open PySem PySem.Spec PyProof.Rows L2
local macro_rules | `(tactic| walk_at "fy op") => `(tactic| first
  | exact f2_add | exact f2_sub | exact f2_cat (by first | assumption | omega | (simp only [List.length_append, cutD_len] <;> omega)) | exact f2_and | exact f2_mod (by omega) | exact f2_fdiv ⟨by omega, by omega⟩ | exact f2_mul (by unfold CMul; omega))
local macro_rules | `(tactic| walk_at "fy cmp") => `(tactic| first
  | exact f2_lt | exact f2_le | exact f2_gt | exact f2_ge | exact f2_eqI | exact f2_neI | exact f2_eqS | exact f2_isN | exact f2_notN)
local macro_rules | `(tactic| walk_at "fy ix") => `(tactic| first
  | exact ix2_T (by first | assumption | rfl) | exact ix2_L (by assumption) (by assumption))
local macro_rules | `(tactic| walk_at "fy wk") => `(tactic| repeat' (first | exact Paired.nil | exact True.intro | rfl | apply Paired.cons))
variable {T : Tx} {C : Addr} {X : Cx} {h : HD}
theorem lss_wk {ss : List Stmt} {ρ ρ' : Rho} {E : EndsD} (w : Wk ρ' ρ) (l : LSs X ss ρ' h E) : LSs X ss ρ h E := fun σ H a b => l σ H (a.wk w) b
def dueSt (d : List Int → Nat) (r : List Int) (b : B3) (out : List Int) : B3 := if betF (d out) b = true then some (d out, r, out) else b
def dueF (ls : List Int → List Int) (dst : List Int → List Int → Nat) (o : Nat) (rows : List (List Int)) : B3 := rows.foldl (fun b r => (rowsOf (ls r) o).foldl (dueSt (dst r) r) b) none
structure FarLaw (q m o : Nat) (ls : List Int → List Int) (dst : List Int → List Int → Nat) (mx : List Int → Nat) (bo : List Int → List Int) : Prop where
  far : ∀ r ∈ rowsOf (lets q) m, FarAt r (ls r) o (dst r) (mx r) (bo r)
  stp : ∀ r ∈ rowsOf (lets q) m, ∀ out ∈ rowsOf (ls r) o, StopAt (thin r) out (dst r out)
  due : dueF ls dst o (rowsOf (lets q) m) = farR mx bo (rowsOf (lets q) m)
abbrev LawCx (X : Cx) (T : Tx) : Prop := Ctx X T 13 n_law (defScope s_law) v_law v_law
theorem sub_none {h h' : HD} {p : Addr} (s : Sub h h') (e : h' p = none) : h p = none := by
  cases hz : h p with
  | none => rfl
  | some o => rw [s _ _ hz] at e; cases e
theorem law_s20 (G : Top T C) (c : LawCx X T) {px pc ps x pr : Addr} {q m : Nat} {E : EndsD} (hA : HandAt h px pc) (epr : h pr = some (.lst ((rowsOf (lets q) m).map rowD))) (npr : pr ≠ px) (q1 : 1 ≤ q) (q3 : q ≤ 3) (m1 : 1 ≤ m) (m4 : m ≤ 4)
    (hF : ∀ o, 1 ≤ o → o ≤ 3 → ∃ ls dst mx bo, FarLaw q m o ls dst mx bo) (hq : ∀ h', E.rt (.bl true) h') : LSs X (stGetN (defBody s_law) 20) [none, some (.ref px), some (.int (q : Nat)), some (.int (m : Nat)), none, none, some (.ref pr), none, none, none, none, none, none, none, none, none, none, none, none, none, none, none] h E := by
  refine lss_cons (ls_set c 15 rfl rfl (le_addE lx_int (le_draw (n := 3) G c (by decide) (by decide +kernel) (lx_name c 1 rfl rfl rfl) lx_int hA (by decide) (by decide) fun o0 oo ho hoo => ⟨_, rfl, ?_⟩)))
  have epr1 : updD h px oo pr = some (.lst ((rowsOf (lets q) m).map rowD)) := by rw [updD_ne npr]; exact epr
  generalize updD h px oo = hB at epr1
  obtain ⟨o, hod⟩ : ∃ o : Nat, o = 1 + o0 := ⟨_, rfl⟩
  rw [show (1 : Int) + (o0 : Nat) = (o : Nat) by omega]
  obtain ⟨ls, dst, mx, bo, F⟩ := hF o (by omega) (by omega)
  refine lss_wk (ρ' := [none, none, some (.int (q : Nat)), some (.int (m : Nat)), none, none, some (.ref pr), none, none, none, none, none, none, none, none, some (.int (o : Nat)), none, none, none, none, none, none]) (by walk_at "fy wk") ?_
  refine lss_cons (ls_set c 16 rfl rfl (lx_non _ ?_))
  refine lss_cons (ls_for c (li_list (lx_name c 6 rfl rfl rfl) epr1 ⟨fun i ρ h' => ρ = [none, none, some (.int (q : Nat)), some (.int (m : Nat)), none, none, some (.ref pr), none, none, none, none, none, none, none, none, some (.int (o : Nat)), some (farD (((rowsOf (lets q) m).take i).foldl (fun b r => (rowsOf (ls r) o).foldl (dueSt (dst r) r) b) none)), none, none, none, none, none] ∧ Sub hB h', ⟨rfl, Sub.refl _⟩, fun i ρ h' hP => hP.2 _ _ epr1, ?_, ?_⟩))
  · rintro i d ρ1 h1 hd ⟨rfl, sb⟩
    obtain ⟨r, hr, rfl⟩ := map_get hd
    have hrm := List.mem_of_getElem? hr
    have FA := F.far r hrm
    have hstp := F.stp r hrm
    have hsucc : ((rowsOf (lets q) m).take (i + 1)).foldl (fun b r => (rowsOf (ls r) o).foldl (dueSt (dst r) r) b) none = (rowsOf (ls r) o).foldl (dueSt (dst r) r) (((rowsOf (lets q) m).take i).foldl (fun b r => (rowsOf (ls r) o).foldl (dueSt (dst r) r) b) none) := by
      rw [take_snoc hr, List.foldl_append]
      rfl
    generalize ((rowsOf (lets q) m).take i).foldl (fun b r => (rowsOf (ls r) o).foldl (dueSt (dst r) r) b) none = b0 at hsucc
    have hrl := (rowsOf_row _ _ _ hrm).1
    generalize hls : ls r = L at hsucc FA hstp
    have hpow : ∀ i, i + 1 ≤ o → L.length ^ i * L.length ≤ 4096 := fun i hi => by
      rw [← Nat.pow_succ]
      exact Nat.le_trans (Nat.pow_le_pow_right FA.l1 hi) FA.pw
    have l64 := FA.l64
    refine ⟨_, lg_name c 9 rfl rfl ?_⟩
    refine lss_cons (ls_set c 17 rfl rfl ((ll_disp (la_cons (lx_tup la_nil) la_nil)) _ fun pe hpe => ?_))
    have hb0 : hB pe = none := sub_none sb hpe
    refine lss_cut (fun ρ' h' => ∃ pe, ρ' = [none, none, some (.int (q : Nat)), some (.int (m : Nat)), none, none, some (.ref pr), none, none, some (rowD r), none, none, none, none, none, some (.int (o : Nat)), some (farD b0), some (.ref pe), none, none, none, none] ∧ Sub hB h' ∧ hB pe = none ∧ h' pe = some (.lst ((rowsOf L o).map rowD))) ?_ ?_
    · refine ls_for c (li_range1 c (lx_name c 15 rfl rfl rfl) (by decide +kernel) G.b_range ⟨by omega, by omega⟩ ⟨fun j ρ h' => j ≤ o ∧ ∃ pe, ρ = [none, none, some (.int (q : Nat)), some (.int (m : Nat)), none, none, some (.ref pr), none, none, some (rowD r), none, none, none, none, none, some (.int (o : Nat)), some (farD b0), some (.ref pe), none, none, none, none] ∧ Sub hB h' ∧ hB pe = none ∧ h' pe = some (.lst ((rowsOf L j).map rowD)), ⟨Nat.zero_le _, pe, rfl, sb.trans (Sub.new hpe), hb0, updD_same⟩, fun _ _ _ _ => trivial, ?_, ?_⟩)
      · rintro j d ρ1 h2 hd2 ⟨_, pe, rfl, sb2, hpb, epe⟩
        have hj : j < o := by
          have := (List.getElem?_eq_some_iff.mp hd2).1
          rw [rngD_len] at this
          omega
        refine ⟨_, lg_name c 7 rfl rfl ?_⟩
        refine lss_cons (ls_set c 8 rfl rfl ((ll_disp la_nil) _ fun p2 hp2 => ?_))
        have hne : pe ≠ p2 := neN epe hp2
        have hp2b : hB p2 = none := sub_none sb2 hp2
        refine lss_cons (ls_for c (li_list (lx_name c 17 rfl rfl rfl) (ds := (rowsOf L j).map rowD) (by rw [updD_ne hne]; exact epe) ⟨fun t ρ h' => t ≤ (rowsOf L j).length ∧ ρ = [none, none, some (.int (q : Nat)), some (.int (m : Nat)), none, none, some (.ref pr), some d, some (.ref p2), some (rowD r), none, none, none, none, none, some (.int (o : Nat)), some (farD b0), some (.ref pe), none, none, none, none] ∧ Sub hB h' ∧ h' pe = some (.lst ((rowsOf L j).map rowD)) ∧ h' p2 = some (.lst ((growTo L (rowsOf L j) t).map rowD)), ⟨Nat.zero_le _, rfl, sb2.trans (Sub.new hp2), by rw [updD_ne hne]; exact epe, by rw [updD_same]; simp [growTo]⟩, fun t ρ h' hP => hP.2.2.2.1, ?_, ?_⟩))
        · rintro t d2 ρ2 h3 hd3 ⟨ht, rfl, sb3, epe3, ep2⟩
          obtain ⟨out, hout, rfl⟩ := map_get hd3
          have ht' : t < (rowsOf L j).length := (List.getElem?_eq_some_iff.mp hout).1
          have hlen : out.length = j := (rowsOf_row _ _ _ (List.mem_of_getElem? hout)).1
          refine ⟨_, lg_name c 18 rfl rfl ?_⟩
          refine lss_one (ls_extend (res := (L.map fun l => out ++ [l]).map rowD) (lx_name c 8 rfl rfl rfl) ep2 (ll_comp c (own := [("_law_letter", 20)]) (ds := L.map .int) (by decide +kernel) (is := [20]) (by simp) (fun d3 => [none, none, some (.int (q : Nat)), some (.int (m : Nat)), none, none, some (.ref pr), some d, some (.ref p2), some (rowD r), none, none, none, none, none, some (.int (o : Nat)), some (farD b0), some (.ref pe), some (rowD out), none, some d3, none]) (fun R kk => li_ll (ll_sset (ns := r) (res := L.map .int) c (ll_callTy c cbl_listT (la_cons (lx_name c 9 rfl rfl rfl) la_nil) (by decide +kernel) G.b_list (by decide +kernel)) FA.l63 (fun ns' hp hm => by rw [sorted_uniq hp FA.asc fun k => (hm k).trans (FA.mem k).symm]) (by decide +kernel) G.b_set (by decide +kernel) G.b_sorted) fun p4 hp4 => kk _ _ (Sub.new hp4) fun p' acc hp' => by rw [updD_ne (neN updD_same hp')]; exact updD_same) (by rw [List.length_map, List.length_map, List.length_map]) (by rw [List.length_map]; omega) (fun i d hd X' b => lg_name (blk_ctx c b rfl rfl) 20 rfl rfl rfl) fun i2 d3 rr hh hd hr2 sb X' b => ?_) ?_ ?_)
          · obtain ⟨l, hl, rfl⟩ := map_get hd
            rw [List.getElem?_map, List.getElem?_map, hl] at hr2
            cases hr2
            refine lx_eq (lx_bin (lx_name (blk_ctx c b rfl rfl) 18 rfl rfl rfl) (lx_tup (la_cons (lx_name (blk_ctx c b rfl rfl) 20 rfl rfl rfl) la_nil)) (f2_cat ?_)) ?_
            · rw [List.length_map]
              show out.length + 1 ≤ 100000
              omega
            · show D.tup _ = D.tup _
              rw [List.map_append]
              rfl
          · have g1 := growTo_len L (rowsOf L j) t
            rw [rowsOf_len] at g1
            have g2 := hpow j (by omega)
            rw [List.length_map, List.length_map, List.length_map]
            omega
          · rw [← List.map_append, ← growTo_succ L (rowsOf L j) t hout]
            refine ⟨_, _, ?_, Sub.refl _, ht', rfl, sb3.put _ hp2b, by rw [updD_ne hne]; exact epe3, updD_same⟩
            walk_at "fy wk"
        · rintro ρ2 h3 ⟨ht, rfl, sb3, epe3, ep2⟩
          rw [List.length_map, growTo_all] at ep2
          refine lss_one (ls_set c 17 rfl rfl ((lx_name c 8 rfl rfl rfl) _ ?_))
          refine ⟨_, _, ?_, Sub.refl _, hj, p2, rfl, sb3, hp2b, ep2⟩
          walk_at "fy wk"
      · rintro ρ1 h2 ⟨_, pe, rfl, sb2, hpb, epe⟩
        rw [rngD_len, Int.toNat_natCast] at epe
        exact ⟨pe, rfl, sb2, hpb, epe⟩
    · rintro ρ' h2 ⟨pe, rfl, sb2, hpb, epe⟩
      refine lss_one (ls_for c (li_list (lx_name c 17 rfl rfl rfl) epe ⟨fun j ρ h' => ρ = [none, none, some (.int (q : Nat)), some (.int (m : Nat)), none, none, some (.ref pr), none, none, some (rowD r), none, none, none, none, none, some (.int (o : Nat)), some (farD (((rowsOf L o).take j).foldl (dueSt (dst r) r) b0)), some (.ref pe), none, none, none, none] ∧ h' = h2, ⟨rfl, rfl⟩, fun j ρ h' hP => by rw [hP.2]; exact epe, ?_, ?_⟩))
      · rintro j d ρ1 h3 hd3 ⟨rfl, rfl⟩
        obtain ⟨out, hout, rfl⟩ := map_get hd3
        have homem := List.mem_of_getElem? hout
        have hsucc2 : ((rowsOf L o).take (j + 1)).foldl (dueSt (dst r) r) b0 = dueSt (dst r) r (((rowsOf L o).take j).foldl (dueSt (dst r) r) b0) out := by
          rw [take_snoc hout, List.foldl_append]
          rfl
        generalize ((rowsOf L o).take j).foldl (dueSt (dst r) r) b0 = b1 at hsucc2
        have hor := rowsOf_row _ _ _ homem
        refine ⟨_, lg_name c 18 rfl rfl ?_⟩
        refine lss_cons (ls_set c 19 rfl rfl ((lx_call (z := .int (dst r out : Nat)) c (has_law_fewest G) (by decide) (by decide +kernel) (la_cons (lx_name c 9 rfl rfl rfl) (la_cons (lx_name c 18 rfl rfl rfl) la_nil)) fun Q q => ⟨r, out, dst r out, rfl, by omega, fun y hy => (FA.mem y).mp (hor.2 y hy), hstp out homem, q⟩) _ ?_))
        have done : ∀ b2, (if betF (dst r out) b1 = true then some (dst r out, r, out) else b1) = b2 → Again (fun ρ h' => ρ = [none, none, some (.int (q : Nat)), some (.int (m : Nat)), none, none, some (.ref pr), none, none, some (rowD r), none, none, none, none, none, some (.int (o : Nat)), some (farD (((rowsOf L o).take (j + 1)).foldl (dueSt (dst r) r) b0)), some (.ref pe), none, none, none, none] ∧ h' = h3) [none, none, some (.int (q : Nat)), some (.int (m : Nat)), none, none, some (.ref pr), none, none, some (rowD r), none, none, none, none, none, some (.int (o : Nat)), some (farD b2), some (.ref pe), some (rowD out), some (.int (dst r out : Nat)), none, none] h3 := fun b2 hb2 => by
          rw [show (if betF (dst r out) b1 = true then some (dst r out, r, out) else b1) = dueSt (dst r) r b1 out from rfl, ← hsucc2] at hb2
          refine ⟨_, _, ?_, Sub.refl _, rfl, rfl⟩
          rw [hb2]
          walk_at "fy wk"
        refine lss_one (ls_ifB (bb := betF (dst r out) b1) ?_ (fun hb => ?_) (fun hb => lss_nil (done b1 (by rw [hb, if_neg Bool.false_ne_true]))))
        · cases b1 with
          | none => exact lb_w (lw_or (b2 := false) (b1 := true) (lb_cmp (lx_name c 16 rfl rfl rfl) lx_non f2_isN) (fun z => nomatch z) (fun _ => rfl))
          | some p => exact lb_eq (lb_w (lw_or (b1 := false) (lb_cmp (lx_name c 16 rfl rfl rfl) lx_non f2_isN) (fun _ => lw_or1 (lb_cmp (lx_name c 19 rfl rfl rfl) (lx_ix (lx_name c 16 rfl rfl rfl) lx_int (ix2_T (z := .int (p.1 : Nat)) rfl)) f2_gt)) (fun _ => rfl))) (show decide (((p.1 : Nat) : Int) < (dst r out : Nat)) = decide (p.1 < dst r out) from decide_eq_decide.mpr (by omega))
        · refine lss_one (ls_set c 16 rfl rfl ((lx_tup (la_cons (lx_name c 19 rfl rfl rfl) (la_cons (lx_name c 9 rfl rfl rfl) (la_cons (lx_name c 18 rfl rfl rfl) la_nil)))) _ ?_))
          exact done (some (dst r out, r, out)) (by rw [hb, if_pos rfl])
      · rintro ρ1 h3 ⟨rfl, rfl⟩
        rw [List.length_map, List.take_length, ← hsucc]
        refine ⟨_, _, ?_, Sub.refl _, rfl, sb2⟩
        walk_at "fy wk"
  · rintro ρ1 h1 ⟨rfl, sb⟩
    rw [List.length_map, List.take_length, show (rowsOf (lets q) m).foldl (fun b r => (rowsOf (ls r) o).foldl (dueSt (dst r) r) b) none = farR mx bo (rowsOf (lets q) m) from F.due]
    refine lss_one (ls_ret ((lx_eq (lx_cmp (lx_call (z := farD (farR mx bo (rowsOf (lets q) m))) c (has_farthest G) (by decide) (by decide +kernel) (la_cons (lx_name c 2 rfl rfl rfl) (la_cons (lx_name c 3 rfl rfl rfl) (la_cons (lx_name c 15 rfl rfl rfl) la_nil))) fun Q qq => ⟨q, m, o, mx, bo, rfl, q1, by omega, m1, by omega, by omega, by omega, ?_, fun r hr => ⟨ls r, dst r, F.far r hr⟩, qq⟩) (lx_name c 16 rfl rfl rfl) (f2_eqD c (far_ok _) (far_ok _))) (congrArg D.bl (eqb_ok (far_ok _)))) _ (hq _)))
    have h1 : q ^ (max m o) ≤ 3 ^ (max m o) := Nat.pow_le_pow_left q3 _
    have h2 : 3 ^ (max m o) ≤ 3 ^ 4 := Nat.pow_le_pow_right (by decide) (by omega)
    omega
end Fy
end
section
set_option linter.all false
namespace Fy
/-! ### exchanges as roads -/
def Ex {α : Type} (n : Nat) (r t : List α) : Prop := ∃ a b c, a < b ∧ b < c ∧ c ≤ n ∧ t = exch r a b c
def Pth {α : Type} (n : Nat) : Nat → List α → List α → Prop
  | 0, s, t => s = t
  | k + 1, s, t => ∃ u, Pth n k s u ∧ Ex n u t
theorem exch_parts {α : Type} (A B C D : List α) : exch (A ++ B ++ C ++ D) A.length (A.length + B.length) (A.length + B.length + C.length) = A ++ C ++ B ++ D := by
  unfold exch
  have e1 : (A ++ B ++ C ++ D).take A.length = A := by rw [List.append_assoc, List.append_assoc, List.take_left]
  have e2 : (A ++ B ++ C ++ D).drop (A.length + B.length) = C ++ D := by
    rw [List.append_assoc (A ++ B), ← List.length_append, List.drop_left]
  have e3 : (A ++ B ++ C ++ D).drop A.length = B ++ (C ++ D) := by
    rw [List.append_assoc, List.append_assoc, List.drop_left]
  have e4 : (A ++ B ++ C ++ D).drop (A.length + B.length + C.length) = D := by
    rw [← List.length_append, ← List.length_append, List.drop_left]
  rw [e1, e2, e3, e4, Nat.add_sub_cancel_left, Nat.add_sub_cancel_left, List.take_left, List.take_left]
theorem exch_cut {α : Type} {r : List α} {a b c : Nat} (h1 : a < b) (h2 : b < c) (h3 : c ≤ r.length) : ∃ A B C D, r = A ++ B ++ C ++ D ∧ A.length = a ∧ A.length + B.length = b ∧ A.length + B.length + C.length = c := by
  refine ⟨r.take a, (r.drop a).take (b - a), (r.drop b).take (c - b), r.drop c, ?_, ?_, ?_, ?_⟩
  · have e1 : (r.drop b).take (c - b) ++ r.drop c = r.drop b := by
      have := List.take_append_drop (c - b) (r.drop b)
      rw [List.drop_drop, show b + (c - b) = c by omega] at this
      exact this
    have e2 : (r.drop a).take (b - a) ++ r.drop b = r.drop a := by
      have := List.take_append_drop (b - a) (r.drop a)
      rw [List.drop_drop, show a + (b - a) = b by omega] at this
      exact this
    rw [List.append_assoc, e1, List.append_assoc, e2, List.take_append_drop]
  · rw [List.length_take]; omega
  · simp only [List.length_take, List.length_drop]; omega
  · simp only [List.length_take, List.length_drop]; omega
theorem Ex.parts {α : Type} {n : Nat} {A B C D : List α} (hB : B ≠ []) (hC : C ≠ []) (hn : (A ++ B ++ C ++ D).length ≤ n) : Ex n (A ++ B ++ C ++ D) (A ++ C ++ B ++ D) := by
  have hb := List.length_pos_iff.mpr hB
  have hc := List.length_pos_iff.mpr hC
  refine ⟨A.length, A.length + B.length, A.length + B.length + C.length, by omega, by omega, ?_, (exch_parts A B C D).symm⟩
  simp only [List.length_append] at hn ⊢
  omega
theorem Ex.inv {α : Type} {n : Nat} {r t : List α} (h : Ex n r t) (hr : r.length = n) : ∃ A B C D, r = A ++ B ++ C ++ D ∧ t = A ++ C ++ B ++ D ∧ B ≠ [] ∧ C ≠ [] := by
  obtain ⟨a, b, c, h1, h2, h3, rfl⟩ := h
  obtain ⟨A, B, C, D, rfl, e1, e2, e3⟩ := exch_cut h1 h2 (by rw [hr]; exact h3)
  refine ⟨A, B, C, D, rfl, ?_, List.length_pos_iff.mp (by omega), List.length_pos_iff.mp (by omega)⟩
  rw [← e3, ← e2, ← e1, exch_parts]
theorem Ex.len {α : Type} {n : Nat} {r t : List α} (h : Ex n r t) (hr : r.length = n) : t.length = n := by
  obtain ⟨A, B, C, D, rfl, rfl, _, _⟩ := h.inv hr
  simp only [List.length_append] at hr ⊢
  omega
theorem Ex.symm {α : Type} {n : Nat} {r t : List α} (h : Ex n r t) (hr : r.length = n) : Ex n t r := by
  obtain ⟨A, B, C, D, rfl, rfl, hB, hC⟩ := h.inv hr
  refine Ex.parts hC hB ?_
  simp only [List.length_append] at hr ⊢
  omega
theorem Ex.mem {α : Type} {n : Nat} {r t : List α} (h : Ex n r t) {x : α} (hx : x ∈ t) : x ∈ r := by
  obtain ⟨a, b, c, _, _, _, rfl⟩ := h
  exact exch_mem hx
theorem Ex.map {α β : Type} (g : α → β) {n : Nat} {r t : List α} (h : Ex n r t) : Ex n (r.map g) (t.map g) := by
  obtain ⟨a, b, c, h1, h2, h3, rfl⟩ := h
  exact ⟨a, b, c, h1, h2, h3, exch_map g r a b c⟩
theorem Ex.cons {α : Type} (x : α) {n : Nat} {r t : List α} (h : Ex n r t) : Ex (n + 1) (x :: r) (x :: t) := by
  obtain ⟨a, b, c, h1, h2, h3, rfl⟩ := h
  refine ⟨a + 1, b + 1, c + 1, by omega, by omega, by omega, ?_⟩
  unfold exch
  simp only [List.take_succ_cons, List.drop_succ_cons, List.cons_append, Nat.add_sub_add_right]
theorem Ex.exs {n : Nat} {r t : List Int} (h : Ex n r t) : ∃ e ∈ exs n, t = exch r e.1 e.2.1 e.2.2 := by
  obtain ⟨a, b, c, h1, h2, h3, rfl⟩ := h
  exact ⟨(a, b, c), exs_mem h1 h2 h3, rfl⟩
theorem Ex.of_exs {n : Nat} {r : List Int} {e : Nat × Nat × Nat} (h : e ∈ Fy.exs n) : Ex n r (exch r e.1 e.2.1 e.2.2) := by
  obtain ⟨a, b, c⟩ := e
  obtain ⟨h1, h2, h3⟩ := exs_ok h
  exact ⟨a, b, c, h1, h2, h3, rfl⟩
theorem Pth.len {α : Type} {n : Nat} : ∀ {k : Nat} {s t : List α}, Pth n k s t → s.length = n → t.length = n
  | 0, _, _, rfl, h => h
  | k + 1, _, _, ⟨u, h1, h2⟩, h => h2.len (h1.len h)
theorem Pth.mem {α : Type} {n : Nat} : ∀ {k : Nat} {s t : List α}, Pth n k s t → ∀ {x : α}, x ∈ t → x ∈ s
  | 0, _, _, rfl, _, h => h
  | k + 1, _, _, ⟨u, h1, h2⟩, _, h => h1.mem (h2.mem h)
theorem Pth.trans {α : Type} {n : Nat} {j : Nat} {s t : List α} (p : Pth n j s t) : ∀ {k : Nat} {u : List α}, Pth n k t u → Pth n (j + k) s u
  | 0, _, rfl => p
  | k + 1, _, ⟨v, h1, h2⟩ => ⟨v, p.trans h1, h2⟩
theorem Pth.symm {α : Type} {n : Nat} : ∀ {k : Nat} {s t : List α}, Pth n k s t → s.length = n → Pth n k t s
  | 0, _, _, rfl, _ => rfl
  | k + 1, s, t, ⟨u, h1, h2⟩, h => by
    have h3 : Pth n 1 t u := ⟨t, rfl, h2.symm (h1.len h)⟩
    have := h3.trans (h1.symm h)
    rw [Nat.add_comm] at this
    exact this
theorem Pth.map {α β : Type} (g : α → β) {n : Nat} : ∀ {k : Nat} {s t : List α}, Pth n k s t → Pth n k (s.map g) (t.map g)
  | 0, _, _, rfl => rfl
  | k + 1, _, _, ⟨u, h1, h2⟩ => ⟨_, h1.map g, h2.map g⟩
theorem Pth.cons {α : Type} (x : α) {n : Nat} : ∀ {k : Nat} {s t : List α}, Pth n k s t → Pth (n + 1) k (x :: s) (x :: t)
  | 0, _, _, rfl => rfl
  | k + 1, _, _, ⟨u, h1, h2⟩ => ⟨_, h1.cons x, h2.cons x⟩
/-! ### what going through has found -/
theorem bAdd_has (d : Nat) (W : BW) (t : List Int) : t ∈ (bAdd d W t).map (·.1) := by
  unfold bAdd
  split
  · assumption
  · rw [List.map_append]; exact List.mem_append_right _ (by simp)
theorem bTurn_all2 {P : List Int × Nat → Prop} {es : List (Nat × Nat × Nat)} {W : BW} {r : List Int} {d : Nat} (h : ∀ p ∈ W, P p) (he : ∀ e ∈ es, P (exch r e.1 e.2.1 e.2.2, d + 1)) : ∀ p ∈ bTurn es W r d, P p := by
  unfold bTurn
  induction es generalizing W with
  | nil => exact h
  | cons e es ih =>
    refine ih (fun p hp => ?_) fun e' he' => he e' (List.mem_cons_of_mem _ he')
    dsimp only at hp
    unfold bAdd at hp
    split at hp
    · exact h p hp
    · rcases List.mem_append.mp hp with z | z
      · exact h p z
      · rw [List.mem_singleton.mp z]
        exact he e List.mem_cons_self
theorem bTurn_has {es : List (Nat × Nat × Nat)} {W : BW} {r : List Int} {d : Nat} {e : Nat × Nat × Nat} (he : e ∈ es) : exch r e.1 e.2.1 e.2.2 ∈ (bTurn es W r d).map (·.1) := by
  induction es generalizing W with
  | nil => cases he
  | cons e' es ih =>
    have hs : bTurn (e' :: es) W r d = bTurn es (bAdd d W (exch r e'.1 e'.2.1 e'.2.2)) r d := rfl
    rw [hs]
    rcases List.mem_cons.mp he with rfl | h
    · obtain ⟨V, hV⟩ := bTurn_app es (bAdd d W (exch r e.1 e.2.1 e.2.2)) r d
      rw [hV, List.map_append]
      exact List.mem_append_left _ (bAdd_has _ _ _)
    · exact ih h
theorem bTurn_new (es : List (Nat × Nat × Nat)) (W : BW) (r : List Int) (d : Nat) : ∃ V, bTurn es W r d = W ++ V ∧ ∀ p ∈ V, p.2 = d + 1 := by
  unfold bTurn
  induction es generalizing W with
  | nil => exact ⟨[], (List.append_nil _).symm, fun p hp => by cases hp⟩
  | cons e es ih =>
    have h1 : ∃ V1, bAdd d W (exch r e.1 e.2.1 e.2.2) = W ++ V1 ∧ ∀ p ∈ V1, p.2 = d + 1 := by
      unfold bAdd
      split
      · exact ⟨[], (List.append_nil _).symm, fun p hp => by cases hp⟩
      · exact ⟨_, rfl, fun p hp => by rw [List.mem_singleton.mp hp]⟩
    obtain ⟨V1, h1, g1⟩ := h1
    obtain ⟨V2, h2, g2⟩ := ih (bAdd d W (exch r e.1 e.2.1 e.2.2))
    exact ⟨V1 ++ V2, by rw [List.foldl_cons, h2, h1, List.append_assoc], fun p hp => (List.mem_append.mp hp).elim (g1 p) (g2 p)⟩
/-- what stands after k turns, from some starts of depth 0 -/
structure BI (n : Nat) (W0 : BW) (k : Nat) (W : BW) : Prop where
  mono : ∀ (i j : Nat) (p q : List Int × Nat), i ≤ j → W[i]? = some p → W[j]? = some q → p.2 ≤ q.2
  top : ∀ p : List Int × Nat, W[k]? = some p → ∀ q ∈ W, q.2 ≤ p.2 + 1
  done : ∀ (i : Nat) (p : List Int × Nat), i < k → W[i]? = some p → ∀ t, Ex n p.1 t → ∃ d, (t, d) ∈ W ∧ d ≤ p.2 + 1
  path : ∀ p ∈ W, ∃ s ∈ W0, Pth n p.2 s.1 p.1
  sub : ∀ p ∈ W0, p ∈ W
theorem bi_ok {n : Nat} {W0 : BW} (h0 : ∀ p ∈ W0, p.2 = 0) : ∀ k, BI n W0 k (bfs (exs n) W0 k)
  | 0 => {
    mono := fun i j p q _ hp hq => by rw [h0 p (List.mem_of_getElem? hp)]; exact Nat.zero_le _
    top := fun p hp q hq => by rw [h0 q hq]; exact Nat.zero_le _
    done := fun i p hi => absurd hi (Nat.not_lt_zero _)
    path := fun p hp => ⟨p, hp, by rw [h0 p hp]; rfl⟩
    sub := fun p hp => hp }
  | k + 1 => by
    have I := bi_ok (n := n) h0 k
    rw [bfs]
    split
    · rename_i p hp
      generalize bfs (exs n) W0 k = W at I hp ⊢
      have hc : ∀ e ∈ exs n, exch p.1 e.1 e.2.1 e.2.2 ∈ (bTurn (exs n) W p.1 p.2).map (·.1) := fun e he => bTurn_has he
      have hpath : ∀ q ∈ bTurn (exs n) W p.1 p.2, ∃ s ∈ W0, Pth n q.2 s.1 q.1 := by
        refine bTurn_all2 (P := fun q => ∃ s ∈ W0, Pth n q.2 s.1 q.1) I.path fun e he => ?_
        obtain ⟨s, hs, h1⟩ := I.path p (List.mem_of_getElem? hp)
        exact ⟨s, hs, p.1, h1, Ex.of_exs he⟩
      obtain ⟨V, hV, gV⟩ := bTurn_new (exs n) W p.1 p.2
      rw [hV] at hc hpath ⊢
      have hall : ∀ q ∈ W ++ V, q.2 ≤ p.2 + 1 := fun q hq => (List.mem_append.mp hq).elim (I.top p hp q) fun z => Nat.le_of_eq (gV q z)
      have hk : k < W.length := (List.getElem?_eq_some_iff.mp hp).1
      have hmono : ∀ (i j : Nat) (q q' : List Int × Nat), i ≤ j → (W ++ V)[i]? = some q → (W ++ V)[j]? = some q' → q.2 ≤ q'.2 := by
        intro i j q q' hij hq hq'
        by_cases hj : j < W.length
        · rw [List.getElem?_append_left hj] at hq'
          rw [List.getElem?_append_left (by omega)] at hq
          exact I.mono i j q q' hij hq hq'
        · rw [List.getElem?_append_right (by omega)] at hq'
          rw [gV q' (List.mem_of_getElem? hq')]
          exact hall q (List.mem_of_getElem? hq)
      refine ⟨hmono, fun q hq q' hq' => ?_, fun i q hi hq t ht => ?_, hpath, fun q hq => List.mem_append_left _ (I.sub q hq)⟩
      · have h1 := hmono k (k + 1) p q (by omega) (by rw [List.getElem?_append_left hk]; exact hp) hq
        have h2 := hall q' hq'
        omega
      · by_cases hik : i < k
        · rw [List.getElem?_append_left (by omega)] at hq
          obtain ⟨d, h1, h2⟩ := I.done i q hik hq t ht
          exact ⟨d, List.mem_append_left _ h1, h2⟩
        · have hie : i = k := by omega
          subst hie
          rw [List.getElem?_append_left hk, hp] at hq
          cases hq
          obtain ⟨e, he, rfl⟩ := ht.exs
          obtain ⟨q, hq, e1⟩ := List.mem_map.mp (hc e he)
          exact ⟨q.2, by rw [← e1]; exact hq, hall q hq⟩
    · rename_i hn
      generalize bfs (exs n) W0 k = W at I hn ⊢
      rw [List.getElem?_eq_none_iff] at hn
      refine ⟨I.mono, fun q hq => ?_, fun i q hi hq t ht => ?_, I.path, I.sub⟩
      · have := (List.getElem?_eq_some_iff.mp hq).1
        omega
      · have := (List.getElem?_eq_some_iff.mp hq).1
        exact I.done i q (by omega) hq t ht
theorem BI.find {n : Nat} {W0 : BW} {k : Nat} {W : BW} (I : BI n W0 k W) (h0 : ∀ p ∈ W0, p.2 = 0) : ∀ (L : Nat) (s : List Int) (z : Nat) (t : List Int), (s, z) ∈ W0 → Pth n L s t → (∃ d, (t, d) ∈ W ∧ d ≤ L) ∨ ∃ i p, k ≤ i ∧ W[i]? = some p ∧ p.2 < L
  | 0, s, z, t, hs, e => by
    cases e
    have hz := h0 _ hs
    dsimp only at hz
    exact Or.inl ⟨z, I.sub _ hs, by omega⟩
  | L + 1, s, z, t, hs, ⟨u, h1, h2⟩ => by
    rcases I.find h0 L s z u hs h1 with ⟨d, g1, g2⟩ | ⟨i, p, g1, g2, g3⟩
    · obtain ⟨i, hi⟩ := List.mem_iff_getElem?.mp g1
      by_cases hik : i < k
      · obtain ⟨d', g3, g4⟩ := I.done i _ hik hi t h2
        dsimp only at g4
        exact Or.inl ⟨d', g3, by omega⟩
      · exact Or.inr ⟨i, _, by omega, hi, by dsimp only; omega⟩
    · exact Or.inr ⟨i, p, g1, g2, by omega⟩
/-- all that lies within a closed set is not more -/
theorem nodup_sub_len {α : Type} [DecidableEq α] : ∀ {l m : List α}, l.Nodup → (∀ x ∈ l, x ∈ m) → l.length ≤ m.length
  | [], m, _, _ => Nat.zero_le _
  | x :: l, m, h, hs => by
    rw [List.nodup_cons] at h
    have h1 := hs x List.mem_cons_self
    have h2 : l.length ≤ (m.erase x).length := nodup_sub_len h.2 fun y hy => by
      rw [List.mem_erase_of_ne (show y ≠ x from fun z => h.1 (by rw [← z]; exact hy))]
      exact hs y (List.mem_cons_of_mem _ hy)
    rw [List.length_erase_of_mem h1] at h2
    have := List.length_pos_of_mem h1
    rw [List.length_cons]
    omega
theorem mem_rowsOf {ls : List Int} : ∀ {n : Nat} {r : List Int}, r.length = n → (∀ x ∈ r, x ∈ ls) → r ∈ rowsOf ls n
  | 0, r, h, _ => by rw [List.length_eq_zero_iff.mp h]; exact List.mem_singleton.mpr rfl
  | n + 1, r, h, hx => by
    have hne : r ≠ [] := List.length_pos_iff.mp (by omega)
    rw [← List.dropLast_concat_getLast hne, rowsOf, List.mem_flatMap]
    exact ⟨_, mem_rowsOf (by rw [List.length_dropLast]; omega) fun x h' => hx x (List.dropLast_subset _ h'), List.mem_map.mpr ⟨_, hx _ (List.getLast_mem hne), rfl⟩⟩
theorem bfs_in {ls : List Int} {n : Nat} {W0 : BW} (h : ∀ p ∈ W0, p.1 ∈ rowsOf ls n) (k : Nat) : ∀ p ∈ bfs (exs n) W0 k, p.1 ∈ rowsOf ls n := by
  induction k with
  | zero => exact h
  | succ k ih =>
    rw [bfs]
    split
    · rename_i p hp
      refine bTurn_all (P := fun r => r ∈ rowsOf ls n) ih fun e he => ?_
      obtain ⟨h1, h2⟩ := rowsOf_row _ _ _ (ih p (List.mem_of_getElem? hp))
      have hx : Ex n p.1 _ := Ex.of_exs he
      exact mem_rowsOf (hx.len h1) fun x hx' => h2 x (hx.mem hx')
    · exact ih
theorem bfs_fits {ls : List Int} {n : Nat} {W0 : BW} (h : ∀ p ∈ W0, p.1 ∈ rowsOf ls n) (nd : (W0.map (·.1)).Nodup) (k : Nat) : (bfs (exs n) W0 k).length ≤ ls.length ^ n := by
  rw [← rowsOf_len]
  have := nodup_sub_len (m := rowsOf ls n) (bfs_nodup (es := exs n) nd k) fun x hx => by
    obtain ⟨p, hp, rfl⟩ := List.mem_map.mp hx
    exact bfs_in h k p hp
  rw [List.length_map] at this
  exact this
theorem least {P : Nat → Prop} : ∀ {n : Nat}, P n → ∃ k, P k ∧ k ≤ n ∧ ∀ j, j < k → ¬P j := by
  intro n
  induction n using Nat.strongRecOn with
  | ind n ih =>
    intro h
    by_cases hx : ∃ j, j < n ∧ P j
    · obtain ⟨j, hj, hp⟩ := hx
      obtain ⟨k, h1, h2, h3⟩ := ih j hj hp
      exact ⟨k, h1, by omega, h3⟩
    · exact ⟨n, h, Nat.le_refl _, fun j hj hp => hx ⟨j, hj, hp⟩⟩
/-- going through to the end -/
theorem bfs_end {ls : List Int} {n : Nat} {W0 : BW} (h : ∀ p ∈ W0, p.1 ∈ rowsOf ls n) (nd : (W0.map (·.1)).Nodup) : ∃ K, (∀ j, j < K → j < (bfs (exs n) W0 j).length) ∧ (bfs (exs n) W0 K).length ≤ K := by
  obtain ⟨K, h1, _, h2⟩ := least (P := fun K => (bfs (exs n) W0 K).length ≤ K) (bfs_fits h nd (ls.length ^ n))
  exact ⟨K, fun j hj => Nat.lt_of_not_le (h2 j hj), h1⟩
/-- going through until one is met: the number is the least of all roads -/
theorem stop_ok {ls : List Int} {P : List Int → Bool} {s : List Int} (hs : ∀ x ∈ s, x ∈ ls) (h20 : s.length ≤ 20) (hp : ls.length ^ s.length ≤ 40000) {k : Nat} {t : List Int} (pt : Pth s.length k s t) (ht : P t = true) : ∃ d, StopAt P s d ∧ ∃ t, Pth s.length d s t ∧ P t = true := by
  have hin : ∀ p ∈ [(s, 0)], p.1 ∈ rowsOf ls s.length := fun p hp => by rw [List.mem_singleton.mp hp]; exact mem_rowsOf rfl hs
  have nd : ((([(s, 0)] : BW)).map (·.1)).Nodup := by simp
  have h0 : ∀ p ∈ ([(s, 0)] : BW), p.2 = 0 := fun p hp => by rw [List.mem_singleton.mp hp]
  obtain ⟨K, h1, h2⟩ := bfs_end hin nd
  have I := bi_ok (n := s.length) h0 K
  rcases I.find h0 k s 0 t (List.mem_singleton.mpr rfl) pt with ⟨d, g1, g2⟩ | ⟨i, p, g1, g2, g3⟩
  · obtain ⟨i, hi⟩ := List.mem_iff_getElem?.mp g1
    have hil := (List.getElem?_eq_some_iff.mp hi).1
    have hiK : i < K := by omega
    obtain ⟨J, ⟨q, hq, hPq⟩, _, hJ⟩ := least (P := fun J => ∃ q, (bfs (exs s.length) [(s, 0)] J)[J]? = some q ∧ P q.1 = true) (n := i) ⟨_, bfs_at' hi (by omega) (h1 i hiK), ht⟩
    obtain ⟨s', hs', hp'⟩ := (bi_ok (n := s.length) h0 J).path q (List.mem_of_getElem? hq)
    rw [List.mem_singleton.mp hs'] at hp'
    refine ⟨q.2, ⟨h20, J, q.1, fun j _ => Nat.le_trans (bfs_fits hin nd j) hp, hq, hPq, fun j hj => ?_⟩, q.1, hp', hPq⟩
    have hjK : j < K := by omega
    have hjl := h1 j hjK
    refine ⟨_, _, List.getElem?_eq_getElem hjl, ?_⟩
    have := hJ j hj
    cases hb : P ((bfs (exs s.length) [(s, 0)] j)[j]'hjl).1 with
    | false => rfl
    | true => exact absurd ⟨_, List.getElem?_eq_getElem hjl, hb⟩ this
  · have := (List.getElem?_eq_some_iff.mp g2).1
    omega
theorem stop_le {P : List Int → Bool} {s : List Int} {d : Nat} (h : StopAt P s d) {k : Nat} {t : List Int} (pt : Pth s.length k s t) (ht : P t = true) : d ≤ k := by
  obtain ⟨_, K, rr, _, h2, h3, h4⟩ := h
  have h0 : ∀ p ∈ ([(s, 0)] : BW), p.2 = 0 := fun p hp => by rw [List.mem_singleton.mp hp]
  have I := bi_ok (n := s.length) h0 K
  rcases I.find h0 k s 0 t (List.mem_singleton.mpr rfl) pt with ⟨d', g1, g2⟩ | ⟨i, p, g1, g2, g3⟩
  · obtain ⟨i, hi⟩ := List.mem_iff_getElem?.mp g1
    by_cases hik : i < K
    · obtain ⟨r', d2, e1, e2⟩ := h4 i hik
      rw [bfs_at e1 (by omega)] at hi
      cases hi
      rw [ht] at e2
      cases e2
    · have := I.mono K i _ _ (by omega) h2 hi
      dsimp only at this
      omega
  · have := I.mono K i _ _ g1 h2 g2
    dsimp only at this
    omega
theorem stop_pth {P : List Int → Bool} {s : List Int} {d : Nat} (h : StopAt P s d) : ∃ t, Pth s.length d s t ∧ P t = true := by
  obtain ⟨_, K, rr, _, h2, h3, h4⟩ := h
  have h0 : ∀ p ∈ ([(s, 0)] : BW), p.2 = 0 := fun p hp => by rw [List.mem_singleton.mp hp]
  obtain ⟨s', hs', hp'⟩ := (bi_ok (n := s.length) h0 K).path _ (List.mem_of_getElem? h2)
  rw [List.mem_singleton.mp hs'] at hp'
  exact ⟨rr, hp', h3⟩
end Fy
end
section
set_option linter.all false
namespace Fy
/-! ### to rows that do not fall -/
def ins (x : Int) : List Int → List Int
  | [] => [x]
  | y :: r => if y < x then y :: ins x r else x :: y :: r
theorem rises_cons {x : Int} {t : List Int} (h : rises t = true) (hx : ∀ y, t.head? = some y → x ≤ y) : rises (x :: t) = true := by
  cases t with
  | nil => rfl
  | cons y r =>
    show (decide (x ≤ y) && rises (y :: r)) = true
    rw [h, decide_eq_true (hx y rfl)]
    rfl
theorem rises_tail {x : Int} {t : List Int} (h : rises (x :: t) = true) : rises t = true := by
  cases t with
  | nil => rfl
  | cons y r =>
    have h : (decide (x ≤ y) && rises (y :: r)) = true := h
    rw [Bool.and_eq_true] at h
    exact h.2
theorem rises_head {x y : Int} {r : List Int} (h : rises (x :: y :: r) = true) : x ≤ y := by
  have h : (decide (x ≤ y) && rises (y :: r)) = true := h
  rw [Bool.and_eq_true, decide_eq_true_eq] at h
  exact h.1
theorem ins_head (x : Int) (t : List Int) : ∀ y, (ins x t).head? = some y → y = x ∨ t.head? = some y := by
  intro y h
  cases t with
  | nil => cases h; exact Or.inl rfl
  | cons z r =>
    unfold ins at h
    split at h
    · exact Or.inr h
    · cases h; exact Or.inl rfl
theorem rises_ins (x : Int) : ∀ t : List Int, rises t = true → rises (ins x t) = true
  | [], _ => rfl
  | y :: r, h => by
    unfold ins
    split
    · rename_i hyx
      refine rises_cons (rises_ins x r (rises_tail h)) fun z hz => ?_
      rcases ins_head x r z hz with rfl | hz
      · omega
      · cases r with
        | nil => cases hz
        | cons w r => cases hz; exact rises_head h
    · exact rises_cons h fun z hz => by cases hz; omega
theorem pth_ins (x : Int) : ∀ t : List Int, ∃ k, Pth (t.length + 1) k (x :: t) (ins x t)
  | [] => ⟨0, rfl⟩
  | y :: r => by
    unfold ins
    split
    · obtain ⟨k, hk⟩ := pth_ins x r
      have h1 : Pth (r.length + 1 + 1) 1 (x :: y :: r) (y :: x :: r) := ⟨_, rfl, 0, 1, 2, by omega, by omega, by omega, by simp [exch]⟩
      exact ⟨_, h1.trans (hk.cons y)⟩
    · exact ⟨0, rfl⟩
theorem pth_sort : ∀ t : List Int, ∃ k u, Pth t.length k t u ∧ rises u = true
  | [] => ⟨0, [], rfl, rfl⟩
  | x :: t => by
    obtain ⟨k, u, h1, h2⟩ := pth_sort t
    obtain ⟨j, h3⟩ := pth_ins x u
    rw [h1.len rfl] at h3
    exact ⟨k + j, _, (h1.cons x).trans h3, rises_ins x u h2⟩
theorem unk_stop {s : List Int} {d : Nat} : UnkAt s d ↔ StopAt rises s d := Iff.rfl
theorem unk_ok {ls s : List Int} (hs : ∀ x ∈ s, x ∈ ls) (h20 : s.length ≤ 20) (hp : ls.length ^ s.length ≤ 40000) : ∃ d, UnkAt s d := by
  obtain ⟨k, u, h1, h2⟩ := pth_sort s
  obtain ⟨d, h3, _⟩ := stop_ok (P := rises) hs h20 hp h1 h2
  exact ⟨d, h3⟩
/-! ### each letter again and again -/
inductive Rep {α : Type} : List α → List α → Prop
  | nil : Rep [] []
  | skip {x : α} {L M : List α} : Rep L M → Rep (x :: L) M
  | stay {x : α} {L M : List α} : Rep (x :: L) M → Rep (x :: L) (x :: M)
theorem Rep.empty {α : Type} : ∀ L : List α, Rep L []
  | [] => .nil
  | _ :: L => .skip (Rep.empty L)
theorem Rep.refl {α : Type} : ∀ L : List α, Rep L L
  | [] => .nil
  | _ :: L => .stay (.skip (Rep.refl L))
theorem Rep.app {α : Type} {L1 M1 L2 M2 : List α} (a : Rep L1 M1) (b : Rep L2 M2) : Rep (L1 ++ L2) (M1 ++ M2) := by
  induction a with
  | nil => exact b
  | skip _ ih => exact .skip ih
  | stay _ ih => exact .stay ih
theorem Rep.split {α : Type} {L1 L2 M : List α} (a : Rep (L1 ++ L2) M) : ∃ M1 M2, M = M1 ++ M2 ∧ Rep L1 M1 ∧ Rep L2 M2 := by
  generalize e : L1 ++ L2 = L at a
  induction a generalizing L1 with
  | nil =>
    obtain ⟨rfl, rfl⟩ := List.append_eq_nil_iff.mp e
    exact ⟨[], [], rfl, .nil, .nil⟩
  | @skip x L M h ih =>
    cases L1 with
    | nil => exact ⟨[], M, rfl, .nil, by rw [List.nil_append] at e; rw [e]; exact .skip h⟩
    | cons y L1 =>
      rw [List.cons_append] at e
      cases e
      obtain ⟨M1, M2, h1, h2, h3⟩ := ih rfl
      exact ⟨M1, M2, h1, .skip h2, h3⟩
  | @stay x L M h ih =>
    cases L1 with
    | nil => exact ⟨[], x :: M, rfl, .nil, by rw [List.nil_append] at e; rw [e]; exact .stay h⟩
    | cons y L1 =>
      obtain ⟨M1, M2, h1, h2, h3⟩ := ih e
      rw [List.cons_append] at e
      cases e
      exact ⟨x :: M1, M2, by rw [h1]; rfl, .stay h2, h3⟩
theorem Rep.trans {α : Type} {L M N : List α} (a : Rep L M) (b : Rep M N) : Rep L N := by
  induction a generalizing N with
  | nil => exact b
  | skip _ ih => exact .skip (ih b)
  | @stay x L M h ih =>
    generalize e : x :: M = K at b
    induction b with
    | nil => cases e
    | skip h' ih' => cases e; exact ih h'
    | stay h' ih' => cases e; exact .stay (ih' rfl)
theorem Rep.mem {α : Type} {L M : List α} (a : Rep L M) : ∀ x ∈ M, x ∈ L := by
  induction a with
  | nil => exact fun x h => h
  | skip _ ih => exact fun x h => List.mem_cons_of_mem _ (ih x h)
  | stay _ ih =>
    intro x h
    rcases List.mem_cons.mp h with rfl | h
    · exact List.mem_cons_self
    · exact ih x h
theorem Rep.sorted {L M : List Int} (a : Rep L M) (h : L.Pairwise (· ≤ ·)) : M.Pairwise (· ≤ ·) := by
  induction a with
  | nil => exact h
  | skip _ ih => exact ih (List.pairwise_cons.mp h).2
  | @stay x L M r ih =>
    refine List.pairwise_cons.mpr ⟨fun y hy => ?_, ih h⟩
    rcases List.mem_cons.mp (r.mem y hy) with rfl | hz
    · exact Int.le_refl _
    · exact (List.pairwise_cons.mp h).1 y hz
theorem rises_of {L : List Int} (h : L.Pairwise (· ≤ ·)) : rises L = true := by
  induction L with
  | nil => rfl
  | cons x L ih =>
    rw [List.pairwise_cons] at h
    exact rises_cons (ih h.2) fun y hy => h.1 y (List.mem_of_mem_head? hy)
/-- a step that does not fly only repeats and leaves out -/
theorem rep_step {α : Type} {f : α → Int} {q : Nat} {s : Stp} {L : List α} (h : s.ok q L.length = true) (hf : s.isFly = false) : Rep L (s.run f L) := by
  cases s with
  | fly a b c => cases hf
  | dbl k =>
    have hk : k < L.length := of_decide_eq_true h
    have e : L = L.take k ++ (L[k] :: L.drop (k + 1)) := by rw [List.getElem_cons_drop, List.take_append_drop]
    have e2 : (Stp.dbl k).run f L = L.take k ++ (L[k] :: L[k] :: L.drop (k + 1)) := by
      show L.take (k + 1) ++ L.drop k = _
      rw [List.getElem_cons_drop, List.take_add_one, List.append_assoc, List.getElem?_eq_getElem hk]
      rfl
    rw [e2]
    conv => lhs; rw [e]
    exact (Rep.refl _).app (.stay (.stay (.skip (Rep.refl _))))
  | strk k =>
    have hk : k < L.length := of_decide_eq_true h
    have e : L = L.take k ++ (L[k] :: L.drop (k + 1)) := by rw [List.getElem_cons_drop, List.take_append_drop]
    show Rep L (L.take k ++ L.drop (k + 1))
    conv => lhs; rw [e]
    exact (Rep.refl _).app (.skip (Rep.refl _))
  | cho k w p key o =>
    have h' := of_decide_eq_true h
    obtain ⟨h1, h2, h3, h4, h5, h6, h7, h8⟩ := h'
    show Rep L (L.take k ++ ((L.drop (k + (if ((L.drop k).take w).map f = key then o else p))).take 1) ++ L.drop (k + w))
    generalize hg : (if ((L.drop k).take w).map f = key then o else p) = g
    have hgw : g < w := by rw [← hg]; split <;> assumption
    have e : L = L.take k ++ ((L.drop k).take g ++ ([L[k + g]'(by omega)] ++ ((L.drop (k + g + 1)).take (w - g - 1) ++ L.drop (k + w)))) := by
      have e1 : (L.drop (k + g + 1)).take (w - g - 1) ++ L.drop (k + w) = L.drop (k + g + 1) := by
        have := List.take_append_drop (w - g - 1) (L.drop (k + g + 1))
        rw [List.drop_drop, show k + g + 1 + (w - g - 1) = k + w by omega] at this
        exact this
      have e2 : [L[k + g]'(by omega)] ++ L.drop (k + g + 1) = L.drop (k + g) := List.getElem_cons_drop ..
      have e3 : (L.drop k).take g ++ L.drop (k + g) = L.drop k := by
        have := List.take_append_drop g (L.drop k)
        rw [List.drop_drop] at this
        exact this
      rw [e1, e2, e3, List.take_append_drop]
    have e4 : (L.drop (k + g)).take 1 = [L[k + g]'(by omega)] := by
      have e2 : L.drop (k + g) = L[k + g]'(by omega) :: L.drop (k + g + 1) := (List.getElem_cons_drop ..).symm
      rw [e2]
      rfl
    rw [e4]
    conv => lhs; rw [e]
    rw [List.append_assoc]
    refine (Rep.refl _).app ?_
    have := (Rep.empty ((L.drop k).take g)).app ((Rep.refl [L[k + g]'(by omega)]).app ((Rep.empty ((L.drop (k + g + 1)).take (w - g - 1))).app (Rep.refl (L.drop (k + w)))))
    exact this
/-- as many exchanges as steps fly lead back -/
theorem pth_flies {α : Type} {f : α → Int} {q : Nat} : ∀ {ss : List Stp} {L : List α}, cans q L.length ss = true → ∃ k M, Pth (lanesB L.length ss) k (runs f ss L) M ∧ k ≤ flies ss ∧ Rep L M
  | [], L, _ => ⟨0, L, rfl, Nat.zero_le _, Rep.refl L⟩
  | s :: ss, L, h => by
    have h : (s.can q L.length && cans q (s.after L.length) ss) = true := h
    rw [Bool.and_eq_true] at h
    obtain ⟨h1, h2⟩ := h
    have hl : (s.run f L).length = s.after L.length := run_len (q := q) (can_ok h1).1
    obtain ⟨k, M, p, hk, r⟩ := pth_flies (f := f) (ss := ss) (L := s.run f L) (by rw [hl]; exact h2)
    have hlb : lanesB (s.run f L).length ss = lanesB L.length (s :: ss) := by rw [hl]; rfl
    have hlen : (runs f ss (s.run f L)).length = lanesB (s.run f L).length ss := runs_len (by rw [hl]; exact h2)
    have hM : M.length = lanesB (s.run f L).length ss := p.len hlen
    rw [hlb] at p hM
    cases hf : s.isFly with
    | false =>
      refine ⟨k, M, p, ?_, (rep_step (can_ok h1).1 hf).trans r⟩
      have : flies (s :: ss) = flies ss := by unfold flies; rw [List.filter_cons, hf]; rfl
      omega
    | true =>
      have hfl : flies (s :: ss) = flies ss + 1 := by unfold flies; rw [List.filter_cons, hf]; rfl
      cases s with
      | dbl k => cases hf
      | strk k => cases hf
      | cho k w p key o => cases hf
      | fly a b c =>
        have hok : a < b ∧ b < c ∧ c ≤ L.length := of_decide_eq_true (can_ok h1).1
        obtain ⟨A, B, C, D, e, g1, g2, g3⟩ := exch_cut hok.1 hok.2.1 hok.2.2
        have e2 : (Stp.fly a b c).run f L = A ++ C ++ B ++ D := by
          show exch L a b c = _
          rw [e, ← g3, ← g2, ← g1, exch_parts]
        rw [e2] at r
        obtain ⟨M3, M4, rfl, r3, rD⟩ := r.split
        obtain ⟨M5, M6, rfl, r5, rB⟩ := r3.split
        obtain ⟨M7, M8, rfl, rA, rC⟩ := r5.split
        have rr : Rep L (M7 ++ M6 ++ M8 ++ M4) := by rw [e]; exact ((rA.app rB).app rC).app rD
        by_cases h6 : M6 = []
        · subst h6
          exact ⟨k, _, p, by omega, by simpa using rr⟩
        · by_cases h8 : M8 = []
          · subst h8
            exact ⟨k, _, p, by omega, by simpa using rr⟩
          · refine ⟨k + 1, M7 ++ M6 ++ M8 ++ M4, ⟨_, p, Ex.parts h8 h6 (Nat.le_of_eq hM)⟩, by omega, rr⟩
theorem iN_range (m : Nat) : (iN (List.range m)).Pairwise (· ≤ ·) := by
  unfold iN
  rw [List.pairwise_map]
  exact List.pairwise_lt_range.imp fun h => by omega
theorem Rep.map {α β : Type} (g : α → β) {L M : List α} (a : Rep L M) : Rep (L.map g) (M.map g) := by
  induction a with
  | nil => exact .nil
  | skip _ ih => exact .skip ih
  | stay _ ih => exact .stay ih
theorem knot_flies {q : Nat} {row : List Int} {ss : List Stp} {d : Nat} (h : cans q row.length ss = true) (u : UnkAt (iN (srcs row ss)) d) : d ≤ flies ss := by
  have hc : cans q (List.range row.length).length ss = true := by rw [List.length_range]; exact h
  obtain ⟨k, M, p, hk, r⟩ := pth_flies (f := fun i => row.getD i 0) hc
  have hl : (iN (srcs row ss)).length = lanesB (List.range row.length).length ss := by
    rw [iN, List.length_map]; exact runs_len hc
  have p' : Pth (iN (srcs row ss)).length k (iN (srcs row ss)) (iN M) := by rw [hl]; exact p.map _
  exact Nat.le_trans (stop_le (P := rises) u p' (rises_of ((r.map (fun (i : Nat) => (i : Int))).sorted (iN_range _)))) hk
end Fy
end
section
set_option linter.all false
namespace Fy
/-! ### doubles that the next step strikes -/
theorem undAt_at {ss : List Stp} {i : Nat} {s t : Stp} (h1 : ss[i]? = some s) (h2 : ss[i + 1]? = some t) : undAt ss i = undB s t := by
  unfold undAt
  rw [h1, h2]
theorem stack_flat {ss : List Stp} : ∀ n, n ≤ ss.length → (∀ j, j + 1 < n → undAt ss j = false) → stackL (ss.take n) = ss.take n
  | 0, _, _ => by rw [List.take_zero]; rfl
  | n + 1, h, hu => by
    have hn : n < ss.length := by omega
    have e : ss[n]? = some ss[n] := List.getElem?_eq_getElem hn
    rw [stackL_succ e, stack_flat n (by omega) fun j hj => hu j (by omega), take_snoc e]
    unfold stackS
    cases hl : (ss.take n).getLast? with
    | none => rfl
    | some t =>
      have hn0 : n ≠ 0 := by rintro rfl; simp at hl
      obtain ⟨m, rfl⟩ := Nat.exists_eq_succ_of_ne_zero hn0
      rw [List.getLast?_eq_getElem?, List.length_take, Nat.min_eq_left (by omega), Nat.succ_eq_add_one, Nat.add_sub_cancel, List.getElem?_take_of_lt (by omega)] at hl
      have h1 := hu m (by omega)
      rw [undAt_at hl e] at h1
      show (if undB t ss[m + 1] = true then _ else _) = _
      rw [h1, if_neg Bool.false_ne_true]
theorem firstU_some {ss : List Stp} {i : Nat} (h : firstU ss = some i) : undAt ss i = true ∧ ∀ j, j < i → undAt ss j = false := by
  unfold firstU at h
  rw [List.find?_eq_some_iff_append] at h
  obtain ⟨h1, as, bs, h2, h3⟩ := h
  refine ⟨h1, fun j hj => ?_⟩
  have hl : as.length = i := by
    have e1 : (List.range (ss.length - 1))[as.length]? = some i := by rw [h2, List.getElem?_append_right (Nat.le_refl _), Nat.sub_self]; rfl
    have e2 := (List.getElem?_eq_some_iff.mp e1)
    obtain ⟨e3, e4⟩ := e2
    rw [List.getElem_range] at e4
    exact e4
  have hj' : as[j]? = some j := by
    have e1 : (List.range (ss.length - 1))[j]? = as[j]? := by rw [h2, List.getElem?_append_left (by omega)]
    have hlt : as.length < ss.length - 1 := by
      have := congrArg List.length h2
      rw [List.length_range, List.length_append, List.length_cons] at this
      omega
    rw [← e1, List.getElem?_range (by omega)]
  have := h3 j (List.mem_of_getElem? hj')
  cases hb : undAt ss j with
  | false => rfl
  | true => rw [hb] at this; cases this
theorem firstU_none {ss : List Stp} (h : firstU ss = none) : ∀ j, j + 1 < ss.length → undAt ss j = false := by
  intro j hj
  unfold firstU at h
  rw [List.find?_eq_none] at h
  have := h j (List.mem_range.mpr (by omega))
  cases hb : undAt ss j with
  | false => rfl
  | true => exact absurd hb this
theorem stack_cut {ss : List Stp} {i : Nat} (h : firstU ss = some i) : stackL ss = stackL (ss.take i ++ ss.drop (i + 2)) := by
  obtain ⟨h1, h2⟩ := firstU_some h
  have hl := firstU_lt h
  have e1 : ss[i]? = some ss[i] := List.getElem?_eq_getElem (by omega)
  have e2 : ss[i + 1]? = some ss[i + 1] := List.getElem?_eq_getElem (by omega)
  rw [undAt_at e1 e2] at h1
  have h3 : stackL (ss.take (i + 2)) = ss.take i := by
    rw [stackL_succ e2, stack_flat (i + 1) (by omega) fun j hj => h2 j (by omega), take_snoc e1]
    unfold stackS
    rw [List.getLast?_concat]
    show (if undB ss[i] ss[i + 1] = true then _ else _) = _
    rw [h1, if_pos rfl, List.dropLast_concat]
  have h4 : stackL (ss.take i) = ss.take i := stack_flat i (by omega) fun j hj => h2 j (by omega)
  conv => lhs; rw [← List.take_append_drop (i + 2) ss]
  unfold stackL at h3 h4 ⊢
  rw [List.foldl_append, List.foldl_append, h3, h4]
theorem shorts_stack : ∀ (f : Nat) (ss : List Stp), ss.length ≤ f → shorts f ss = stackL ss
  | 0, ss, h => by
    rw [List.length_eq_zero_iff.mp (Nat.le_zero.mp h)]
    rfl
  | f + 1, ss, h => by
    rw [shorts]
    cases hu : firstU ss with
    | none =>
      have := stack_flat (ss := ss) ss.length (Nat.le_refl _) fun j hj => firstU_none hu j hj
      rw [List.take_length] at this
      exact this.symm
    | some i =>
      show shorts f (ss.take i ++ ss.drop (i + 2)) = _
      have hl := firstU_lt hu
      rw [shorts_stack f _ (by rw [List.length_append, List.length_take, List.length_drop]; omega), stack_cut hu]
theorem cans_app {q : Nat} : ∀ {A B : List Stp} {m : Nat}, cans q m (A ++ B) = (cans q m A && cans q (lanesB m A) B)
  | [], B, m => rfl
  | s :: A, B, m => by
    show (s.can q m && cans q (s.after m) (A ++ B)) = ((s.can q m && cans q (s.after m) A) && cans q (lanesB (s.after m) A) B)
    rw [cans_app, Bool.and_assoc]
theorem lanesB_app (A B : List Stp) (m : Nat) : lanesB m (A ++ B) = lanesB (lanesB m A) B := by
  unfold lanesB
  rw [List.foldl_append]
theorem runs_app {α : Type} {f : α → Int} (A B : List Stp) (L : List α) : runs f (A ++ B) L = runs f B (runs f A L) := by
  unfold runs
  rw [List.foldl_append]
theorem und_back {α : Type} {f : α → Int} {s t : Stp} {L : List α} {q : Nat} (h : undB s t = true) (hc : s.ok q L.length = true) : t.run f (s.run f L) = L := by
  cases s with
  | dbl k =>
    cases t with
    | strk j =>
      have hk : k < L.length := of_decide_eq_true hc
      have h : (decide ((j : Int) = (k : Nat)) || decide ((j : Int) = ((k : Nat) : Int) + 1)) = true := h
      rw [Bool.or_eq_true, decide_eq_true_eq, decide_eq_true_eq] at h
      show (L.take (k + 1) ++ L.drop k).take j ++ (L.take (k + 1) ++ L.drop k).drop (j + 1) = L
      have hl : (L.take (k + 1)).length = k + 1 := by rw [List.length_take]; omega
      rcases h with h | h
      · have : j = k := by omega
        subst this
        rw [List.take_append_of_le_length (by omega), List.take_take, Nat.min_eq_left (by omega), List.drop_append_of_le_length (by omega), List.drop_of_length_le (by omega), List.nil_append, List.take_append_drop]
      · have : j = k + 1 := by omega
        subst this
        rw [List.take_append_of_le_length (by omega), List.take_take, Nat.min_self, List.drop_append, List.drop_of_length_le (by omega), hl, List.nil_append, List.drop_drop, show k + (k + 1 + 1 - (k + 1)) = k + 1 by omega, List.take_append_drop]
    | _ => cases h
  | _ => cases h
theorem und_can {s t : Stp} {q m : Nat} (h : undB s t = true) (hc : s.can q m = true) : t.after (s.after m) = m := by
  cases s with
  | dbl k =>
    cases t with
    | strk j => rfl
    | _ => cases h
  | _ => cases h
theorem cut_at {ss : List Stp} {i : Nat} (h : i + 1 < ss.length) : ss = ss.take i ++ (ss[i] :: ss[i + 1] :: ss.drop (i + 2)) := by
  rw [List.getElem_cons_drop, List.getElem_cons_drop, List.take_append_drop]
theorem short_ok {q m : Nat} {row : List Int} (hr : row.length = m) : ∀ (f : Nat) (ss : List Stp), cans q m ss = true → cans q m (shorts f ss) = true ∧ outOf row (shorts f ss) = outOf row ss
  | 0, ss, h => ⟨h, rfl⟩
  | f + 1, ss, h => by
    rw [shorts]
    cases hu : firstU ss with
    | none => exact ⟨h, rfl⟩
    | some i =>
      have hl := firstU_lt hu
      obtain ⟨hb, _⟩ := firstU_some hu
      rw [undAt_at (List.getElem?_eq_getElem (by omega)) (List.getElem?_eq_getElem hl)] at hb
      have e := cut_at hl
      have h' := h
      rw [e, cans_app, Bool.and_eq_true] at h'
      obtain ⟨hA, hB⟩ := h'
      have hB : (ss[i].can q (lanesB m (ss.take i)) && (ss[i + 1].can q (ss[i].after (lanesB m (ss.take i))) && cans q (ss[i + 1].after (ss[i].after (lanesB m (ss.take i)))) (ss.drop (i + 2)))) = true := hB
      rw [Bool.and_eq_true, Bool.and_eq_true] at hB
      obtain ⟨h1, h2, h3⟩ := hB
      rw [und_can hb h1] at h3
      have hcut : cans q m (ss.take i ++ ss.drop (i + 2)) = true := by rw [cans_app, hA, h3]; rfl
      obtain ⟨g1, g2⟩ := short_ok hr f _ hcut
      refine ⟨g1, g2.trans ?_⟩
      unfold outOf srcs
      congr 1
      have hlen : (runs (fun i => row.getD i 0) (ss.take i) (List.range row.length)).length = lanesB m (ss.take i) := by
        rw [runs_len (q := q) (by rw [List.length_range, hr]; exact hA), List.length_range, hr]
      conv => rhs; rw [e]
      rw [runs_app, runs_app]
      show _ = runs _ (ss.drop (i + 2)) (ss[i + 1].run _ (ss[i].run _ (runs _ (ss.take i) (List.range row.length))))
      rw [und_back hb (by rw [hlen]; exact (can_ok h1).1)]
theorem shorts_mem : ∀ (f : Nat) (ss : List Stp), ∀ s ∈ shorts f ss, s ∈ ss
  | 0, ss, s, h => h
  | f + 1, ss, s, h => by
    rw [shorts] at h
    cases hu : firstU ss with
    | none => rw [hu] at h; exact h
    | some i =>
      rw [hu] at h
      rcases List.mem_append.mp (shorts_mem f _ s h) with z | z
      · exact List.take_subset _ _ z
      · exact List.drop_subset _ _ z
theorem shorts_len : ∀ (f : Nat) (ss : List Stp), (shorts f ss).length ≤ ss.length
  | 0, ss => Nat.le_refl _
  | f + 1, ss => by
    rw [shorts]
    cases hu : firstU ss with
    | none => exact Nat.le_refl _
    | some i =>
      have := shorts_len f (ss.take i ++ ss.drop (i + 2))
      rw [List.length_append, List.length_take, List.length_drop] at this
      show (shorts f (ss.take i ++ ss.drop (i + 2))).length ≤ _
      omega
/-- the greatest and its first place -/
theorem first_max : ∀ {ns : List Int}, ns ≠ [] → ∃ (j : Nat) (mx : Int), ns[j]? = some mx ∧ (∀ y ∈ ns, y ≤ mx) ∧ ∀ i, i < j → ns[i]? ≠ some mx
  | [], h => absurd rfl h
  | [x], _ => ⟨0, x, rfl, fun y hy => by rw [List.mem_singleton.mp hy]; exact Int.le_refl _, fun i hi => absurd hi (Nat.not_lt_zero _)⟩
  | x :: y :: r, _ => by
    obtain ⟨j, mx, h1, h2, h3⟩ := first_max (ns := y :: r) (by simp)
    by_cases hx : mx ≤ x
    · refine ⟨0, x, rfl, fun z hz => ?_, fun i hi => absurd hi (Nat.not_lt_zero _)⟩
      rcases List.mem_cons.mp hz with rfl | hz
      · exact Int.le_refl _
      · exact Int.le_trans (h2 z hz) hx
    · refine ⟨j + 1, mx, h1, fun z hz => ?_, fun i hi => ?_⟩
      · rcases List.mem_cons.mp hz with rfl | hz
        · omega
        · exact h2 z hz
      · cases i with
        | zero => exact fun e => by cases e; omega
        | succ i => exact h3 i (by omega)
end Fy
end
section
set_option linter.all false
namespace Fy
/-! ### the farthest -/
theorem rowsOf_asc {ls : List Int} (h : ls.Pairwise (· < ·)) : ∀ n, (rowsOf ls n).Pairwise (· < ·)
  | 0 => List.pairwise_singleton _ _
  | n + 1 => by
    have lt1 : ∀ {r s : List Int} {x y : Int}, r.length = s.length → r < s → r ++ [x] < s ++ [y] := by
      intro r
      induction r with
      | nil =>
        intro s x y hl hlt
        cases s with
        | nil => exact absurd hlt (List.not_lt_nil _)
        | cons z s => cases hl
      | cons a r ih =>
        intro s x y hl hlt
        cases s with
        | nil => cases hl
        | cons z s =>
          rw [List.cons_append, List.cons_append, List.cons_lt_cons_iff]
          rw [List.cons_lt_cons_iff] at hlt
          rcases hlt with h1 | ⟨h1, h2⟩
          · exact Or.inl h1
          · exact Or.inr ⟨h1, ih (by simpa using hl) h2⟩
    have lt2 : ∀ {r : List Int} {x y : Int}, x < y → r ++ [x] < r ++ [y] := by
      intro r
      induction r with
      | nil => intro x y hxy; exact List.cons_lt_cons_iff.mpr (Or.inl hxy)
      | cons a r ih => intro x y hxy; exact List.cons_lt_cons_iff.mpr (Or.inr ⟨rfl, ih hxy⟩)
    rw [rowsOf, List.flatMap, List.pairwise_flatten]
    constructor
    · intro l hl
      obtain ⟨r, _, rfl⟩ := List.mem_map.mp hl
      rw [List.pairwise_map]
      exact h.imp fun hxy => lt2 hxy
    · rw [List.pairwise_map]
      refine (rowsOf_asc h n).imp_of_mem fun {r s} hr hs hrs => ?_
      intro a ha b hb
      obtain ⟨x, _, rfl⟩ := List.mem_map.mp ha
      obtain ⟨y, _, rfl⟩ := List.mem_map.mp hb
      exact lt1 ((rowsOf_row _ _ _ hr).1.trans (rowsOf_row _ _ _ hs).1.symm) hrs
theorem asc_nodup {l : List (List Int)} (h : l.Pairwise (· < ·)) : l.Nodup := h.imp fun hxy e => by subst e; exact List.lt_irrefl _ hxy
theorem minR_first {r : List Int} : ∀ {rs : List (List Int)}, (∀ y ∈ rs, r < y) → L2.minR r rs = r
  | [], _ => rfl
  | y :: rs, h => by
    have h1 : ¬ y < r := fun z => List.lt_irrefl _ (List.lt_trans z (h y List.mem_cons_self))
    show rs.foldl (fun a y => if y < a then y else a) (if y < r then y else r) = r
    rw [if_neg h1]
    exact minR_first fun z hz => h z (List.mem_cons_of_mem _ hz)
/-- the greatest number and the first that has it -/
def fmax (d : List Int → Nat) : List (List Int) → Option (Nat × List Int)
  | [] => none
  | o :: os => match fmax d os with
    | none => some (d o, o)
    | some p => if d o < p.1 then some p else some (d o, o)
theorem fmax_some {d : List Int → Nat} : ∀ {os : List (List Int)}, os ≠ [] → ∃ p, fmax d os = some p ∧ p.2 ∈ os ∧ d p.2 = p.1 ∧ (∀ o ∈ os, d o ≤ p.1) ∧ ∃ rs, os.filter (fun o => decide (((d o : Nat) : Int) = (p.1 : Nat))) = p.2 :: rs
  | [], h => absurd rfl h
  | o :: os, _ => by
    rw [fmax]
    cases os with
    | nil => exact ⟨_, rfl, List.mem_singleton.mpr rfl, rfl, fun x hx => by rw [List.mem_singleton.mp hx]; exact Nat.le_refl _, [], by rw [List.filter_cons_of_pos (by simp)]; rfl⟩
    | cons o2 os =>
      obtain ⟨p, h1, h2, h3, h4, rs, h5⟩ := fmax_some (d := d) (os := o2 :: os) (by simp)
      rw [h1]
      dsimp only
      split
      · rename_i hlt
        refine ⟨p, rfl, List.mem_cons_of_mem _ h2, h3, fun x hx => ?_, rs, ?_⟩
        · rcases List.mem_cons.mp hx with rfl | hx
          · omega
          · exact h4 x hx
        · rw [List.filter_cons_of_neg (by simp only [decide_eq_true_eq]; omega)]
          exact h5
      · rename_i hlt
        refine ⟨_, rfl, List.mem_cons_self, rfl, fun x hx => ?_, _, List.filter_cons_of_pos (by simp)⟩
        rcases List.mem_cons.mp hx with rfl | hx
        · exact Nat.le_refl _
        · have := h4 x hx
          dsimp only
          omega
theorem fold_due {d : List Int → Nat} {r : List Int} : ∀ (os : List (List Int)) (b : B3), os.foldl (dueSt d r) b = match fmax d os with
    | none => b
    | some p => if betF p.1 b = true then some (p.1, r, p.2) else b
  | [], b => rfl
  | o :: os, b => by
    rw [List.foldl_cons, fold_due os, fmax]
    unfold dueSt
    cases hf : fmax d os with
    | none => rfl
    | some p =>
      dsimp only
      cases b with
      | none =>
        show (if betF p.1 (some (d o, r, o)) = true then some (p.1, r, p.2) else some (d o, r, o)) = _
        by_cases hlt : d o < p.1
        · rw [if_pos hlt, if_pos (show betF p.1 (some (d o, r, o)) = true from decide_eq_true hlt)]
          rfl
        · rw [if_neg hlt, if_neg (show ¬ betF p.1 (some (d o, r, o)) = true from fun z => hlt (of_decide_eq_true z))]
          rfl
      | some t =>
        by_cases h1 : t.1 < d o
        · rw [if_pos (show betF (d o) (some t) = true from decide_eq_true h1)]
          by_cases hlt : d o < p.1
          · rw [if_pos hlt, if_pos (show betF p.1 (some (d o, r, o)) = true from decide_eq_true hlt)]
            dsimp only
            rw [if_pos (show betF p.1 (some t) = true from decide_eq_true (by omega))]
          · rw [if_neg hlt, if_neg (show ¬ betF p.1 (some (d o, r, o)) = true from fun z => hlt (of_decide_eq_true z))]
            dsimp only
            rw [if_pos (show betF (d o) (some t) = true from decide_eq_true h1)]
        · rw [if_neg (show ¬ betF (d o) (some t) = true from fun z => h1 (of_decide_eq_true z))]
          by_cases hlt : d o < p.1
          · rw [if_pos hlt]
          · rw [if_neg hlt]
            dsimp only
            rw [if_neg (show ¬ betF (d o) (some t) = true from fun z => h1 (of_decide_eq_true z)), if_neg (show ¬ betF p.1 (some t) = true from fun z => by have := of_decide_eq_true z; omega)]
/-- thinnings by their ways -/
theorem thin_way {row : List Int} : ∀ (js : List Nat) (i : Nat), (∀ j ∈ js, i ≤ j ∧ j < row.length) → js.Pairwise (· ≤ ·) → (wayOf row (js.map fun j => row.getD j 0) i).isSome = true
  | [], _, _, _ => rfl
  | j :: js, i, h, hp => by
    obtain ⟨h1, h2⟩ := h j List.mem_cons_self
    rw [List.pairwise_cons] at hp
    have hj : row[j]? = some (row.getD j 0) := by rw [List.getD_eq_getElem?_getD, List.getElem?_eq_getElem h2]; rfl
    obtain ⟨k, ⟨hk1, hk2⟩, hk3, hk4⟩ := least (P := fun k => i ≤ k ∧ row[k]? = some (row.getD j 0)) (n := j) ⟨h1, hj⟩
    have e : nextP row (row.getD j 0) i = some k := nextP_some hk1 hk2 fun t ht1 ht2 z => hk4 t ht2 ⟨ht1, z⟩
    rw [List.map_cons, wayOf_some e]
    exact thin_way js k (fun t ht => ⟨Nat.le_trans hk3 (hp.1 t ht), (h t (List.mem_cons_of_mem _ ht)).2⟩) hp.2
theorem rises_pair : ∀ {L : List Int}, rises L = true → L.Pairwise (· ≤ ·)
  | [], _ => List.Pairwise.nil
  | [x], _ => List.pairwise_singleton _ _
  | x :: y :: r, h => by
    have h2 := rises_pair (rises_tail h)
    refine List.pairwise_cons.mpr ⟨fun z hz => ?_, h2⟩
    rcases List.mem_cons.mp hz with rfl | hz
    · exact rises_head h
    · exact Int.le_trans (rises_head h) ((List.pairwise_cons.mp h2).1 z hz)
theorem pth_thin {row out : List Int} (h : ∀ x ∈ out, x ∈ row) : ∃ k t, Pth out.length k out t ∧ thin row t = true := by
  have hx : (out.map fun x => ((row.idxOf x : Nat) : Int)).map (fun i => row.getD i.toNat 0) = out := by
    rw [List.map_map]
    conv => rhs; rw [← List.map_id out]
    refine List.map_congr_left fun x hx => ?_
    have hlt : row.idxOf x < row.length := List.idxOf_lt_length_of_mem (h x hx)
    show row.getD (((row.idxOf x : Nat) : Int)).toNat 0 = x
    rw [Int.toNat_natCast, List.getD_eq_getElem?_getD, List.getElem?_eq_getElem hlt, List.getElem_idxOf hlt]
    rfl
  obtain ⟨k, u, p, hr⟩ := pth_sort (out.map fun x => ((row.idxOf x : Nat) : Int))
  have p2 := p.map fun i => row.getD i.toNat 0
  rw [hx, List.length_map] at p2
  refine ⟨k, _, p2, ?_⟩
  have hm : ∀ i ∈ u, 0 ≤ i ∧ i.toNat < row.length := fun i hi => by
    obtain ⟨x, hxo, rfl⟩ := List.mem_map.mp (p.mem hi)
    rw [Int.toNat_natCast]
    exact ⟨Int.natCast_nonneg _, List.idxOf_lt_length_of_mem (h x hxo)⟩
  have e : (u.map fun i => row.getD i.toNat 0) = (u.map Int.toNat).map fun j => row.getD j 0 := by rw [List.map_map]; rfl
  unfold thin
  rw [e]
  refine thin_way _ 0 (fun j hj => ?_) ?_
  · obtain ⟨i, hi, rfl⟩ := List.mem_map.mp hj
    exact ⟨Nat.zero_le _, (hm i hi).2⟩
  · rw [List.pairwise_map]
    exact (rises_pair hr).imp fun hab => by omega
/-- the least number of exchanges from a thinning -/
def IsD (r : List Int) (o : Nat) (out : List Int) (k : Nat) : Prop := (∃ t, Pth o k t out ∧ thin r t = true) ∧ ∀ j t, Pth o j t out → t.length = o → thin r t = true → k ≤ j
theorem isD_ex {r : List Int} {o : Nat} {out : List Int} (hl : out.length = o) (h : ∀ x ∈ out, x ∈ r) : ∃ k, IsD r o out k := by
  subst hl
  obtain ⟨k, t, p, ht⟩ := pth_thin h
  obtain ⟨k', ⟨t', p', ht'⟩, _, h3⟩ := least (P := fun k => ∃ t, Pth out.length k t out ∧ thin r t = true) (n := k) ⟨t, p.symm rfl, ht⟩
  exact ⟨k', ⟨t', p', ht'⟩, fun j t pj _ tj => Nat.le_of_not_lt fun hj => h3 j hj ⟨t, pj, tj⟩⟩
open Classical in
noncomputable def dstR (o : Nat) (r out : List Int) : Nat := if h : ∃ k, IsD r o out k then Classical.choose h else 0
theorem dstR_is {r : List Int} {o : Nat} {out : List Int} (hl : out.length = o) (h : ∀ x ∈ out, x ∈ r) : IsD r o out (dstR o r out) := by
  have hx := isD_ex hl h
  unfold dstR
  rw [dif_pos hx]
  exact Classical.choose_spec hx
theorem pth_len_back {α : Type} {n : Nat} : ∀ {k : Nat} {s t : List α}, Pth n k s t → t.length = n → 1 ≤ n → s.length = n
  | 0, _, _, rfl, h, _ => h
  | k + 1, s, t, ⟨u, h1, h2⟩, h, h0 => by
    refine pth_len_back h1 ?_ h0
    obtain ⟨a, b, c, g1, g2, g3, rfl⟩ := h2
    by_cases hc : c ≤ u.length
    · rw [exch_len u (by omega) (by omega) hc] at h
      exact h
    · unfold exch at h
      simp only [List.length_append, List.length_take, List.length_drop] at h
      omega
/-- the letters of a row -/
def lsOf (q : Nat) (r : List Int) : List Int := (lets q).filter fun l => decide (l ∈ r)
theorem lets_asc (q : Nat) : (lets q).Pairwise (· < ·) := by
  unfold lets
  rw [List.pairwise_map]
  exact List.pairwise_lt_range.imp fun h => by omega
theorem lets_len (q : Nat) : (lets q).length = q := by rw [lets, List.length_map, List.length_range]
noncomputable def mxR (q o : Nat) (r : List Int) : Nat := ((fmax (dstR o r) (rowsOf (lsOf q r) o)).getD (0, [])).1
noncomputable def boR (q o : Nat) (r : List Int) : List Int := ((fmax (dstR o r) (rowsOf (lsOf q r) o)).getD (0, [])).2
theorem lsOf_mem {q m : Nat} {r : List Int} (hr : r ∈ rowsOf (lets q) m) (k : Int) : k ∈ lsOf q r ↔ k ∈ r := by
  unfold lsOf
  rw [List.mem_filter, decide_eq_true_eq]
  exact ⟨fun h => h.2, fun h => ⟨(rowsOf_row _ _ _ hr).2 k h, h⟩⟩
theorem lsOf_pos {q m : Nat} {r : List Int} (hr : r ∈ rowsOf (lets q) m) (hm : 1 ≤ m) : 1 ≤ (lsOf q r).length := by
  have hl := (rowsOf_row _ _ _ hr).1
  have hx : r[0]'(by omega) ∈ lsOf q r := (lsOf_mem hr _).mpr (List.getElem_mem _)
  exact List.length_pos_of_mem hx
theorem outs_ne {q m o : Nat} {r : List Int} (hr : r ∈ rowsOf (lets q) m) (hm : 1 ≤ m) : rowsOf (lsOf q r) o ≠ [] := by
  refine List.length_pos_iff.mp ?_
  rw [rowsOf_len]
  exact Nat.pow_pos (lsOf_pos hr hm)
theorem zs_fst (ss : List (List Int)) : (zs ss).map (·.1) = ss := by
  unfold zs
  rw [List.map_map]
  exact List.map_id _
theorem far_at {q m o : Nat} {r : List Int} (hr : r ∈ rowsOf (lets q) m) (hm : 1 ≤ m) (h63 : m < 63) (ho : 1 ≤ o) (h12 : o ≤ 12) (hq : q ≤ 64) (hp : q ^ o ≤ 4096) : FarAt r (lsOf q r) o (dstR o r) (mxR q o r) (boR q o r) := by
  have hrl := (rowsOf_row _ _ _ hr).1
  have hle : (lsOf q r).length ≤ q := by
    have := List.length_filter_le (fun l => decide (l ∈ r)) (lets q)
    rw [lets_len] at this
    exact this
  have hpw : (lsOf q r).length ^ o ≤ 4096 := Nat.le_trans (Nat.pow_le_pow_left hle o) hp
  have hasc : (lsOf q r).Pairwise (· < ·) := (lets_asc q).sublist List.filter_sublist
  have hlex := rowsOf_asc hasc o
  have hnd := asc_nodup hlex
  have hmem := lsOf_mem hr
  have hpos := lsOf_pos hr hm
  have hne := outs_ne (o := o) hr hm
  obtain ⟨p, f1, f2, f3, f4, rs, f5⟩ := fmax_some (d := dstR o r) hne
  have emx : mxR q o r = p.1 := by unfold mxR; rw [f1]; rfl
  have ebo : boR q o r = p.2 := by unfold boR; rw [f1]; rfl
  rw [emx, ebo]
  generalize hls : lsOf q r = ls at *
  have hin : ∀ x ∈ zs ((rowsOf ls o).filter (thin r)), x.1 ∈ rowsOf ls o := fun x hx => by
    obtain ⟨y, hy, rfl⟩ := List.mem_map.mp hx
    exact (List.mem_filter.mp hy).1
  have nd0 : ((zs ((rowsOf ls o).filter (thin r))).map (·.1)).Nodup := by rw [zs_fst]; exact hnd.sublist List.filter_sublist
  have h0 : ∀ x ∈ zs ((rowsOf ls o).filter (thin r)), x.2 = 0 := fun x hx => by
    obtain ⟨y, hy, rfl⟩ := List.mem_map.mp hx
    rfl
  obtain ⟨K, k1, k2⟩ := bfs_end hin nd0
  have I := bi_ok (n := o) h0 K
  have ndK := bfs_nodup (es := exs o) nd0 K
  have inK := bfs_in hin K
  have hout : ∀ out ∈ rowsOf ls o, out.length = o ∧ ∀ x ∈ out, x ∈ r := fun out ho => by
    obtain ⟨g1, g2⟩ := rowsOf_row _ _ _ ho
    exact ⟨g1, fun x hx => (hmem x).mp (g2 x hx)⟩
  have hget : ∀ out ∈ rowsOf ls o, (out, dstR o r out) ∈ bfs (exs o) (zs ((rowsOf ls o).filter (thin r))) K := by
    intro out hoo
    obtain ⟨g1, g2⟩ := hout out hoo
    obtain ⟨⟨t, pt, ht⟩, hmin⟩ := dstR_is g1 g2
    have tl := pth_len_back pt g1 ho
    have tin : t ∈ rowsOf ls o := mem_rowsOf tl fun x hx => (rowsOf_row _ _ _ hoo).2 x ((pt.symm tl).mem hx)
    rcases I.find h0 _ t 0 out (List.mem_map.mpr ⟨t, List.mem_filter.mpr ⟨tin, ht⟩, rfl⟩) pt with ⟨d, d1, d2⟩ | ⟨i, p, i1, i2, i3⟩
    · obtain ⟨s', hs', ps'⟩ := I.path _ d1
      obtain ⟨y, hy, rfl⟩ := List.mem_map.mp hs'
      obtain ⟨y1, y2⟩ := List.mem_filter.mp hy
      have := hmin d y ps' (rowsOf_row _ _ _ y1).1 y2
      have e : dstR o r out = d := by omega
      rw [e]
      exact d1
    · have := (List.getElem?_eq_some_iff.mp i2).1
      omega
  refine ⟨by omega, hasc, hmem, h12, hpos, by omega, hpw, hnd, ⟨K, fun j _ => Nat.le_trans (bfs_fits hin nd0 j) (by omega), k1, k2, fun out hoo => ?_, List.mem_map.mpr ⟨_, hget p.2 f2, f3⟩, fun x hx => ?_⟩, rs, f5, minR_first fun y hy => ?_⟩
  · obtain ⟨i, hi⟩ := List.mem_iff_getElem?.mp (hget out hoo)
    exact bGet_at ndK hi
  · have hx1 := inK x hx
    have h1 := hget x.1 hx1
    obtain ⟨i, hi⟩ := List.mem_iff_getElem?.mp hx
    obtain ⟨j, hj⟩ := List.mem_iff_getElem?.mp h1
    have e1 := bGet_at ndK (show _ = some (x.1, x.2) from hi)
    rw [bGet_at ndK hj] at e1
    rw [← Option.some.inj e1]
    exact f4 _ hx1
  · have := hlex.sublist (List.filter_sublist (p := fun o' => decide (((dstR o r o' : Nat) : Int) = (p.1 : Nat))))
    rw [f5, List.pairwise_cons] at this
    exact this.1 y hy
theorem foldl_ext {α β : Type} {f g : β → α → β} : ∀ {l : List α} {b : β}, (∀ b, ∀ a ∈ l, f b a = g b a) → l.foldl f b = l.foldl g b
  | [], _, _ => rfl
  | a :: l, b, h => by
    rw [List.foldl_cons, List.foldl_cons, h b a List.mem_cons_self]
    exact foldl_ext fun b x hx => h b x (List.mem_cons_of_mem _ hx)
theorem due_far {q m o : Nat} {r : List Int} (hr : r ∈ rowsOf (lets q) m) (hm : 1 ≤ m) (b : B3) : (rowsOf (lsOf q r) o).foldl (dueSt (dstR o r) r) b = farS (mxR q o) (boR q o) b r := by
  obtain ⟨p, f1, _⟩ := fmax_some (d := dstR o r) (outs_ne (o := o) hr hm)
  rw [fold_due, f1]
  have emx : mxR q o r = p.1 := by unfold mxR; rw [f1]; rfl
  have ebo : boR q o r = p.2 := by unfold boR; rw [f1]; rfl
  unfold farS
  rw [emx, ebo]
  cases b with
  | none => rfl
  | some t =>
    show (if decide (t.1 < p.1) = true then _ else _) = if t.1 < p.1 then _ else _
    by_cases h : t.1 < p.1
    · rw [if_pos h, if_pos (decide_eq_true h)]
    · rw [if_neg h, if_neg (fun z => h (of_decide_eq_true z))]
theorem far_law {q m o : Nat} (hm : 1 ≤ m) (m4 : m ≤ 4) (ho : 1 ≤ o) (o3 : o ≤ 3) (q3 : q ≤ 3) : FarLaw q m o (lsOf q) (dstR o) (mxR q o) (boR q o) := by
  have hp : q ^ o ≤ 27 := Nat.le_trans (Nat.pow_le_pow_left q3 o) (Nat.pow_le_pow_right (by decide) o3)
  refine ⟨fun r hr => far_at hr hm (by omega) ho (by omega) (by omega) (by omega), fun r hr out hoo => ?_, foldl_ext fun b r hr => due_far hr hm b⟩
  obtain ⟨g1, g2⟩ := rowsOf_row _ _ _ hoo
  have g3 : ∀ x ∈ out, x ∈ r := fun x hx => (lsOf_mem hr x).mp (g2 x hx)
  obtain ⟨⟨t, pt, ht⟩, hmin⟩ := dstR_is g1 g3
  have tl := pth_len_back pt g1 ho
  subst g1
  have hle : (lsOf q r).length ≤ q := by
    have := List.length_filter_le (fun l => decide (l ∈ r)) (lets q)
    rw [lets_len] at this
    exact this
  obtain ⟨d, hd, t2, p2, ht2⟩ := stop_ok (P := thin r) (ls := lsOf q r) g2 (by omega) (Nat.le_trans (Nat.pow_le_pow_left hle _) (by omega)) (pt.symm tl) ht
  have h1 := stop_le hd (pt.symm tl) ht
  have h2 := hmin d t2 (p2.symm rfl) (p2.len rfl) ht2
  have e : dstR out.length r out = d := by omega
  rw [e]
  exact hd
end Fy
end
section
set_option linter.all false
set_option maxRecDepth 100000
namespace Fy
/-! ### two letters: by numbers of changes -/
def chg (p : Int) : List Int → Nat
  | [] => 0
  | y :: o => (if y = p then 0 else 1) + chg y o
theorem nextP_shift {row : List Int} {l : Int} {i : Nat} (h : row[i]? ≠ some l) : nextP row l i = nextP row l (i + 1) := by
  by_cases hx : ∃ k, i + 1 ≤ k ∧ row[k]? = some l
  · obtain ⟨k0, h0⟩ := hx
    obtain ⟨k, ⟨h1, h2⟩, _, h3⟩ := least (P := fun k => i + 1 ≤ k ∧ row[k]? = some l) h0
    rw [nextP_some h1 h2 fun j j1 j2 z => h3 j j2 ⟨j1, z⟩, nextP_some (by omega) h2 fun j j1 j2 z => ?_]
    by_cases hj : j = i
    · subst hj; exact h z
    · exact h3 j j2 ⟨by omega, z⟩
  · have hn : ∀ j, i + 1 ≤ j → row[j]? ≠ some l := fun j hj z => hx ⟨j, hj, z⟩
    rw [nextP_none hn, nextP_none fun j hj z => ?_]
    by_cases hj : j = i
    · subst hj; exact h z
    · exact hn j (by omega) z
theorem wayOf_shift {row : List Int} {l : Int} {o : List Int} {i : Nat} (h : row[i]? ≠ some l) : (wayOf row (l :: o) i).isSome = (wayOf row (l :: o) (i + 1)).isSome := by
  rw [wayOf, wayOf, nextP_shift h]
def two (x : Int) : Prop := x = 0 ∨ x = 1
theorem way_chg {row : List Int} (hr : ∀ x ∈ row, two x) : ∀ (n i : Nat) (out : List Int), row.length - i + out.length ≤ n → (∀ x ∈ out, two x) → ∀ hi : i < row.length, (wayOf row out i).isSome = decide (chg row[i] out ≤ chg row[i] (row.drop (i + 1)))
  | n, i, [], _, _, hi => by rw [wayOf]; exact (decide_eq_true (Nat.zero_le _)).symm
  | 0, i, y :: o, h, _, hi => by rw [List.length_cons] at h; omega
  | n + 1, i, y :: o, h, ho, hi => by
    rw [List.length_cons] at h
    have ho' : ∀ x ∈ o, two x := fun x hx => ho x (List.mem_cons_of_mem _ hx)
    by_cases hxy : row[i] = y
    · have e : nextP row y i = some i := nextP_some (Nat.le_refl _) (by rw [List.getElem?_eq_getElem hi, hxy]) fun j h1 h2 => by omega
      rw [wayOf_some e, way_chg hr n i o (by omega) ho' hi, chg, if_pos hxy.symm, Nat.zero_add, ← hxy]
    · have hne : row[i]? ≠ some y := fun z => hxy (by rw [List.getElem?_eq_getElem hi] at z; exact Option.some.inj z)
      rw [wayOf_shift hne]
      by_cases h2 : i + 1 < row.length
      · rw [way_chg hr n (i + 1) (y :: o) (by rw [List.length_cons]; omega) ho h2]
        have ed : row.drop (i + 1) = row[i + 1] :: row.drop (i + 1 + 1) := (List.getElem_cons_drop ..).symm
        rw [ed]
        by_cases hz : row[i + 1] = row[i]
        · show _ = decide (_ ≤ (if row[i + 1] = row[i] then 0 else 1) + chg row[i + 1] (row.drop (i + 1 + 1)))
          rw [if_pos hz, Nat.zero_add, hz]
        · have hzy : row[i + 1] = y := by
            have t1 := hr _ (List.getElem_mem hi)
            have t2 := hr _ (List.getElem_mem h2)
            have t3 := ho y List.mem_cons_self
            unfold two at t1 t2 t3
            omega
          show decide ((if y = row[i + 1] then 0 else 1) + chg y o ≤ _) = decide ((if y = row[i] then 0 else 1) + chg y o ≤ (if row[i + 1] = row[i] then 0 else 1) + chg row[i + 1] (row.drop (i + 1 + 1)))
          rw [if_neg hz, if_neg (show ¬ y = row[i] from fun z => hxy z.symm), if_pos hzy.symm, hzy]
          refine decide_eq_decide.mpr ?_
          omega
      · have hn : ∀ j, i + 1 ≤ j → row[j]? ≠ some y := fun j hj z => by
          have := (List.getElem?_eq_some_iff.mp z).1
          omega
        rw [wayOf_none (nextP_none hn), List.drop_of_length_le (by omega)]
        show false = decide ((if y = row[i] then 0 else 1) + chg y o ≤ 0)
        rw [if_neg (fun z => hxy z.symm)]
        exact (decide_eq_false (by omega)).symm
theorem thin_chg {r out : List Int} (hr : ∀ x ∈ r, two x) (ho : ∀ x ∈ out, two x) (h0 : r ≠ []) : thin r out = decide (chg (hd0 r) out ≤ chg (hd0 r) r) := by
  cases r with
  | nil => exact absurd rfl h0
  | cons x r =>
    unfold thin
    rw [way_chg hr _ 0 out (Nat.le_refl _) ho (by rw [List.length_cons]; omega)]
    show decide (chg x out ≤ chg x r) = decide (chg x out ≤ (if x = x then 0 else 1) + chg x r)
    rw [if_pos rfl, Nat.zero_add]
/-! checked one by one for up to six lanes -/
theorem chk_step : ((List.range 7).all fun o => (rowsOf (lets 2) o).all fun out => (exs o).all fun e => decide (chg 0 (exch out e.1 e.2.1 e.2.2) ≤ chg 0 out + 2) && decide (chg 1 (exch out e.1 e.2.1 e.2.2) ≤ chg 1 out + 2)) = true := by decide +kernel
theorem chk_less : ((List.range 7).all fun o => (rowsOf (lets 2) o).all fun out => [(0 : Int), 1].all fun x => decide (chg x out ≤ 1) || (exs o).any fun e => decide (chg x (exch out e.1 e.2.1 e.2.2) + 2 ≤ chg x out) || (decide (chg x out = 2) && decide (chg x (exch out e.1 e.2.1 e.2.2) ≤ 1))) = true := by decide +kernel
theorem chk_many : ((List.range 7).all fun o => decide (o = 0) || (rowsOf (lets 2) o).all fun out => [(0 : Int), 1].all fun x => decide (manyI out + (if (!decide (hd0 out = x)) = true then 1 else 0) = (chg x out : Nat))) = true := by decide +kernel
theorem chk_ls : ((List.range 7).all fun n => decide (n = 0) || (rowsOf (lets 2) n).all fun r => (decide (0 < manyI r) && decide (lsOf 2 r = lets 2)) || (decide (manyI r = 0) && decide (lsOf 2 r = [hd0 r]) && (decide (hd0 r = 0) || decide (hd0 r = 1)))) = true := by decide +kernel
theorem chk_one : ((List.range 7).all fun o => [(0 : Int), 1].all fun x => decide ((rowsOf (lets 2) o).filter (fun out => decide (o = 0) || (decide (manyI out = 0) && decide (hd0 out = x))) = rowsOf [x] o)) = true := by decide +kernel
end Fy
end
section
set_option linter.all false
set_option maxRecDepth 100000
namespace Fy
theorem lets2_two {n : Nat} {r : List Int} (h : r ∈ rowsOf (lets 2) n) : ∀ x ∈ r, two x := fun x hx => by
  obtain ⟨i, hi, rfl⟩ := List.mem_map.mp ((rowsOf_row _ _ _ h).2 x hx)
  rw [List.mem_range] at hi
  unfold two
  omega
theorem two_mem {x : Int} (h : two x) : x ∈ [(0 : Int), 1] := by
  rcases h with rfl | rfl <;> simp
theorem chk1 {o : Nat} (h6 : o ≤ 6) {out t : List Int} (ho : out ∈ rowsOf (lets 2) o) {x : Int} (hx : two x) (h : Ex o out t) : chg x t ≤ chg x out + 2 := by
  obtain ⟨e, he, rfl⟩ := h.exs
  have h1 := List.all_eq_true.mp (List.all_eq_true.mp (List.all_eq_true.mp chk_step o (List.mem_range.mpr (by omega))) out ho) e he
  rw [Bool.and_eq_true, decide_eq_true_eq, decide_eq_true_eq] at h1
  rcases hx with rfl | rfl
  · exact h1.1
  · exact h1.2
theorem chk2 {o : Nat} (h6 : o ≤ 6) {out : List Int} (ho : out ∈ rowsOf (lets 2) o) {x : Int} (hx : two x) (h : 2 ≤ chg x out) : ∃ t, Ex o out t ∧ (chg x t + 2 ≤ chg x out ∨ (chg x out = 2 ∧ chg x t ≤ 1)) := by
  have h1 := List.all_eq_true.mp (List.all_eq_true.mp (List.all_eq_true.mp chk_less o (List.mem_range.mpr (by omega))) out ho) x (two_mem hx)
  rw [Bool.or_eq_true, decide_eq_true_eq] at h1
  rcases h1 with h1 | h1
  · omega
  · obtain ⟨e, he, h2⟩ := List.any_eq_true.mp h1
    refine ⟨_, Ex.of_exs he, ?_⟩
    rw [Bool.or_eq_true, Bool.and_eq_true, decide_eq_true_eq, decide_eq_true_eq, decide_eq_true_eq] at h2
    exact h2
theorem chk3 {o : Nat} (h6 : o ≤ 6) (h0 : 1 ≤ o) {out : List Int} (ho : out ∈ rowsOf (lets 2) o) {x : Int} (hx : two x) : manyI out + (if (!decide (hd0 out = x)) = true then 1 else 0) = (chg x out : Nat) := by
  have h1 := List.all_eq_true.mp chk_many o (List.mem_range.mpr (by omega))
  rw [Bool.or_eq_true, decide_eq_true_eq] at h1
  rcases h1 with h1 | h1
  · omega
  · exact of_decide_eq_true (List.all_eq_true.mp (List.all_eq_true.mp h1 out ho) x (two_mem hx))
theorem chk4 {n : Nat} (h6 : n ≤ 6) (h0 : 1 ≤ n) {r : List Int} (hr : r ∈ rowsOf (lets 2) n) : (0 < manyI r ∧ lsOf 2 r = lets 2) ∨ (manyI r = 0 ∧ lsOf 2 r = [hd0 r]) := by
  have h1 := List.all_eq_true.mp chk_ls n (List.mem_range.mpr (by omega))
  rw [Bool.or_eq_true, decide_eq_true_eq] at h1
  rcases h1 with h1 | h1
  · omega
  · have h2 := List.all_eq_true.mp h1 r hr
    rw [Bool.or_eq_true, Bool.and_eq_true, Bool.and_eq_true, Bool.and_eq_true, decide_eq_true_eq, decide_eq_true_eq, decide_eq_true_eq, decide_eq_true_eq] at h2
    exact h2.imp id fun z => z.1
theorem hd0_two {n : Nat} (h0 : 1 ≤ n) {r : List Int} (hr : r ∈ rowsOf (lets 2) n) : two (hd0 r) := by
  obtain ⟨h1, _⟩ := rowsOf_row _ _ _ hr
  cases r with
  | nil => simp at h1; omega
  | cons x r => exact lets2_two hr x List.mem_cons_self
theorem chg_self {n : Nat} (h6 : n ≤ 6) (h0 : 1 ≤ n) {r : List Int} (hr : r ∈ rowsOf (lets 2) n) : manyI r = (chg (hd0 r) r : Nat) := by
  have := chk3 h6 h0 hr (hd0_two h0 hr)
  rw [decide_eq_true rfl] at this
  simpa using this
theorem need_chg {n o : Nat} (n6 : n ≤ 6) (n0 : 1 ≤ n) (o6 : o ≤ 6) (o0 : 1 ≤ o) {r out : List Int} (hr : r ∈ rowsOf (lets 2) n) (ho : out ∈ rowsOf (lets 2) o) (hm : 0 < manyI r) : needN r out = (chg (hd0 r) out + 1 - chg (hd0 r) r) / 2 := by
  unfold needN needI
  rw [if_neg (by omega), chk3 o6 o0 ho (hd0_two n0 hr), chg_self n6 n0 hr]
  split
  · omega
  · omega
theorem dst_two {n o : Nat} (n6 : n ≤ 6) (n0 : 1 ≤ n) (o6 : o ≤ 6) (o0 : 1 ≤ o) {r out : List Int} (hr : r ∈ rowsOf (lets 2) n) (ho : out ∈ rowsOf (lsOf 2 r) o) : dstR o r out = needN r out := by
  have hrow := rowsOf_row _ _ _ hr
  have hne : r ≠ [] := by rintro rfl; simp at hrow; omega
  obtain ⟨g1, g2⟩ := rowsOf_row _ _ _ ho
  have g3 : ∀ x ∈ out, x ∈ r := fun x hx => (lsOf_mem hr x).mp (g2 x hx)
  have hsub : ∀ {t : List Int}, t.length = o → (∀ x ∈ t, x ∈ r) → t ∈ rowsOf (lets 2) o := fun h1 h2 => mem_rowsOf h1 fun x hx => hrow.2 x (h2 x hx)
  obtain ⟨⟨t, pt, ht⟩, hmin⟩ := dstR_is g1 g3
  have tl := pth_len_back pt g1 o0
  rcases chk4 n6 n0 hr with ⟨hm, hls⟩ | ⟨hm, hls⟩
  · have hc : 1 ≤ chg (hd0 r) r := by have := chg_self n6 n0 hr; omega
    have low : ∀ (k : Nat) (t out : List Int), Pth o k t out → t ∈ rowsOf (lets 2) o → thin r t = true → (out ∈ rowsOf (lets 2) o) ∧ (chg (hd0 r) out + 1 - chg (hd0 r) r) / 2 ≤ k := by
      intro k
      induction k with
      | zero =>
        intro t out e hin hth
        cases e
        refine ⟨hin, ?_⟩
        rw [thin_chg (lets2_two hr) (lets2_two hin) hne, decide_eq_true_eq] at hth
        omega
      | succ k ih =>
        intro t out ⟨u, p, e⟩ hin hth
        obtain ⟨h1, h2⟩ := ih t u p hin hth
        have h3 := chk1 o6 h1 (hd0_two n0 hr) e
        refine ⟨mem_rowsOf (e.len (rowsOf_row _ _ _ h1).1) fun x hx => (rowsOf_row _ _ _ h1).2 x (e.mem hx), ?_⟩
        omega
    have up : ∀ (k : Nat) (out : List Int), out ∈ rowsOf (lets 2) o → (chg (hd0 r) out + 1 - chg (hd0 r) r) / 2 ≤ k → ∃ t j, j ≤ k ∧ Pth o j t out ∧ t.length = o ∧ thin r t = true := by
      intro k
      induction k with
      | zero =>
        intro out hin hk
        refine ⟨out, 0, Nat.le_refl _, rfl, (rowsOf_row _ _ _ hin).1, ?_⟩
        rw [thin_chg (lets2_two hr) (lets2_two hin) hne, decide_eq_true_eq]
        omega
      | succ k ih =>
        intro out hin hk
        by_cases h0 : (chg (hd0 r) out + 1 - chg (hd0 r) r) / 2 = 0
        · obtain ⟨t, j, j1, j2, j3, j4⟩ := ih out hin (by omega)
          exact ⟨t, j, by omega, j2, j3, j4⟩
        · obtain ⟨u, e, hu⟩ := chk2 o6 hin (hd0_two n0 hr) (by omega)
          have hl := (rowsOf_row _ _ _ hin).1
          obtain ⟨t, j, j1, j2, j3, j4⟩ := ih u (mem_rowsOf (e.len hl) fun x hx => (rowsOf_row _ _ _ hin).2 x (e.mem hx)) (by omega)
          exact ⟨t, j + 1, by omega, ⟨u, j2, e.symm hl⟩, j3, j4⟩
    rw [hls] at ho
    rw [need_chg n6 n0 o6 o0 hr ho hm]
    have h1 := (low _ t out pt (hsub tl fun x hx => g3 x ((pt.symm tl).mem hx)) ht).2
    obtain ⟨t', j, j1, j2, j3, j4⟩ := up _ out ho (Nat.le_refl _)
    have h2 := hmin j t' j2 j3 j4
    omega
  · have hn : needN r out = 0 := by
      unfold needN needI
      rw [if_pos hm]
      rfl
    have hall : ∀ x ∈ out, x = hd0 r := fun x hx => by
      have := g2 x hx
      rw [hls] at this
      exact List.mem_singleton.mp this
    have hz : chg (hd0 r) out = 0 := by
      clear g1 g2 ho pt hmin g3 hn hsub
      induction out with
      | nil => rfl
      | cons y o' ih =>
        rw [chg, if_pos (hall y List.mem_cons_self), hall y List.mem_cons_self, ih fun x hx => hall x (List.mem_cons_of_mem _ hx)]
    have hth : thin r out = true := by
      rw [thin_chg (lets2_two hr) (lets2_two (hsub g1 g3)) hne, hz]
      exact decide_eq_true (Nat.zero_le _)
    have := hmin 0 out rfl g1 hth
    omega
theorem can_filter {n o : Nat} (n6 : n ≤ 6) (n0 : 1 ≤ n) (o6 : o ≤ 6) (o0 : 1 ≤ o) {r : List Int} (hr : r ∈ rowsOf (lets 2) n) : (rowsOf (lets 2) o).filter (canF r) = rowsOf (lsOf 2 r) o := by
  rcases chk4 n6 n0 hr with ⟨hm, hls⟩ | ⟨hm, hls⟩
  · rw [hls, List.filter_eq_self]
    intro out _
    unfold canF
    rw [decide_eq_true hm, Bool.true_or]
  · have h1 := of_decide_eq_true (List.all_eq_true.mp (List.all_eq_true.mp chk_one o (List.mem_range.mpr (by omega))) (hd0 r) (two_mem (hd0_two n0 hr)))
    rw [hls, ← h1]
    refine List.filter_congr fun out _ => ?_
    unfold canF
    rw [decide_eq_false (by omega : ¬ 0 < manyI r), decide_eq_false (by omega : ¬ o = 0)]
theorem foldl_far {r : List Int} : ∀ (os : List (List Int)) (b : B3), os.foldl (farSt r) b = (os.filter (canF r)).foldl (dueSt (needN r) r) b
  | [], _ => rfl
  | o :: os, b => by
    rw [List.foldl_cons, foldl_far os]
    unfold farSt
    cases hc : canF r o with
    | false =>
      rw [List.filter_cons_of_neg (by rw [hc]; exact Bool.false_ne_true), Bool.false_and, if_neg Bool.false_ne_true]
    | true =>
      rw [List.filter_cons_of_pos hc, Bool.true_and, List.foldl_cons]
      rfl
theorem far_two {n o : Nat} (n6 : n ≤ 6) (n0 : 1 ≤ n) (o6 : o ≤ 6) (o0 : 1 ≤ o) : farF n o = farR (mxR 2 o) (boR 2 o) (rowsOf (lets 2) n) := by
  unfold farF farR
  refine foldl_ext fun b r hr => ?_
  rw [← due_far hr n0, foldl_far, can_filter n6 n0 o6 o0 hr]
  refine foldl_ext fun b out ho => ?_
  unfold dueSt
  rw [dst_two n6 n0 o6 o0 hr ho]
theorem far_at2 {n o : Nat} (n6 : n ≤ 6) (n0 : 1 ≤ n) (o6 : o ≤ 6) (o0 : 1 ≤ o) : ∀ r ∈ rowsOf (lets 2) n, ∃ ls dst, FarAt r ls o dst (mxR 2 o r) (boR 2 o r) := fun r hr => by
  have : 2 ^ o ≤ 2 ^ 6 := Nat.pow_le_pow_right (by decide) o6
  exact ⟨_, _, far_at hr n0 (by omega) o0 (by omega) (by omega) (by omega)⟩
end Fy
end
section
set_option linter.all false
set_option maxRecDepth 100000
set_option maxHeartbeats 4000000
namespace Fy
open PySem PySem.Spec PyProof.Rows L2
local macro_rules | `(tactic| walk_at "fy op") => `(tactic| first
  | exact f2_add | exact f2_sub | exact f2_cat (by first | assumption | omega | (simp only [List.length_append, cutD_len] <;> omega)) | exact f2_and | exact f2_mod (by omega) | exact f2_fdiv ⟨by omega, by omega⟩ | exact f2_mul (by unfold CMul; omega))
local macro_rules | `(tactic| walk_at "fy cmp") => `(tactic| first
  | exact f2_lt | exact f2_le | exact f2_gt | exact f2_ge | exact f2_eqI | exact f2_neI | exact f2_eqS | exact f2_isN | exact f2_notN)
local macro_rules | `(tactic| walk_at "fy ix") => `(tactic| first
  | exact ix2_T (by first | assumption | rfl) | exact ix2_L (by assumption) (by assumption))
local macro_rules | `(tactic| walk_at "fy wk") => `(tactic| repeat' (first | exact Paired.nil | exact True.intro | rfl | apply Paired.cons))
variable {T : Tx} {C : Addr} {X : Cx} {h : HD}
theorem NetAt.hand {h : HD} {px pc x : Addr} {q m : Nat} {ss : List Stp} (n : NetAt C h x q m ss) (hA : HandAt h px pc) (o : DO) : NetAt C (updD h px o) x q m ss := by
  obtain ⟨oth, os, e1, e2, p⟩ := n
  obtain ⟨_, o0, e0, i, g, s, k, rfl, _⟩ := hA
  have nx : x ≠ px := neD e1 e0 (fun z => nomatch z)
  have no : oth ≠ px := by
    rintro rfl
    rw [e2] at e0
    cases e0
    cases p with
    | cons p1 p2 => cases p2 with
      | @cons s' _ _ _ p3 p4 => cases s' with
        | cho _ _ _ _ _ => obtain ⟨r, hr, _⟩ := p3; cases hr
        | dbl _ => cases p3
        | strk _ => cases p3
        | fly _ _ _ => cases p3
  refine ⟨oth, os, by rw [updD_ne nx]; exact e1, by rw [updD_ne no]; exact e2, Paired.mapP p fun _ _ z => z.keep fun r kvs e => ?_⟩
  rw [updD_ne (neD e e0 (fun z => nomatch z))]
  exact e
/-- what the law has made when its rows stand -/
structure LawI (C : Addr) (q m : Nat) (ss : List Stp) (px pc ps x pr : Addr) (h : HD) : Prop where
  hA : HandAt h px pc
  n : NetAt C h x q m ss
  eps : h ps = some (.lst (ss.map stepD))
  epr : h pr = some (.lst ((rowsOf (lets q) m).map rowD))
  nps : ps ≠ px
  npr : pr ≠ px
theorem LawI.sub {h h' : HD} {q m : Nat} {ss : List Stp} {px pc ps x pr : Addr} (I : LawI C q m ss px pc ps x pr h) (s : Sub h h') : LawI C q m ss px pc ps x pr h' :=
  ⟨I.hA.sub s, I.n.sub s, s _ _ I.eps, s _ _ I.epr, I.nps, I.npr⟩
theorem LawI.upd {h : HD} {q m : Nat} {ss : List Stp} {px pc ps x pr : Addr} (I : LawI C q m ss px pc ps x pr h) {o : DO} (ho : HandO pc o) : LawI C q m ss px pc ps x pr (updD h px o) :=
  ⟨I.hA.upd ho, I.n.hand I.hA o, by rw [updD_ne I.nps]; exact I.eps, by rw [updD_ne I.npr]; exact I.epr, I.nps, I.npr⟩
structure LawK (q m : Nat) (ss : List Stp) : Prop where
  ok : NetOk q m ss
  q3 : q ≤ 3
  m4 : m ≤ 4
  l5 : lanesB m ss ≤ 5
  len : ss.length ≤ 12
theorem LawK.short {q m : Nat} {ss : List Stp} (k : LawK q m ss) : NetOk q m (shorts ss.length ss) ∧ shorts ss.length ss = stackL ss ∧ ∀ r ∈ rowsOf (lets q) m, outOf r ss = outOf r (shorts ss.length ss) := by
  have hc : cans q m (shorts ss.length ss) = true := (short_ok (row := List.replicate m 0) (List.length_replicate ..) _ ss k.ok.can).1
  refine ⟨⟨k.ok.q1, k.ok.q4, k.ok.m1, k.ok.m9, k.ok.qm, hc, fun s hs => k.ok.sm s (shorts_mem _ _ s hs), Nat.le_trans (shorts_len _ _) k.ok.len⟩, shorts_stack _ _ (Nat.le_refl _), fun r hr => (short_ok (rowsOf_row _ _ _ hr).1 _ ss k.ok.can).2.symm⟩
theorem law_s19 (G : Top T C) (c : LawCx X T) {px pc ps x pr : Addr} {q m : Nat} {ss : List Stp} {E : EndsD} {d14 : Option D} (I : LawI C q m ss px pc ps x pr h) (k : LawK q m ss) (hq : ∀ h', E.rt (.bl true) h') : LSs X (stGetN (defBody s_law) 19) [none, some (.ref px), some (.int (q : Nat)), some (.int (m : Nat)), some (.ref ps), some (.ref x), some (.ref pr), none, none, none, none, none, none, none, d14, none, none, none, none, none, none, none] h E := by
  have m1 := k.ok.m1
  refine lss_cons (ls_ifB (bb := decide ((16 : Int) < ((((rowsOf (lets q) m).map rowD).length : Nat) : Int))) (lb_cmp (lx_callB c (cb_lenL I.epr) (la_cons (lx_name c 6 rfl rfl rfl) la_nil) (by decide +kernel) G.b_len (by decide +kernel)) lx_int f2_gt) (fun _ => lss_one (ls_ret (lx_bl _ (hq _)))) (fun _ => lss_nil ?_))
  refine lss_wk (ρ' := [none, some (.ref px), some (.int (q : Nat)), some (.int (m : Nat)), none, none, some (.ref pr), none, none, none, none, none, none, none, none, none, none, none, none, none, none, none]) (by walk_at "fy wk") ?_
  exact law_s20 (x := x) (ps := ps) G c I.hA I.epr I.npr k.ok.q1 k.q3 k.ok.m1 k.m4 (fun o h1 h3 => ⟨_, _, _, _, far_law m1 k.m4 h1 h3 k.q3⟩) hq
theorem law_s18 (G : Top T C) (c : LawCx X T) {px pc ps x pr : Addr} {q m : Nat} {ss : List Stp} {E : EndsD} {d14 : Option D} (I : LawI C q m ss px pc ps x pr h) (k : LawK q m ss) (hq : ∀ h', E.rt (.bl true) h') : LSs X (stGetN (defBody s_law) 18) [none, some (.ref px), some (.int (q : Nat)), some (.int (m : Nat)), some (.ref ps), some (.ref x), some (.ref pr), none, none, none, none, none, none, none, d14, none, none, none, none, none, none, none] h E := by
  refine lss_cons (ls_if (lt_andE (lt_eqIE (n := 0) (le_draw (n := 6) G c (by decide) (by decide +kernel) (lx_name c 1 rfl rfl rfl) lx_int I.hA (by decide) (by decide) fun d1 o1 hd1 ho1 => ⟨_, rfl, fun _ => ?_, fun _ => ⟨fun z => (nomatch z), fun _ => lss_nil (law_s19 G c (I.upd ho1) k hq)⟩⟩) (fun _ => lx_int))))
  have I1 := I.upd ho1
  generalize updD h px o1 = h1 at I1
  refine lt_notE (lt_valE (le_call c (has_law_is_far_right G) (by decide) (by decide +kernel) (la_consE (le_addE lx_int (le_draw (n := 6) G c (by decide) (by decide +kernel) (lx_name c 1 rfl rfl rfl) lx_int I1.hA (by decide) (by decide) fun d2 o2 hd2 ho2 => ⟨_, rfl, ?_⟩)))))
  have I2 := I1.upd ho2
  generalize updD h1 px o2 = h2 at I2
  refine la_consE (le_addE lx_int (le_draw (n := 6) G c (by decide) (by decide +kernel) (lx_name c 1 rfl rfl rfl) lx_int I2.hA (by decide) (by decide) fun d3 o3 hd3 ho3 => ⟨_, rfl, la_nil _ ?_⟩))
  rw [show (1 : Int) + (d2 : Nat) = ((1 + d2 : Nat) : Int) by omega, show (1 : Int) + (d3 : Nat) = ((1 + d3 : Nat) : Int) by omega]
  exact ⟨1 + d2, 1 + d3, _, _, rfl, by omega, by omega, by omega, by omega, far_at2 (by omega) (by omega) (by omega) (by omega), far_two (by omega) (by omega) (by omega) (by omega), true, rfl, fun z => (nomatch z), fun _ => lss_nil (law_s19 G c (I2.upd ho3) k hq)⟩
theorem law_s17 (G : Top T C) (c : LawCx X T) {px pc ps x pr : Addr} {q m : Nat} {ss : List Stp} {E : EndsD} {d14 : Option D} (I : LawI C q m ss px pc ps x pr h) (k : LawK q m ss) (hq : ∀ h', E.rt (.bl true) h') : LSs X (stGetN (defBody s_law) 17) [none, some (.ref px), some (.int (q : Nat)), some (.int (m : Nat)), some (.ref ps), some (.ref x), some (.ref pr), none, none, none, none, none, none, none, d14, none, none, none, none, none, none, none] h E := by
  obtain ⟨okS, hst, hal⟩ := k.short
  obtain ⟨j, mx, hj, hmx, hno⟩ := first_max (ns := iN (behind m ss)) (List.length_pos_iff.mp (by unfold iN behind; rw [List.length_map, List.length_map, List.length_range]; omega))
  exact lss_cons (ls_ifB (bb := !true) (lb_not (lb_val (lx_call (z := .bl true) (h2 := h) c (has_law_sizes_right G) (by decide) (by decide +kernel) (la_cons (lx_name c 5 rfl rfl rfl) (la_cons (lx_name c 4 rfl rfl rfl) (la_cons (lx_name c 3 rfl rfl rfl) la_nil))) fun Q qq => ⟨x, ps, q, m, ss, mx, j, rfl, I.n, I.eps, k.ok, okS, hst, hal, hj, hmx, hno, qq⟩))) (fun z => nomatch z) (fun _ => lss_nil (law_s18 G c I k hq)))
theorem law_s15 (G : Top T C) (c : LawCx X T) {px pc ps x pr : Addr} {q m : Nat} {ss : List Stp} {E : EndsD} (I : LawI C q m ss px pc ps x pr h) (k : LawK q m ss) (hq : ∀ h', E.rt (.bl true) h') : LSs X (stGetN (defBody s_law) 15) [none, some (.ref px), some (.int (q : Nat)), some (.int (m : Nat)), some (.ref ps), some (.ref x), some (.ref pr), none, none, none, none, none, none, none, none, none, none, none, none, none, none, none] h E := by
  refine lss_cons (ls_set c 14 rfl rfl (le_call c (has_tidied G) (by decide) (by decide +kernel) ((la_cons (lx_name c 5 rfl rfl rfl) la_nil) _ ⟨x, q, m, ss, rfl, I.n, k.ok, fun y h' ss' sb ny oky hlen hout hneed => ?_⟩)))
  have I' := I.sub sb
  obtain ⟨oth5, e5⟩ := ny.fld
  refine lss_cons (ls_ifB (bb := false || (false || false)) (lb_w (lw_or (b1 := false) (lb_cmp (lx_call (z := .non) (h2 := h') c (has_alike G) (by decide) (by decide +kernel) (la_cons (lx_name c 5 rfl rfl rfl) (la_cons (lx_name c 14 rfl rfl rfl) la_nil)) fun Q qq => ⟨x, y, q, m, ss, ss', rfl, I'.n, ny, k.ok, oky, hout, qq⟩) lx_non f2_notN) (fun _ => lw_or (b1 := false) (lb_eq (lb_cmp (lx_call (z := .tup (natsD (needL q m ss'))) (h2 := h') c (has_needless G) (by decide) (by decide +kernel) (la_cons (lx_name c 14 rfl rfl rfl) la_nil) fun Q qq => ⟨y, q, m, ss', rfl, ny, oky, qq⟩) (lx_tup la_nil) (f2_neD c (by rw [hneed]; rfl) rfl)) (by rw [hneed]; rfl)) (fun _ => lw_or1 (lb_eq (lb_cmp (lx_callB c cb_lenT (la_cons (lx_meth0 (z := .tup (ss'.map stepD)) (h2 := h') c (has_steps G) (by decide) (lx_name c 14 rfl rfl rfl) e5 G.cl rfl (fun Q qq => ⟨y, q, m, ss', rfl, ny, qq⟩)) la_nil) (by decide +kernel) G.b_len (by decide +kernel)) (lx_callB c (cb_lenL I'.eps) (la_cons (lx_name c 4 rfl rfl rfl) la_nil) (by decide +kernel) G.b_len (by decide +kernel)) f2_gt) (decide_eq_false (by rw [List.length_map, List.length_map]; omega)))) (fun _ => rfl)) (fun _ => rfl))) (fun z => nomatch z) (fun _ => lss_nil ?_))
  exact law_s17 (d14 := some (.ref y)) G c I' k hq
end Fy
end
section
set_option linter.all false
set_option maxRecDepth 100000
set_option maxHeartbeats 4000000
namespace Fy
open PySem PySem.Spec PyProof.Rows L2
local macro_rules | `(tactic| walk_at "fy op") => `(tactic| first
  | exact f2_add | exact f2_sub | exact f2_cat (by first | assumption | omega | (simp only [List.length_append, cutD_len] <;> omega)) | exact f2_and | exact f2_mod (by omega) | exact f2_fdiv ⟨by omega, by omega⟩ | exact f2_mul (by unfold CMul; omega))
local macro_rules | `(tactic| walk_at "fy cmp") => `(tactic| first
  | exact f2_lt | exact f2_le | exact f2_gt | exact f2_ge | exact f2_eqI | exact f2_neI | exact f2_eqS | exact f2_isN | exact f2_notN)
local macro_rules | `(tactic| walk_at "fy ix") => `(tactic| first
  | exact ix2_T (by first | assumption | rfl) | exact ix2_L (by assumption) (by assumption))
local macro_rules | `(tactic| walk_at "fy wk") => `(tactic| repeat' (first | exact Paired.nil | exact True.intro | rfl | apply Paired.cons))
variable {T : Tx} {C : Addr} {X : Cx} {h : HD}
/-- the lists of the lanes that were met -/
structure KnI (pk : Addr) (ks : List Addr) (S : Nat → List Nat) (hh : HD) : Prop where
  f : hh pk = some (.lst (ks.map .ref))
  k : ∀ (l : Nat) a, ks[l]? = some a → hh a = some (.lst (natsD (S l)))
theorem KnI.congr {pk : Addr} {ks : List Addr} {S S' : Nat → List Nat} {hh : HD} (I : KnI pk ks S hh) (e : ∀ l, l < ks.length → S l = S' l) : KnI pk ks S' hh :=
  ⟨I.f, fun l a ha => by rw [← e l (List.getElem?_eq_some_iff.mp ha).1]; exact I.k l a ha⟩
theorem KnI.sub {pk : Addr} {ks : List Addr} {S : Nat → List Nat} {hh h' : HD} (I : KnI pk ks S hh) (s : Sub hh h') : KnI pk ks S h' :=
  ⟨s _ _ I.f, fun l a ha => s _ _ (I.k l a ha)⟩
theorem KnI.upd {pk p : Addr} {ks : List Addr} {S : Nat → List Nat} {hh : HD} (I : KnI pk ks S hh) (n1 : pk ≠ p) (n2 : p ∉ ks) (o : DO) : KnI pk ks S (updD hh p o) :=
  ⟨by rw [updD_ne n1]; exact I.f, fun l a ha => by rw [updD_ne (fun z => n2 (by rw [← z]; exact List.mem_of_getElem? ha))]; exact I.k l a ha⟩
theorem KnI.put {pk : Addr} {ks : List Addr} {S : Nat → List Nat} {hh : HD} (I : KnI pk ks S hh) (nd : ks.Nodup) (n1 : pk ∉ ks) {l : Nat} {a : Addr} (ha : ks[l]? = some a) (L : List Nat) : KnI pk ks (fun l' => if l' = l then L else S l') (updD hh a (.lst (natsD L))) := by
  refine ⟨by rw [updD_ne (fun z => n1 (by rw [z]; exact List.mem_of_getElem? ha))]; exact I.f, fun l' b hb => ?_⟩
  by_cases hl : l' = l
  · subst hl
    rw [ha] at hb
    cases hb
    rw [if_pos rfl]
    exact updD_same
  · have hab : b ≠ a := fun z => by
      subst z
      obtain ⟨x1, y1⟩ := List.getElem?_eq_some_iff.mp ha
      obtain ⟨x2, y2⟩ := List.getElem?_eq_some_iff.mp hb
      exact hl ((List.getElem_inj nd).mp (y2.trans y1.symm))
    show updD _ _ _ _ = _
    rw [if_neg hl, updD_ne hab]
    exact I.k l' b hb
theorem bestD_ok (b : Option (Nat × List Int)) : (bestD b).ok = true := by
  cases b with
  | none => rfl
  | some p =>
    refine ok_tup (m := 1) (fun d hd => ?_) (fun d hd => ?_) (by decide)
    · rcases List.mem_cons.mp hd with rfl | hd
      · rfl
      · rw [List.mem_singleton.mp hd]; exact row_pure _
    · rcases List.mem_cons.mp hd with rfl | hd
      · exact Nat.zero_le _
      · rw [List.mem_singleton.mp hd]; exact row_depth _
theorem cols_ok (ss : List Stp) (rs : List (List Int)) (n : Nat) : (D.tup (colsD ss rs n)).ok = true := by
  refine ok_tup (m := 1) (fun d hd => ?_) (fun d hd => ?_) (by decide)
  · obtain ⟨l, _, rfl⟩ := List.mem_map.mp hd
    exact row_pure _
  · obtain ⟨l, _, rfl⟩ := List.mem_map.mp hd
    exact row_depth _
theorem pures_of_ok {ds : List D} (h : (D.tup ds).ok = true) : D.pures ds = true := by
  unfold D.ok at h
  rw [Bool.and_eq_true] at h
  exact h.1
theorem bestR_in {f : List Int → Nat} : ∀ (rs : List (List Int)) (b : Option (Nat × List Int)), (∀ p, b = some p → ∃ r, p.1 = f r ∧ r ∈ p.2 :: rs ∧ r = p.2) → True := fun _ _ _ => trivial
theorem bestR_some {f : List Int → Nat} {rs0 : List (List Int)} : ∀ (rs : List (List Int)) (b : Option (Nat × List Int)), (∀ r ∈ rs, r ∈ rs0) → (∀ p, b = some p → p.2 ∈ rs0 ∧ p.1 = f p.2) → ∀ p, rs.foldl (bestS f) b = some p → p.2 ∈ rs0 ∧ p.1 = f p.2
  | [], b, _, hb, p, h => hb p h
  | r :: rs, b, hs, hb, p, h => by
    refine bestR_some rs (bestS f b r) (fun z hz => hs z (List.mem_cons_of_mem _ hz)) (fun p' hp' => ?_) p h
    unfold bestS at hp'
    cases b with
    | none => cases hp'; exact ⟨hs _ List.mem_cons_self, rfl⟩
    | some t =>
      dsimp only at hp'
      split at hp'
      · cases hp'; exact ⟨hs _ List.mem_cons_self, rfl⟩
      · cases hp'; exact hb _ rfl
theorem bestS_isSome {f : List Int → Nat} {b : Option (Nat × List Int)} {r : List Int} : (bestS f b r).isSome = true := by
  unfold bestS
  cases b with
  | none => rfl
  | some t => dsimp only; split <;> rfl
theorem bestR_ne {f : List Int → Nat} : ∀ {rs : List (List Int)} {b : Option (Nat × List Int)}, (rs ≠ [] ∨ b.isSome = true) → (rs.foldl (bestS f) b).isSome = true
  | [], b, h => h.elim (fun z => absurd rfl z) id
  | r :: rs, b, _ => bestR_ne (rs := rs) (b := bestS f b r) (Or.inr bestS_isSome)
abbrev knOf (kn : List Int → Nat) (ss : List Stp) (r : List Int) : Nat := kn (iN (srcs r ss))
/-- the knots' numbers, and the dict that has those of all rows -/
structure NumI (kn : List Int → Nat) (q m : Nat) (ss : List Stp) (pn : Addr) (W : BW) (h : HD) : Prop where
  u : ∀ r ∈ rowsOf (lets q) m, UnkAt (iN (srcs r ss)) (knOf kn ss r)
  w : h pn = some (.dT (WD W))
  g : ∀ r ∈ rowsOf (lets q) m, bGet W (iN (srcs r ss)) = some (knOf kn ss r)
theorem law_s13 (G : Top T C) (c : LawCx X T) {px pc ps x pr pk pn : Addr} {ks : List Addr} {q m : Nat} {ss : List Stp} {kn : List Int → Nat} {W : BW} {r : List Int} {E : EndsD} {d7 d10 d13 : Option D} (I : LawI C q m ss px pc ps x pr h) (k : LawK q m ss)
    (Nu : NumI kn q m ss pn W h) (Kn : KnI pk ks (colS ss (rowsOf (lets q) m)) h) (hks : ks.length = lanesB m ss) (hr : r ∈ rowsOf (lets q) m) (hq : ∀ h', E.rt (.bl true) h') : LSs X (stGetN (defBody s_law) 13) [none, some (.ref px), some (.int (q : Nat)), some (.int (m : Nat)), some (.ref ps), some (.ref x), some (.ref pr), d7, none, some (rowD r), d10, some (.ref pk), some (.ref pn), d13, none, none, none, none, none, none, none, none] h E := by
  have l5 := k.l5
  have hm9 := k.ok.m9
  have hro := rows_ok hr
  have gk : DGD h pn (rowT (iN (srcs r ss))) (some (.int (knOf kn ss r : Nat))) := by
    have := DGD.ofT (ks := rowK (iN (srcs r ss))) Nu.w
    rw [valD_WD, Nu.g r hr] at this
    exact this
  have hc : cans q r.length ss = true := by rw [hro.1]; exact k.ok.can
  have hrl1 : r.length = m := hro.1
  have m1 := k.ok.m1
  refine lss_cons (ls_ifB (bb := !decide (((knOf kn ss r : Nat) : Int) = (knOf kn ss r : Nat))) (lb_cmp (lx_call (z := .int (knOf kn ss r : Nat)) (h2 := h) c (has_knot_number G) (by decide) (by decide +kernel) (la_cons (lx_name c 5 rfl rfl rfl) (la_cons (lx_name c 9 rfl rfl rfl) la_nil)) fun Q qq => ⟨x, q, m, ss, r, _, rfl, I.n, k.ok, hro, by omega, Nu.u r hr, qq⟩) (lx_dget c (lx_name c 12 rfl rfl rfl) (lx_eq (lx_call (z := rowD (iN (srcs r ss))) (h2 := h) c (has_law_came G) (by decide) (by decide +kernel) (la_cons (lx_name c 4 rfl rfl rfl) (la_cons (lx_name c 9 rfl rfl rfl) la_nil)) fun Q qq => ⟨ps, r, ss, q, rfl, I.eps, hc, by omega, by omega, qq⟩) (rowT_eq _).symm) gk) f2_neI) (fun hb => ?_) (fun _ => lss_nil ?_))
  · rw [decide_eq_true rfl] at hb
    cases hb
  have hsl : ∀ r ∈ rowsOf (lets q) m, (srcs r ss).length = lanesB m ss := fun r hr => by
    have h1 := (rows_ok hr).1
    have h2 := srcs_len (row := r) (ss := ss) (q := q) (by rw [h1]; exact k.ok.can)
    rw [h1] at h2
    exact h2
  refine lss_cons (ls_ifB (bb := !D.eqbs (colsD ss (rowsOf (lets q) m) (lanesB m ss)) (colsD ss (rowsOf (lets q) m) (lanesB m ss))) (lb_neLs c (le_call c (has_sources_of G) (by decide) (by decide +kernel) ((la_cons (lx_name c 5 rfl rfl rfl) la_nil) _ ⟨x, q, m, ss, rfl, I.n, k.ok, fun p hp => (ll_comp c (own := [("_law_some", 21)]) (rs := colsD ss (rowsOf (lets q) m) (lanesB m ss)) (ds := ks.map .ref) (by decide +kernel) (is := [21]) (by simp) (fun d => [none, some (.ref px), some (.int (q : Nat)), some (.int (m : Nat)), some (.ref ps), some (.ref x), some (.ref pr), d7, none, some (rowD r), d10, some (.ref pk), some (.ref pn), d13, none, none, none, none, none, none, none, some d]) (fun R kk => li_list (lx_name c 11 rfl rfl rfl) ((Sub.new hp) _ _ Kn.f) (kk _ _ (Sub.refl _) fun p3 acc hp3 => by rw [updD_ne (neN ((Sub.new hp) _ _ Kn.f) hp3)]; exact (Sub.new hp) _ _ Kn.f)) ?_ ?_ (fun i d hd X' b => lg_name (blk_ctx c b rfl rfl) 21 rfl rfl rfl) (fun i d d' hh hd hd' sb' X' b => ?_)) _ fun p' hp' => ⟨p, p', rfl, rfl, (Sub.new hp).trans (Sub.new hp'), (Sub.new hp') _ _ updD_same, updD_same⟩⟩)) (cols_ok _ _ _) (cols_ok _ _ _)) (fun hb => ?_) (fun _ => lss_nil ?_))
  · unfold colsD
    rw [List.length_map, List.length_map, List.length_range, hks]
  · rw [List.length_map]
    omega
  · obtain ⟨a, ha, rfl⟩ := map_get hd
    unfold colsD at hd'
    obtain ⟨l, hl4, rfl⟩ := map_get hd'
    have hil : i < lanesB m ss := by
      have := (List.getElem?_eq_some_iff.mp ha).1
      omega
    rw [List.getElem?_range hil] at hl4
    cases hl4
    have hk := sb' _ _ ((Sub.new hp) _ _ (Kn.k i a ha))
    rw [natsD_ints] at hk
    exact lx_callTyL (blk_ctx c b rfl rfl) (fun p hp => cb_tupL updD_same) (ll_sorted (ns := iN (colS ss (rowsOf (lets q) m) i)) (blk_ctx c b rfl rfl) (lx_name (blk_ctx c b rfl rfl) 21 rfl rfl rfl) hk (fun ns' h1 h2 => by rw [srt_uniq h1 h2]) (by decide +kernel) G.b_sorted) (by decide +kernel) G.b_tuple (by decide +kernel)
  · rw [eqbs_refl (pures_of_ok (cols_ok _ _ _))] at hb
    cases hb
  refine lss_wk (ρ' := [none, some (.ref px), some (.int (q : Nat)), some (.int (m : Nat)), some (.ref ps), some (.ref x), some (.ref pr), none, none, none, none, none, none, none, none, none, none, none, none, none, none, none]) (by walk_at "fy wk") ?_
  exact law_s15 G c I k hq
theorem law_s11 (G : Top T C) (c : LawCx X T) {px pc ps x pr pk pn : Addr} {ks : List Addr} {q m : Nat} {ss : List Stp} {kn : List Int → Nat} {W : BW} {E : EndsD} {d7 d9 d13 : Option D} (I : LawI C q m ss px pc ps x pr h) (k : LawK q m ss)
    (Nu : NumI kn q m ss pn W h) (Kn : KnI pk ks (colS ss (rowsOf (lets q) m)) h) (hks : ks.length = lanesB m ss) (npk : pk ≠ px) (nks : px ∉ ks) (hq : ∀ h', E.rt (.bl true) h') : LSs X (stGetN (defBody s_law) 11) [none, some (.ref px), some (.int (q : Nat)), some (.int (m : Nat)), some (.ref ps), some (.ref x), some (.ref pr), d7, none, d9, some (bestD (bestR (knOf kn ss) (rowsOf (lets q) m))), some (.ref pk), some (.ref pn), d13, none, none, none, none, none, none, none, none] h E := by
  have l5 := k.l5
  obtain ⟨oth, e1⟩ := I.n.fld
  have hne : rowsOf (lets q) m ≠ [] := List.length_pos_iff.mp (by rw [rowsOf_len, lets_len]; exact Nat.pow_pos k.ok.q1)
  have hlen := rows_len_le k.ok
  have hsm := bestR_ne (f := knOf kn ss) (rs := rowsOf (lets q) m) (b := none) (Or.inl hne)
  obtain ⟨p, hp⟩ := Option.isSome_iff_exists.mp hsm
  obtain ⟨g1, g2⟩ := bestR_some (f := knOf kn ss) (rowsOf (lets q) m) none (fun r hr => hr) (fun p hp => by cases hp) p hp
  have hb : bestR (knOf kn ss) (rowsOf (lets q) m) = some p := hp
  have hfl : p.1 ≤ flies ss := by
    rw [g2]
    exact knot_flies (q := q) (row := p.2) (by rw [(rows_ok g1).1]; exact k.ok.can) (Nu.u p.2 g1)
  have hbd : bestD (bestR (knOf kn ss) (rowsOf (lets q) m)) = .tup [.int (p.1 : Nat), rowD p.2] := by rw [hb]; rfl
  have okb := bestD_ok (bestR (knOf kn ss) (rowsOf (lets q) m))
  rw [hbd] at okb ⊢
  refine lss_cons (ls_ifB (bb := false || false) (lb_w (lw_or (b1 := false) (lb_eq (lb_cmp (lx_call (z := .tup [.int (p.1 : Nat), rowD p.2]) (h2 := h) c (has_knotted G) (by decide) (by decide +kernel) (la_cons (lx_name c 5 rfl rfl rfl) la_nil) fun Q qq => ⟨x, q, m, ss, kn, rfl, I.n, k.ok, by omega, Nu.u, by rw [show (fun r => kn (iN (srcs r ss))) = knOf kn ss from rfl, hbd]; exact qq⟩) (lx_name c 10 rfl rfl rfl) (f2_neD c okb okb)) (by rw [eqb_ok okb]; rfl)) (fun _ => lw_or1 (lb_eq (lb_cmp (lx_ix (lx_name c 10 rfl rfl rfl) lx_int (ix2_T (z := .int (p.1 : Nat)) rfl)) (lx_meth0 (z := .int (flies ss : Nat)) (h2 := h) c (has_flyovers G) (by decide) (lx_name c 5 rfl rfl rfl) e1 G.cl rfl (fun Q qq => ⟨x, q, m, ss, rfl, I.n, k.ok.len, qq⟩)) f2_gt) (decide_eq_false (by omega)))) (fun _ => rfl))) (fun z => nomatch z) (fun _ => lss_nil ?_))
  refine lss_cons (ls_set c 9 rfl rfl (le_ixLE (lx_name c 6 rfl rfl rfl) (le_draw (n := ((rowsOf (lets q) m).map rowD).length) G c (by decide) (by decide +kernel) (lx_name c 1 rfl rfl rfl) (lx_callB c (cb_lenL I.epr) (la_cons (lx_name c 6 rfl rfl rfl) la_nil) (by decide +kernel) G.b_len (by decide +kernel)) I.hA (by rw [List.length_map]; exact List.length_pos_iff.mpr hne) (by rw [List.length_map]; omega) fun d o hd ho => ?_)))
  have hdl : d < (rowsOf (lets q) m).length := by rwa [List.length_map] at hd
  have I' := I.upd ho
  have npn : pn ≠ px := by
    obtain ⟨_, o0, e0, i, g, s, k', rfl, _⟩ := I.hA
    exact neD Nu.w e0 (fun z => nomatch z)
  refine ⟨_, rowD (rowsOf (lets q) m)[d], _, rfl, I'.epr, atI_nat' (by omega) (by rw [Int.toNat_natCast, List.getElem?_map, List.getElem?_eq_getElem hdl]; rfl), ?_⟩
  exact law_s13 G c I' k ⟨Nu.u, by rw [updD_ne npn]; exact Nu.w, Nu.g⟩ (Kn.upd npk nks o) hks (List.getElem_mem hdl) hq
end Fy
end
section
set_option linter.all false
set_option maxRecDepth 100000
set_option maxHeartbeats 4000000
namespace Fy
open PySem PySem.Spec PyProof.Rows L2
local macro_rules | `(tactic| walk_at "fy op") => `(tactic| first
  | exact f2_add | exact f2_sub | exact f2_cat (by first | assumption | omega | (simp only [List.length_append, cutD_len] <;> omega)) | exact f2_and | exact f2_mod (by omega) | exact f2_fdiv ⟨by omega, by omega⟩ | exact f2_mul (by unfold CMul; omega))
local macro_rules | `(tactic| walk_at "fy cmp") => `(tactic| first
  | exact f2_lt | exact f2_le | exact f2_gt | exact f2_ge | exact f2_eqI | exact f2_neI | exact f2_eqS | exact f2_isN | exact f2_notN)
local macro_rules | `(tactic| walk_at "fy ix") => `(tactic| first
  | exact ix2_T (by first | assumption | rfl) | exact ix2_L (by assumption) (by assumption))
local macro_rules | `(tactic| walk_at "fy wk") => `(tactic| repeat' (first | exact Paired.nil | exact True.intro | rfl | apply Paired.cons))
variable {T : Tx} {C : Addr} {X : Cx} {h : HD}
theorem mem_iN {s : Nat} {L : List Nat} : ((s : Int) ∈ iN L) ↔ s ∈ L := by
  unfold iN
  rw [List.mem_map]
  exact ⟨fun ⟨a, h1, h2⟩ => by rw [← Int.ofNat.inj h2]; exact h1, fun h => ⟨s, h, rfl⟩⟩
theorem law_s10 (G : Top T C) (c : LawCx X T) {px pc ps x pr pk pn : Addr} {ks : List Addr} {q m : Nat} {ss : List Stp} {kn : List Int → Nat} {h2 : HD} {E : EndsD} (I : LawI C q m ss px pc ps x pr h) (k : LawK q m ss)
    (hu : ∀ r ∈ rowsOf (lets q) m, UnkAt (iN (srcs r ss)) (knOf kn ss r)) (sb0 : Sub h h2) (hpn : h pn = none) (hpk : h pk = none) (hks0 : ∀ a ∈ ks, h a = none) (e2 : h2 pn = some (.dT [])) (Kn : KnI pk ks (fun _ => []) h2) (nd : ks.Nodup) (nk : pk ∉ ks) (nn1 : pk ≠ pn) (nn2 : pn ∉ ks) (hks : ks.length = lanesB m ss) (hq : ∀ h', E.rt (.bl true) h') : LSs X (stGetN (defBody s_law) 10) [none, some (.ref px), some (.int (q : Nat)), some (.int (m : Nat)), some (.ref ps), some (.ref x), some (.ref pr), none, none, none, some .non, some (.ref pk), some (.ref pn), none, none, none, none, none, none, none, none, none] h2 E := by
  have l5 := k.l5
  have hm9 := k.ok.m9
  have m1 := k.ok.m1
  have hrl := rows_len_le k.ok
  have hsl : ∀ r ∈ rowsOf (lets q) m, (srcs r ss).length = lanesB m ss := fun r hr => by
    have h1 := (rows_ok hr).1
    have h2 := srcs_len (row := r) (ss := ss) (q := q) (by rw [h1]; exact k.ok.can)
    rw [h1] at h2
    exact h2
  refine lss_cons (ls_for c (li_list (lx_name c 6 rfl rfl rfl) (sb0 _ _ I.epr) ⟨fun i ρ hh => ρ = [none, some (.ref px), some (.int (q : Nat)), some (.int (m : Nat)), some (.ref ps), some (.ref x), some (.ref pr), none, none, none, some (bestD (bestR (knOf kn ss) ((rowsOf (lets q) m).take i))), some (.ref pk), some (.ref pn), none, none, none, none, none, none, none, none, none] ∧ Sub h hh ∧ (∃ W : BW, hh pn = some (.dT (WD W)) ∧ (∀ p ∈ W, p.2 = kn p.1) ∧ W.length ≤ i ∧ ∀ r ∈ (rowsOf (lets q) m).take i, bGet W (iN (srcs r ss)) = some (knOf kn ss r)) ∧ KnI pk ks (colS ss ((rowsOf (lets q) m).take i)) hh, ⟨rfl, sb0, ⟨[], e2, (fun p hp => nomatch hp), Nat.le_refl _, fun r hr => by rw [List.take_zero] at hr; cases hr⟩, Kn⟩, fun i ρ hh hP => hP.2.1 _ _ I.epr, ?_, ?_⟩))
  · rintro i d ρ1 hh hd ⟨rfl, sb, ⟨W, eW, hW, hWl, hWg⟩, J⟩
    obtain ⟨r, hr, rfl⟩ := map_get hd
    have hrm := List.mem_of_getElem? hr
    have hi : i < (rowsOf (lets q) m).length := (List.getElem?_eq_some_iff.mp hr).1
    have hur := hu r hrm
    have hro := rows_ok hrm
    have hrl1 : r.length = m := hro.1
    have hSl := hsl r hrm
    have hc : cans q r.length ss = true := by rw [hro.1]; exact k.ok.can
    have htk : (rowsOf (lets q) m).take (i + 1) = (rowsOf (lets q) m).take i ++ [r] := take_snoc hr
    have hcl : ∀ l, l < lanesB m ss → (colS ss ((rowsOf (lets q) m).take i) l).length ≤ 12 := fun l hl2 => by
      obtain ⟨h1, h2⟩ := colS_ok (ss := ss) (m := m) (l := l) (rs := (rowsOf (lets q) m).take i) fun r' hr' => ⟨(rows_ok (List.mem_of_mem_take hr')).1, by rw [hsl r' (List.mem_of_mem_take hr')]; exact hl2⟩
      exact Nat.le_trans (nodup_lt m _ h1 h2) hm9
    have hcs : ∀ l, colS ss ((rowsOf (lets q) m).take (i + 1)) l = addN (colS ss ((rowsOf (lets q) m).take i) l) ((srcs r ss).getD l 0) := fun l => colS_succ hr l
    have hbs : bestR (knOf kn ss) ((rowsOf (lets q) m).take (i + 1)) = bestS (fun _ => kn (iN (srcs r ss))) (bestR (knOf kn ss) ((rowsOf (lets q) m).take i)) r := bestR_succ hr
    generalize colS ss ((rowsOf (lets q) m).take i) = Sc at J hcl hcs
    generalize bestR (knOf kn ss) ((rowsOf (lets q) m).take i) = bs at hbs
    obtain ⟨kk, hkk⟩ : ∃ kk, iN (srcs r ss) = kk := ⟨_, rfl⟩
    rw [hkk] at hbs
    unfold bestS at hbs
    dsimp only at hbs
    refine ⟨_, lg_name c 9 rfl rfl ?_⟩
    refine lss_cons (ls_set c 13 rfl rfl ((lx_eq (lx_call (z := rowD (iN (srcs r ss))) (h2 := hh) c (has_law_came G) (by decide) (by decide +kernel) (la_cons (lx_name c 4 rfl rfl rfl) (la_cons (lx_name c 9 rfl rfl rfl) la_nil)) fun Q qq => ⟨ps, r, ss, q, rfl, sb _ _ I.eps, hc, by omega, by omega, qq⟩) (show _ = rowT kk by rw [hkk, rowT_eq])) _ ?_))
    refine lss_cut (fun ρ' h' => ρ' = [none, some (.ref px), some (.int (q : Nat)), some (.int (m : Nat)), some (.ref ps), some (.ref x), some (.ref pr), none, none, some (rowD r), some (bestD bs), some (.ref pk), some (.ref pn), some (rowT kk), none, none, none, none, none, none, none, none] ∧ Sub h h' ∧ (∃ W : BW, h' pn = some (.dT (WD W)) ∧ (∀ p ∈ W, p.2 = kn p.1) ∧ W.length ≤ i + 1 ∧ (∀ r ∈ (rowsOf (lets q) m).take (i + 1), bGet W (iN (srcs r ss)) = some (knOf kn ss r)) ∧ bGet W kk = some (kn kk)) ∧ KnI pk ks Sc h') ?_ ?_
    · have hall : ∀ W' : BW, bGet W' kk = some (kn kk) → (∀ r ∈ (rowsOf (lets q) m).take i, bGet W' (iN (srcs r ss)) = some (knOf kn ss r)) → ∀ r ∈ (rowsOf (lets q) m).take (i + 1), bGet W' (iN (srcs r ss)) = some (knOf kn ss r) := fun W' h1 h2 r' hr' => by
        rw [htk] at hr'
        rcases List.mem_append.mp hr' with z | z
        · exact h2 r' z
        · rw [List.mem_singleton.mp z]
          show bGet W' (iN (srcs r ss)) = some (kn (iN (srcs r ss)))
          rw [hkk]
          exact h1
      refine ls_ifB (lb_dnotin c (lx_name c 13 rfl rfl rfl) (lx_name c 12 rfl rfl rfl) (DGD.ofT (ks := rowK kk) eW)) (fun hb => ?_) (fun hb => ?_)
      · rw [valD_WD, Bool.not_eq_true', Option.isSome_map] at hb
        have hb2 : bGet W kk = none := by
          cases hz : bGet W kk with
          | none => rfl
          | some z => rw [hz] at hb; cases hb
        refine lss_one (ls_dput (v := .int (kn kk : Nat)) c (lx_call (z := .int (kn kk : Nat)) (h2 := hh) c (has_law_unknotted G) (by decide) (by decide +kernel) (la_cons (lx_eq (lx_name c 13 rfl rfl rfl) (rowT_eq kk)) la_nil) fun Q qq => ⟨kk, kn kk, rfl, by rw [← hkk]; exact hur, qq⟩) (lx_name c 12 rfl rfl rfl) (lx_name c 13 rfl rfl rfl) (.inr ⟨_, rowK kk, eW, rfl, by unfold WD; rw [List.length_map]; omega, rfl⟩) ?_)
        rw [putD_WD (bGet_none.mp hb2)]
        have hnew : bGet (W ++ [(kk, kn kk)]) kk = some (kn kk) := by
          unfold bGet at hb2 ⊢
          rw [List.find?_append, Option.map_eq_none_iff.mp hb2]
          simp
        refine ⟨rfl, sb.put _ hpn, ⟨W ++ [(kk, kn kk)], updD_same, fun p hp => ?_, by rw [List.length_append]; exact Nat.succ_le_succ hWl, hall _ hnew fun r' hr' => bGet_app (hWg r' hr'), hnew⟩, J.upd nn1 nn2 _⟩
        rcases List.mem_append.mp hp with z | z
        · exact hW p z
        · rw [List.mem_singleton.mp z]
      · rw [valD_WD, Bool.not_eq_false', Option.isSome_map] at hb
        obtain ⟨z, hz⟩ := Option.isSome_iff_exists.mp hb
        have hz2 : bGet W kk = some (kn kk) := by
          rw [hz]
          unfold bGet at hz
          obtain ⟨p, hp, rfl⟩ := Option.map_eq_some_iff.mp hz
          have hq := List.find?_some hp
          rw [hW p (List.mem_of_find?_eq_some hp), of_decide_eq_true hq]
        exact lss_nil ⟨rfl, sb, ⟨W, eW, hW, by omega, hall _ hz2 hWg, hz2⟩, J⟩
    · rintro ρ' h3 ⟨rfl, sb', ⟨W', eW', hW', hl', hg', hgk⟩, J'⟩
      have gk : DGD h3 pn (rowT kk) (some (.int (kn kk : Nat))) := by
        have := DGD.ofT (ks := rowK kk) eW'
        rw [valD_WD, hgk] at this
        exact this
      refine lss_cut (fun ρ' h' => ρ' = [none, some (.ref px), some (.int (q : Nat)), some (.int (m : Nat)), some (.ref ps), some (.ref x), some (.ref pr), none, none, some (rowD r), some (bestD (bestR (knOf kn ss) ((rowsOf (lets q) m).take (i + 1)))), some (.ref pk), some (.ref pn), some (rowT kk), none, none, none, none, none, none, none, none] ∧ h' = h3) ?_ ?_
      · cases bs with
        | none =>
          refine ls_ifB (bb := true || false) (lb_w (lw_or (lb_cmp (lx_name c 10 rfl rfl rfl) lx_non f2_isN) (fun z => nomatch z) (fun _ => rfl))) (fun _ => ?_) (fun z => nomatch z)
          refine lss_one (ls_set c 10 rfl rfl ((lx_tup (la_cons (lx_dget c (lx_name c 12 rfl rfl rfl) (lx_name c 13 rfl rfl rfl) gk) (la_cons (lx_name c 9 rfl rfl rfl) la_nil))) _ ?_))
          rw [hbs]
          exact ⟨rfl, rfl⟩
        | some p =>
          refine ls_ifB (bb := false || decide (((p.1 : Nat) : Int) < (kn kk : Nat))) (lb_w (lw_or (lb_cmp (lx_name c 10 rfl rfl rfl) lx_non f2_isN) (fun _ => (lw_or1 (lb_cmp (lx_dget c (lx_name c 12 rfl rfl rfl) (lx_name c 13 rfl rfl rfl) gk) (lx_ix (lx_name c 10 rfl rfl rfl) lx_int (ix2_T rfl)) f2_gt))) (fun _ => rfl))) (fun hb => ?_) (fun hb => ?_)
          · rw [Bool.false_or, decide_eq_true_eq] at hb
            dsimp only at hbs
            rw [if_pos (by omega)] at hbs
            refine lss_one (ls_set c 10 rfl rfl ((lx_tup (la_cons (lx_dget c (lx_name c 12 rfl rfl rfl) (lx_name c 13 rfl rfl rfl) gk) (la_cons (lx_name c 9 rfl rfl rfl) la_nil))) _ ?_))
            rw [hbs]
            exact ⟨rfl, rfl⟩
          · rw [Bool.false_or, decide_eq_false_iff_not] at hb
            dsimp only at hbs
            rw [if_neg (by omega)] at hbs
            rw [hbs]
            exact lss_nil ⟨rfl, rfl⟩
      · rintro ρ' h' ⟨rfl, rfl⟩
        have hkl : kk.length = lanesB m ss := by rw [← hkk, iN, List.length_map]; exact hSl
        refine lss_one (ls_for c (li_range1 c (lx_eq (lx_callB c cb_lenT (la_cons (lx_eq (lx_name c 13 rfl rfl rfl) (rowT_eq kk)) la_nil) (by decide +kernel) G.b_len (by decide +kernel)) (show D.int _ = .int (lanesB m ss : Nat) by rw [List.length_map, hkl])) (by decide +kernel) G.b_range ⟨by omega, by omega⟩ ⟨fun j ρ h4 => ρ = [none, some (.ref px), some (.int (q : Nat)), some (.int (m : Nat)), some (.ref ps), some (.ref x), some (.ref pr), none, none, some (rowD r), some (bestD (bestR (knOf kn ss) ((rowsOf (lets q) m).take (i + 1)))), some (.ref pk), some (.ref pn), some (rowT kk), none, none, none, none, none, none, none, none] ∧ Sub h h4 ∧ h4 pn = some (.dT (WD W')) ∧ KnI pk ks (fun l => if l < j then addN (Sc l) ((srcs r ss).getD l 0) else Sc l) h4, ⟨rfl, sb', eW', J'⟩, fun _ _ _ _ => trivial, ?_, ?_⟩))
        · rintro j d ρ2 h4 hd2 ⟨rfl, sb4, e4, J4⟩
          have hj : j < lanesB m ss := by
            have := (List.getElem?_eq_some_iff.mp hd2).1
            rwa [rngD_len, Int.toNat_natCast] at this
          rw [rngD_get (by rw [Int.toNat_natCast]; exact hj), Int.zero_add] at hd2
          cases hd2
          have hjs : (srcs r ss)[j]? = some ((srcs r ss).getD j 0) := by
            rw [List.getD_eq_getElem?_getD, List.getElem?_eq_getElem (by omega)]
            rfl
          obtain ⟨a, ha⟩ : ∃ a, ks[j]? = some a := ⟨_, List.getElem?_eq_getElem (by omega)⟩
          have hka := J4.k j a ha
          rw [if_neg (Nat.lt_irrefl _)] at hka
          generalize hsv : (srcs r ss).getD j 0 = sv at hjs
          have J5 := J4.put nd nk ha (addN (Sc j) sv)
          have hkj : (kk.map D.int)[j]? = some (.int (sv : Nat)) := by
            rw [← hkk, iN, List.map_map, List.getElem?_map, hjs]
            rfl
          have J6 : KnI pk ks (fun l => if l < j + 1 then addN (Sc l) ((srcs r ss).getD l 0) else Sc l) (updD h4 a (.lst (natsD (addN (Sc j) sv)))) := J5.congr fun l hl3 => by
            by_cases hlj : l = j
            · subst hlj
              rw [if_pos rfl, if_pos (Nat.lt_succ_self _), hsv]
            · rw [if_neg hlj]
              by_cases h5 : l < j
              · rw [if_pos h5, if_pos (by omega)]
              · rw [if_neg h5, if_neg (by omega)]
          refine ⟨_, lg_name c 7 rfl rfl ?_⟩
          have hix1 : atI (kk.map D.int) ((j : Nat) : Int) = some (.int (sv : Nat)) := atI_nat' (by omega) (by rw [Int.toNat_natCast]; exact hkj)
          have hix2 : atI (ks.map D.ref) ((j : Nat) : Int) = some (.ref a) := atI_nat' (by omega) (by rw [Int.toNat_natCast, List.getElem?_map, ha]; rfl)
          have hka2 := hka
          rw [natsD_ints] at hka2
          refine lss_one (ls_ifB (bb := !decide ((sv : Int) ∈ iN (Sc j))) (lb_cmp (lx_ix (lx_eq (lx_name c 13 rfl rfl rfl) (rowT_eq kk)) (lx_name c 7 rfl rfl rfl) (ix2_T hix1)) (lx_ix (lx_name c 11 rfl rfl rfl) (lx_name c 7 rfl rfl rfl) (ix2_L J4.f hix2)) (f2_notinL hka2)) (fun hb => ?_) (fun hb => ?_))
          · rw [Bool.not_eq_true', decide_eq_false_iff_not, mem_iN] at hb
            have eN : natsD (Sc j) ++ [.int (sv : Nat)] = natsD (addN (Sc j) sv) := by
              unfold addN natsD
              rw [if_neg hb, List.map_append]
              rfl
            refine lss_one (ls_append (lx_ix (lx_name c 11 rfl rfl rfl) (lx_name c 7 rfl rfl rfl) (ix2_L J4.f hix2)) hka ((lx_ix (lx_eq (lx_name c 13 rfl rfl rfl) (rowT_eq kk)) (lx_name c 7 rfl rfl rfl) (ix2_T hix1)) _ ⟨_, hka, by rw [natsD_len]; have := hcl j hj; omega, ?_⟩))
            rw [eN]
            refine ⟨_, _, ?_, Sub.refl _, rfl, sb4.put _ (hks0 a (List.mem_of_getElem? ha)), ?_, J6⟩
            · walk_at "fy wk"
            · rw [updD_ne (fun z => nn2 (by rw [z]; exact List.mem_of_getElem? ha))]
              exact e4
          · rw [Bool.not_eq_false', decide_eq_true_eq, mem_iN] at hb
            refine lss_nil ⟨_, _, ?_, Sub.refl _, rfl, sb4, e4, J4.congr fun l hl3 => ?_⟩
            · walk_at "fy wk"
            · by_cases hlj : l = j
              · subst hlj
                rw [if_neg (Nat.lt_irrefl _), if_pos (Nat.lt_succ_self _), hsv]
                unfold addN
                rw [if_pos hb]
              · by_cases h5 : l < j
                · rw [if_pos h5, if_pos (by omega)]
                · rw [if_neg h5, if_neg (by omega)]
        · rintro ρ2 h4 ⟨rfl, sb4, e4, J4⟩
          rw [rngD_len, Int.toNat_natCast] at J4
          refine ⟨_, _, ?_, Sub.refl _, rfl, sb4, ⟨W', e4, hW', hl', hg'⟩, J4.congr fun l hl3 => ?_⟩
          · walk_at "fy wk"
          · rw [if_pos (by omega), hcs]
  · rintro ρ1 hh ⟨rfl, sb, ⟨W, eW, hW, hWl, hWg⟩, J⟩
    rw [List.length_map, List.take_length] at J hWg ⊢
    have npx : h px ≠ none := by
      obtain ⟨_, o0, e0, _⟩ := I.hA
      rw [e0]
      exact fun z => nomatch z
    exact law_s11 (W := W) (d7 := none) (d9 := none) (d13 := none) G c (I.sub sb) k ⟨hu, eW, hWg⟩ J hks (fun z => npx (by rw [← z]; exact hpk)) (fun z => npx (hks0 px z)) hq
end Fy
end
section
set_option linter.all false
set_option maxRecDepth 100000
set_option maxHeartbeats 4000000
namespace Fy
open PySem PySem.Spec PyProof.Rows L2
local macro_rules | `(tactic| walk_at "fy op") => `(tactic| first
  | exact f2_add | exact f2_sub | exact f2_cat (by first | assumption | omega | (simp only [List.length_append, cutD_len] <;> omega)) | exact f2_and | exact f2_mod (by omega) | exact f2_fdiv ⟨by omega, by omega⟩ | exact f2_mul (by unfold CMul; omega))
local macro_rules | `(tactic| walk_at "fy cmp") => `(tactic| first
  | exact f2_lt | exact f2_le | exact f2_gt | exact f2_ge | exact f2_eqI | exact f2_neI | exact f2_eqS | exact f2_isN | exact f2_notN)
local macro_rules | `(tactic| walk_at "fy ix") => `(tactic| first
  | exact ix2_T (by first | assumption | rfl) | exact ix2_L (by assumption) (by assumption))
local macro_rules | `(tactic| walk_at "fy wk") => `(tactic| repeat' (first | exact Paired.nil | exact True.intro | rfl | apply Paired.cons))
variable {T : Tx} {C : Addr} {X : Cx} {h : HD}
theorem unk_all {q m : Nat} {ss : List Stp} (k : LawK q m ss) : ∃ kn : List Int → Nat, ∀ r ∈ rowsOf (lets q) m, UnkAt (iN (srcs r ss)) (knOf kn ss r) := by
  have hx : ∀ r ∈ rowsOf (lets q) m, ∃ d, UnkAt (iN (srcs r ss)) d := fun r hr => by
    have hro := rows_ok hr
    have h2 := srcs_len (row := r) (ss := ss) (q := q) (by rw [hro.1]; exact k.ok.can)
    rw [hro.1] at h2
    have hl : (iN (srcs r ss)).length = lanesB m ss := by rw [iN, List.length_map]; exact h2
    have l5 := k.l5
    have m4 := k.m4
    have hp : (lets m).length ^ (iN (srcs r ss)).length ≤ 4 ^ 5 := by
      rw [lets_len, hl]
      exact Nat.le_trans (Nat.pow_le_pow_left m4 _) (Nat.pow_le_pow_right (by decide) l5)
    refine unk_ok (ls := lets m) (fun z hz => ?_) (by omega) (by omega)
    obtain ⟨i, hi, rfl⟩ := List.mem_map.mp hz
    have := srcs_mem hi
    rw [hro.1] at this
    exact List.mem_map.mpr ⟨i, List.mem_range.mpr this, rfl⟩
  exact ⟨fun s => Classical.epsilon (UnkAt s), fun r hr => Classical.epsilon_spec_aux _ (UnkAt (iN (srcs r ss))) (hx r hr)⟩
theorem law_s7 (G : Top T C) (c : LawCx X T) {px pc ps x pr : Addr} {q m : Nat} {ss : List Stp} {E : EndsD} (I : LawI C q m ss px pc ps x pr h) (k : LawK q m ss) (hq : ∀ h', E.rt (.bl true) h') : LSs X (stGetN (defBody s_law) 7) [none, some (.ref px), some (.int (q : Nat)), some (.int (m : Nat)), some (.ref ps), some (.ref x), some (.ref pr), none, none, none, none, none, none, none, none, none, none, none, none, none, none, none] h E := by
  obtain ⟨kn, hu⟩ := unk_all k
  obtain ⟨oth, e1⟩ := I.n.fld
  have l5 := k.l5
  refine lss_cons (ls_set c 10 rfl rfl (lx_non _ ?_))
  refine lss_cons (ls_setLcF 11 c (own := [("_law_lane", 7)]) (by decide +kernel) rfl (by decide +kernel) rfl rfl (by decide +kernel) (li_range1 c (lx_meth0 (z := .int (lanesB m ss : Nat)) (h2 := h) c (has_outs G) (by decide) (lx_name c 5 rfl rfl rfl) e1 G.cl rfl (fun Q qq => ⟨x, q, m, ss, rfl, I.n, qq⟩)) (by decide +kernel) G.b_range ⟨by omega, by omega⟩ fun pk hpk => ⟨fun i acc hh => ∃ ks : List Addr, acc = ks.map .ref ∧ ks.length = i ∧ ks.Nodup ∧ pk ∉ ks ∧ (∀ a ∈ ks, h a = none) ∧ Sub h hh ∧ KnI pk ks (fun _ => []) hh, ⟨[], rfl, rfl, List.nodup_nil, (fun z => nomatch z), (fun a ha => nomatch ha), Sub.new hpk, updD_same, fun l a ha => nomatch ha⟩, fun i acc hh hP => ?_, fun i d acc hh hd hP => ?_, fun acc hh hP => ?_⟩))
  · obtain ⟨ks, rfl, _, _, _, _, _, J⟩ := hP
    exact ⟨J.f, trivial⟩
  · obtain ⟨ks, rfl, hl, nd, nk, a0, sb, J⟩ := hP
    rw [Int.toNat_natCast] at hd
    have hi : i < lanesB m ss := by
      have := (List.getElem?_eq_some_iff.mp hd).1
      rwa [rngD_len] at this
    rw [rngD_get hi] at hd
    cases hd
    refine ⟨[7], [none, some (.ref px), some (.int (q : Nat)), some (.int (m : Nat)), some (.ref ps), some (.ref x), some (.ref pr), some (.int (0 + (i : Nat))), none, none, some .non, none, none, none, none, none, none, none, none, none, none, none], by simp, fun X' b => lg_name (blk_ctx c b rfl rfl) 7 rfl rfl rfl, fun X' b => lif_nil ⟨fun _ X' b' => (ll_disp la_nil) _ fun a ha => ?_, fun z => nomatch z⟩⟩
    have hne : pk ≠ a := neN J.f ha
    have ha0 : h a = none := sub_none sb ha
    have hna : a ∉ ks := fun hm => by
      obtain ⟨l, hl', rfl⟩ := List.getElem_of_mem hm
      have := J.k l _ (List.getElem?_eq_getElem hl')
      rw [ha] at this
      cases this
    refine ⟨by rw [List.length_map]; omega, by rw [updD_ne hne]; exact J.f, Fg.of ⟨ks ++ [a], by rw [List.map_append]; rfl, by rw [List.length_append, hl]; rfl, ?_, ?_, ?_, ?_, ?_⟩⟩
    · rw [List.nodup_append]
      exact ⟨nd, by simp, fun b hb b' hb' => by rw [List.mem_singleton.mp hb']; exact fun z => hna (z ▸ hb)⟩
    · intro z
      rcases List.mem_append.mp z with z | z
      · exact nk z
      · exact hne (List.mem_singleton.mp z)
    · intro b hb
      rcases List.mem_append.mp hb with z | z
      · exact a0 b z
      · rw [List.mem_singleton.mp z]
        exact ha0
    · exact (sb.put _ ha0).put _ hpk
    · refine ⟨by rw [updD_same, List.map_append]; rfl, fun l b hb => ?_⟩
      have hbp : b ≠ pk := by
        rcases Nat.lt_or_ge l ks.length with z | z
        · rw [List.getElem?_append_left z] at hb
          exact fun z => nk (by rw [← z]; exact List.mem_of_getElem? hb)
        · rw [List.getElem?_append_right z] at hb
          have := List.mem_of_getElem? hb
          rw [List.mem_singleton.mp this]
          exact hne.symm
      rw [updD_ne hbp]
      rcases Nat.lt_or_ge l ks.length with z | z
      · rw [List.getElem?_append_left z] at hb
        rw [updD_ne (neN (J.k l b hb) ha)]
        exact J.k l b hb
      · rw [List.getElem?_append_right z] at hb
        have := List.mem_of_getElem? hb
        rw [List.mem_singleton.mp this]
        exact updD_same
  obtain ⟨ks, rfl, hl, nd, nk, a0, sb, J⟩ := hP
  rw [rngD_len, Int.toNat_natCast] at hl
  refine Fg.of ?_
  refine lss_cons (ls_set c 12 rfl rfl (le_dnewT fun pn hpn => ?_))
  exact law_s10 (kn := kn) G c I k hu (sb.trans (Sub.new hpn)) (sub_none sb hpn) hpk a0 updD_same (J.sub (Sub.new hpn)) nd nk (neN J.f hpn) (fun z => by
    obtain ⟨l, hl', rfl⟩ := List.getElem_of_mem z
    have := J.k l _ (List.getElem?_eq_getElem hl')
    rw [hpn] at this
    cases this) hl hq
theorem law_s5 (G : Top T C) (c : LawCx X T) {px pc ps x : Addr} {q m : Nat} {ss : List Stp} {E : EndsD} {d0 : Option D} (hA : HandAt h px pc) (n : NetAt C h x q m ss) (eps : h ps = some (.lst (ss.map stepD))) (nps : ps ≠ px) (k : LawK q m ss) (hq : ∀ h', E.rt (.bl true) h') : LSs X (stGetN (defBody s_law) 5) [d0, some (.ref px), some (.int (q : Nat)), some (.int (m : Nat)), some (.ref ps), some (.ref x), none, none, none, none, none, none, none, none, none, none, none, none, none, none, none, none] h E := by
  have q3 := k.q3
  have q1 := k.ok.q1
  have m4 := k.m4
  have hll := lets_len q
  have hpow : ∀ i, i + 1 ≤ m → q ^ i * q ≤ 4096 := fun i hi => by
    rw [← Nat.pow_succ]
    exact Nat.le_trans (Nat.pow_le_pow_right q1 hi) k.ok.qm
  refine lss_wk (ρ' := [none, some (.ref px), some (.int (q : Nat)), some (.int (m : Nat)), some (.ref ps), some (.ref x), none, none, none, none, none, none, none, none, none, none, none, none, none, none, none, none]) (by walk_at "fy wk") ?_
  refine lss_cons (ls_set c 6 rfl rfl ((ll_disp (la_cons (lx_tup la_nil) la_nil)) _ fun pe hpe => ?_))
  refine lss_cut (fun ρ' h' => ∃ pr, ρ' = [none, some (.ref px), some (.int (q : Nat)), some (.int (m : Nat)), some (.ref ps), some (.ref x), some (.ref pr), none, none, none, none, none, none, none, none, none, none, none, none, none, none, none] ∧ Sub h h' ∧ h pr = none ∧ h' pr = some (.lst ((rowsOf (lets q) m).map rowD))) ?_ ?_
  · refine ls_for c (li_range1 c (lx_name c 3 rfl rfl rfl) (by decide +kernel) G.b_range ⟨by omega, by omega⟩ ⟨fun j ρ h' => j ≤ m ∧ ∃ pr, ρ = [none, some (.ref px), some (.int (q : Nat)), some (.int (m : Nat)), some (.ref ps), some (.ref x), some (.ref pr), none, none, none, none, none, none, none, none, none, none, none, none, none, none, none] ∧ Sub h h' ∧ h pr = none ∧ h' pr = some (.lst ((rowsOf (lets q) j).map rowD)), ⟨Nat.zero_le _, pe, rfl, Sub.new hpe, hpe, updD_same⟩, fun _ _ _ _ => trivial, ?_, ?_⟩)
    · rintro j d ρ1 h2 hd2 ⟨_, pr, rfl, sb2, hpb, epe⟩
      have hj : j < m := by
        have := (List.getElem?_eq_some_iff.mp hd2).1
        rw [rngD_len] at this
        omega
      refine ⟨_, lg_name c 7 rfl rfl ?_⟩
      refine lss_cons (ls_set c 8 rfl rfl ((ll_disp la_nil) _ fun p2 hp2 => ?_))
      have hne : pr ≠ p2 := neN epe hp2
      have hp2b : h p2 = none := sub_none sb2 hp2
      refine lss_cons (ls_for c (li_list (lx_name c 6 rfl rfl rfl) (ds := (rowsOf (lets q) j).map rowD) (by rw [updD_ne hne]; exact epe) ⟨fun t ρ h' => t ≤ (rowsOf (lets q) j).length ∧ ρ = [none, some (.ref px), some (.int (q : Nat)), some (.int (m : Nat)), some (.ref ps), some (.ref x), some (.ref pr), some d, some (.ref p2), none, none, none, none, none, none, none, none, none, none, none, none, none] ∧ Sub h h' ∧ h' pr = some (.lst ((rowsOf (lets q) j).map rowD)) ∧ h' p2 = some (.lst ((growTo (lets q) (rowsOf (lets q) j) t).map rowD)), ⟨Nat.zero_le _, rfl, sb2.trans (Sub.new hp2), by rw [updD_ne hne]; exact epe, by rw [updD_same]; simp [growTo]⟩, fun t ρ h' hP => hP.2.2.2.1, ?_, ?_⟩))
      · rintro t d2 ρ2 h3 hd3 ⟨ht, rfl, sb3, epe3, ep2⟩
        obtain ⟨out, hout, rfl⟩ := map_get hd3
        have ht' : t < (rowsOf (lets q) j).length := (List.getElem?_eq_some_iff.mp hout).1
        have hlen : out.length = j := (rowsOf_row _ _ _ (List.mem_of_getElem? hout)).1
        refine ⟨_, lg_name c 9 rfl rfl ?_⟩
        refine lss_one (ls_extend (res := ((lets q).map fun l => out ++ [l]).map rowD) (lx_name c 8 rfl rfl rfl) ep2 (ll_comp c (own := [("_law_letter", 20)]) (ds := rngD 0 q) (by decide +kernel) (is := [20]) (by simp) (fun d3 => [none, some (.ref px), some (.int (q : Nat)), some (.int (m : Nat)), some (.ref ps), some (.ref x), some (.ref pr), some d, some (.ref p2), some (rowD out), none, none, none, none, none, none, none, none, none, none, some d3, none]) (fun R kk => li_range1 c (lx_name c 2 rfl rfl rfl) (by decide +kernel) G.b_range ⟨by omega, by omega⟩ (kk _ _ (Sub.refl _) fun _ _ _ => trivial)) (by rw [rngD_len, List.length_map, List.length_map, hll]) (by rw [rngD_len]; omega) (fun i d hd X' b => lg_name (blk_ctx c b rfl rfl) 20 rfl rfl rfl) fun i2 d3 rr hh hd hr2 sb X' b => ?_) ?_ ?_)
        · rw [rngD_lets] at hd
          obtain ⟨l, hl, rfl⟩ := map_get hd
          rw [List.getElem?_map, List.getElem?_map, hl] at hr2
          cases hr2
          refine lx_eq (lx_bin (lx_name (blk_ctx c b rfl rfl) 9 rfl rfl rfl) (lx_tup (la_cons (lx_name (blk_ctx c b rfl rfl) 20 rfl rfl rfl) la_nil)) (f2_cat ?_)) ?_
          · rw [List.length_map]
            show out.length + 1 ≤ 100000
            omega
          · show D.tup _ = D.tup _
            rw [List.map_append]
            rfl
        · have g1 := growTo_len (lets q) (rowsOf (lets q) j) t
          rw [rowsOf_len, hll] at g1
          have g2 := hpow j hj
          rw [List.length_map, List.length_map, List.length_map, hll]
          omega
        · rw [← List.map_append, ← growTo_succ (lets q) (rowsOf (lets q) j) t hout]
          refine ⟨_, _, ?_, Sub.refl _, ht', rfl, sb3.put _ hp2b, by rw [updD_ne hne]; exact epe3, updD_same⟩
          walk_at "fy wk"
      · rintro ρ2 h3 ⟨ht, rfl, sb3, epe3, ep2⟩
        rw [List.length_map, growTo_all] at ep2
        refine lss_one (ls_set c 6 rfl rfl ((lx_name c 8 rfl rfl rfl) _ ?_))
        refine ⟨_, _, ?_, Sub.refl _, hj, p2, rfl, sb3, hp2b, ep2⟩
        walk_at "fy wk"
    · rintro ρ1 h2 ⟨_, pr, rfl, sb2, hpb, epe⟩
      rw [rngD_len, Int.toNat_natCast] at epe
      exact ⟨pr, rfl, sb2, hpb, epe⟩
  · rintro ρ' h2 ⟨pr, rfl, sb2, hpb, epr⟩
    obtain ⟨_, o0, e0, _⟩ := id hA
    exact law_s7 G c ⟨hA.sub sb2, n.sub sb2, sb2 _ _ eps, epr, nps, fun z => by rw [z, e0] at hpb; cases hpb⟩ k hq
/-- the script, frozen at the head or among what the top has written -/
def ScrA (K : PySem.W.Frag) (h : HD) (a : Addr) (ns : List Int) : Prop := h a = some (.scr ns) ∨ ∃ (o : Obj) (its : Array Value) (n : Nat), K.lookup a = some o ∧ o.cls = .type "list" ∧ o.dict = none ∧ o.data = .seq its n ∧ its.size ≤ sizeLine ∧ Vals (ns.map V.int) its.toList
section
variable {k : Nat} {N : List Str} {sc : Scope} {vt st : List Bool}
theorem ll_cutS2 {a : Expr} {ρ : Rho} {lo hi : Option Expr} {l u : Option Int} {p2 pos : Pos} {p : Addr} {ns : List Int} (ha : LX X a ρ h (.ref p) h) (hl : LO X lo ρ h l h) (hh : LO X hi ρ h u h) (hp : ScrA X.K h p ns) : LL X (.Subscript a (.Slice lo hi none p2) pos) ρ h (cutD (ns.map D.int) l u) := fun Q q => by
  obtain ⟨tl, pl, ql⟩ := hl
  obtain ⟨th, ph, qh⟩ := hh
  refine le_of (pe_slice sl_list pe_we pl ph) fun σ H hs hr => ha.use hs hr fun v H1 t1 r1 d1 => ql σ H1 _ (hs.mono t1) r1 fun H2 t2 r2 => qh σ H2 _ (hs.mono (t1.trans t2)) r2 fun H3 t3 r3 => ?_
  have t := (t1.trans t2).trans t3
  have hs : SqL X.K H3 p (ns.map V.int) := by
    rcases hp with hp | hp
    · obtain ⟨o, e1⟩ := r3.scr hp
      exact .inl (.inr ⟨o, e1⟩)
    · exact .inr hp
  exact ⟨p, _, d1.ref_inv, hs, fun p' hp' => lnew t r3 ((dens_ints ns).cut l u) hp' q⟩
end
def sp_law_hand2 (T : Tx) : FS := fun ds h Q => ∃ (a : Addr) (ns : List Int), ds = [.ref a] ∧ ScrA T.K h a ns ∧ ∀ x pc h', Sub h h' → h x = none → HandAt h' x pc → Q (.ref x) h'
theorem has_law_hand2 (G : Top T C) : Has T 1 "_law_hand" ["_law_script"] (sp_law_hand2 T) := by
  refine has_of G.d_law_hand sc_law_hand hv_law_hand (fun ds h Q ⟨_, _, e, _⟩ => by subst e; rfl) (fun _ _ _ _ _ _ us hl => match us, hl with | [_], _ => rfl) fun X c ds h Q ⟨a, ns, e, ha, q⟩ => ?_
  subst e
  have e63 : cutD (ns.map D.int) none (some 63) = (ns.take 63).map D.int := by
    rw [show (63 : Int) = ((63 : Nat) : Int) from rfl, cutD_to, List.map_take]
  have hl : (ns.take 63).length ≤ 63 := by rw [List.length_take]; omega
  refine lss_cons (ls_setLcF 1 c (own := [("_law_cell", 2)]) (by decide +kernel) rfl (by decide +kernel) rfl rfl (by decide +kernel) (li_ll (ll_cutS2 (lx_name c 0 rfl rfl rfl) lo_none (lo_some lx_int) (by rw [c.hK]; exact ha)) fun ps hps pf hpf => ⟨fun i acc hh => acc = (((ns.take 63).take i).map absI).map D.int ∧ hh = updD (updD h ps (.lst (cutD (ns.map D.int) none (some 63)))) pf (.lst acc), ⟨rfl, rfl⟩, fun i acc hh hP => ?_, fun i d acc hh hd hP => ?_, fun acc hh hP => ?_⟩))
  · obtain ⟨rfl, rfl⟩ := hP
    exact ⟨updD_same, by show updD _ _ _ _ = _; rw [updD_ne (neN updD_same hpf), updD_same]⟩
  · obtain ⟨rfl, rfl⟩ := hP
    rw [e63] at hd
    obtain ⟨z, hz, rfl⟩ := map_get hd
    refine ⟨[2], [some (.ref a), none, some (.int z)], by simp, fun X' b => lg_name (blk_ctx c b rfl rfl) 2 rfl rfl rfl, fun X' b => lif_nil ⟨fun _ X' b' => ((lx_callB (blk_ctx c b' rfl rfl) cb_abs (la_cons (lx_callTy (blk_ctx c b' rfl rfl) cb_int (la_cons (lx_name (blk_ctx c b' rfl rfl) 2 rfl rfl rfl) la_nil) (by decide +kernel) G.b_int (by decide +kernel)) la_nil) (by decide +kernel) G.b_abs (by decide +kernel)) _ ⟨?_, updD_same, Fg.of ⟨?_, ?_⟩⟩), fun z => nomatch z⟩⟩
    · rw [List.length_map, List.length_map, List.length_take]
      omega
    · rw [take_snoc hz, List.map_append, List.map_append]
      rfl
    · rw [updD_updD]
  obtain ⟨rfl, rfl⟩ := hP
  refine Fg.of ?_
  rw [e63] at hpf
  have sb2 := (Sub.new (o := .lst ((ns.take 63).map D.int)) hps).trans (Sub.new (o := .lst ((((ns.take 63)).map absI).map D.int)) hpf)
  rw [e63, List.length_map, List.take_length]
  refine lss_one (ls_ret ((ll_disp (la_cons (lx_name c 1 rfl rfl rfl) (la_cons lx_int (la_cons lx_int (la_cons (lx_bin lx_int (lx_callB c (cb_lenL updD_same) (la_cons (lx_name c 1 rfl rfl rfl) la_nil) (by decide +kernel) G.b_len (by decide +kernel)) f2_add) (la_cons lx_int la_nil)))))) _ fun x hx => Fg.of (q x pf _ ?_ ?_ ⟨⟨((ns.take 63).map absI), ?_⟩, _, updD_same, 0, 0, _, _, rfl, Int.le_refl _⟩)))
  · exact sb2.trans (Sub.new hx)
  · cases hz : h x with
    | none => rfl
    | some o => rw [sb2 _ _ hz] at hx; cases hx
  · show updD _ _ _ _ = _
    rw [updD_ne (neN updD_same hx), updD_same]
def sp_law (T : Tx) : FS := fun ds h Q => ∃ (a : Addr) (ns : List Int), ds = [.ref a] ∧ ScrA T.K h a ns ∧ ∀ h', Q (.bl true) h'
theorem law_body (G : Top T C) (X : Cx) (c : LawCx X T) (ds : List D) (h : HD) (Q : D → HD → Prop) (hs : sp_law T ds h Q) : LSs X (defBody s_law) (startD n_law ds) h { nx := fun _ h' => Fg (Q .non) h', rt := fun d h' => Fg (Q d) h' } := by
  obtain ⟨a, ns, e, ea, qq⟩ := hs
  subst e
  have hq : ∀ h', Fg (Q (.bl true)) h' := fun h' => Fg.of (qq h')
  refine lss_cons (ls_set c 1 rfl rfl (le_call c (has_law_hand2 G) (by decide) (by decide +kernel) ((la_cons (lx_name c 0 rfl rfl rfl) la_nil) _ ⟨a, ns, rfl, ea, fun px pc h1 sb1 hpx hA => ?_⟩)))
  refine lss_cons (ls_set c 2 rfl rfl (le_addE lx_int (le_draw (n := 3) G c (by decide) (by decide +kernel) (lx_name c 1 rfl rfl rfl) lx_int hA (by decide) (by decide) fun d1 o1 hd1 ho1 => ⟨_, rfl, ?_⟩)))
  have hA1 := hA.upd ho1
  generalize updD h1 px o1 = h2 at hA1
  obtain ⟨q, hqd⟩ : ∃ q : Nat, q = 1 + d1 := ⟨_, rfl⟩
  rw [show (1 : Int) + (d1 : Nat) = (q : Nat) by omega]
  refine lss_cons (ls_set c 3 rfl rfl (le_addE lx_int (le_draw (n := 4) G c (by decide) (by decide +kernel) (lx_name c 1 rfl rfl rfl) lx_int hA1 (by decide) (by decide) fun d2 o2 hd2 ho2 => ⟨_, rfl, ?_⟩)))
  have hA2 := hA1.upd ho2
  generalize updD h2 px o2 = h3 at hA2
  obtain ⟨m, hmd⟩ : ∃ m : Nat, m = 1 + d2 := ⟨_, rfl⟩
  rw [show (1 : Int) + (d2 : Nat) = (m : Nat) by omega]
  refine lss_cons (ls_set c 4 rfl rfl (le_call c (has_law_steps G) (by decide) (by decide +kernel) ((la_cons (lx_name c 1 rfl rfl rfl) (la_cons (lx_name c 2 rfl rfl rfl) (la_cons (lx_name c 3 rfl rfl rfl) la_nil))) _ ⟨px, pc, q, m, rfl, hA2, by omega, by omega, by omega, by omega, fun ss o ps hlen hcan hsm hl5 ho hp => ?_⟩)))
  have nps : ps ≠ px := by
    obtain ⟨_, o0, e0, _⟩ := id hA2
    exact (neN e0 hp).symm
  have hp' : updD h3 px o ps = none := by rw [updD_ne nps]; exact hp
  have hA3 : HandAt (updD (updD h3 px o) ps (.lst (ss.map stepD))) px pc := (hA2.upd ho).sub (Sub.new hp')
  have eps : updD (updD h3 px o) ps (.lst (ss.map stepD)) ps = some (.lst (ss.map stepD)) := updD_same
  generalize updD (updD h3 px o) ps (.lst (ss.map stepD)) = h4 at hA3 eps
  have hqm : q ^ m ≤ 81 := Nat.le_trans (Nat.pow_le_pow_left (by omega : q ≤ 3) m) (Nat.pow_le_pow_right (by decide) (by omega : m ≤ 4))
  refine lss_cons (ls_set c 5 rfl rfl (le_make c (has_init G) (by decide) (by decide +kernel) G.mgC ((la_cons (lx_name c 2 rfl rfl rfl) (la_cons (lx_name c 3 rfl rfl rfl) (la_cons (lx_name c 4 rfl rfl rfl) la_nil))) _ fun x hx => ⟨h4, x, q, m, _, ss, rfl, hx, rfl, .inr ⟨ps, rfl, eps⟩, by omega, by omega, by omega, by omega, hcan, hsm, by omega, fun h' sb n => ⟨rfl, ?_⟩⟩)))
  exact law_s5 (d0 := some (.ref a)) G c (hA3.sub sb) n (sb _ _ eps) nps ⟨⟨by omega, by omega, by omega, by omega, by omega, hcan, hsm, by omega⟩, by omega, by omega, hl5, hlen⟩ hq
theorem law_fn (G : Top T C) {f : Addr} {fd : FuncData} (F : Fun T.K "law" "law" s_law f fd) : FnOk T.P T.w T.K T.mg T.base CX0 14 f fd ["_law_script"] (Lsp (sp_law T)) :=
  fn_ok F sc_law hv_law (fun ds h Q ⟨_, _, e, _⟩ => by subst e; rfl) fun X c ds h Q hs => law_body G X c ds h Q hs
end Fy
end
section
set_option linter.all false
set_option maxRecDepth 100000
set_option maxHeartbeats 4000000
namespace Fy
open PySem PySem.Spec PyProof.Rows L2
local macro_rules | `(tactic| walk_at "fy op") => `(tactic| first
  | exact f2_add | exact f2_sub | exact f2_cat (by first | assumption | omega | (simp only [List.length_append, cutD_len] <;> omega)) | exact f2_and | exact f2_mod (by omega) | exact f2_fdiv ⟨by omega, by omega⟩ | exact f2_mul (by unfold CMul; omega))
local macro_rules | `(tactic| walk_at "fy cmp") => `(tactic| first
  | exact f2_lt | exact f2_le | exact f2_gt | exact f2_ge | exact f2_eqI | exact f2_neI | exact f2_eqS | exact f2_isN | exact f2_notN)
local macro_rules | `(tactic| walk_at "fy ix") => `(tactic| first
  | exact ix2_T (by first | assumption | rfl) | exact ix2_L (by assumption) (by assumption))
local macro_rules | `(tactic| walk_at "fy wk") => `(tactic| repeat' (first | exact Paired.nil | exact True.intro | rfl | apply Paired.cons))
variable {T : Tx} {C : Addr} {X : Cx} {h : HD}
/-! ### what the top has written, by the written part alone -/
def DefK (K : PySem.W.Frag) (x : Str) (st : Stmt) : Prop := ∃ f fd, PySem.W.nsIn K mainGlobals x = some (some (.ref f)) ∧ Fun K x x st f fd
theorem defK_of {K : PySem.W.Frag} {x : Str} {st : Stmt} {f : Addr} {oc : Value} {od an : Option Addr} {osl : Array (Option Value)} {kV doc pm cdv ct : Value} (a : PySem.W.nsIn K mainGlobals x = some (some (.ref f)))
    (l : K.lookup f = some ⟨oc, od, .func (PySem.W.fnOf x x (defArgs st) (defBody st) (defScope st) .none kV doc pm an cdv ct), osl⟩) (c : PySem.W.codeIn K cdv x = true) (k : PySem.W.keepIn K (.ref f) = true) : DefK K x st := ⟨f, _, a, fun_mk l c k⟩
def MetK (K : PySem.W.Frag) (C : Addr) (m q : Str) (st : Stmt) : Prop := ∃ f fd, Meth K C m f ∧ Fun K m q st f fd
theorem metK_of {K : PySem.W.Frag} {C : Addr} {x q : Str} {st : Stmt} {f : Addr} {oc : Value} {od an : Option Addr} {osl : Array (Option Value)} {kV doc pm cdv ct : Value} (a : PySem.W.findIn K (.ref C) x = some (some (.ref f))) (i : PySem.W.isFn K (.ref f) = true)
    (l : K.lookup f = some ⟨oc, od, .func (PySem.W.fnOf x q (defArgs st) (defBody st) (defScope st) .none kV doc pm an cdv ct), osl⟩) (c : PySem.W.codeIn K cdv q = true) (k : PySem.W.keepIn K (.ref f) = true) : MetK K C x q st := ⟨f, _, ⟨a, i, k⟩, fun_mk l c k⟩
def ConK (K : PySem.W.Frag) (x : Str) (i : Int) : Prop := ∃ t, PySem.W.nsIn K mainGlobals x = some (some (.int i t))
theorem conK_of {K : PySem.W.Frag} {x : Str} {i : Int} {t : Addr} (a : PySem.W.nsIn K mainGlobals x = some (some (.int i t))) : ConK K x i := ⟨t, a⟩
structure TopK (K : PySem.W.Frag) (w : World) (C : Addr) : Prop where
  d_is_integer : DefK K "is_integer" s_is_integer
  d_is_between : DefK K "is_between" s_is_between
  d_is_index : DefK K "is_index" s_is_index
  d_check_number : DefK K "check_number" s_check_number
  d_power_of : DefK K "power_of" s_power_of
  d_is_row : DefK K "is_row" s_is_row
  d_rows_of : DefK K "rows_of" s_rows_of
  d_check_listed : DefK K "check_listed" s_check_listed
  d_next_place : DefK K "next_place" s_next_place
  d_way_of : DefK K "way_of" s_way_of
  d_is_exchange : DefK K "is_exchange" s_is_exchange
  d_exchanged_by : DefK K "exchanged_by" s_exchanged_by
  d_all_exchanges : DefK K "all_exchanges" s_all_exchanges
  d_spread_from : DefK K "spread_from" s_spread_from
  d_outs_of : DefK K "outs_of" s_outs_of
  d_is_letters : DefK K "is_letters" s_is_letters
  d_are_others : DefK K "are_others" s_are_others
  d_is_step_form : DefK K "is_step_form" s_is_step_form
  d_lanes_after : DefK K "lanes_after" s_lanes_after
  d_can_be : DefK K "can_be" s_can_be
  d_place_by : DefK K "place_by" s_place_by
  d_work : DefK K "work" s_work
  d_sources : DefK K "sources" s_sources
  d_run_of : DefK K "run_of" s_run_of
  d_is_row_for : DefK K "is_row_for" s_is_row_for
  d_check_row_for : DefK K "check_row_for" s_check_row_for
  d_lanes_behind : DefK K "lanes_behind" s_lanes_behind
  d_check_all : DefK K "check_all" s_check_all
  d_all_ins : DefK K "all_ins" s_all_ins
  d_check_other : DefK K "check_other" s_check_other
  d_made : DefK K "made" s_made
  d_without_of : DefK K "without_of" s_without_of
  d_alike : DefK K "alike" s_alike
  d_needless : DefK K "needless" s_needless
  d_falls : DefK K "falls" s_falls
  d_unknotted : DefK K "unknotted" s_unknotted
  d_check_outs : DefK K "check_outs" s_check_outs
  d_knot_number : DefK K "knot_number" s_knot_number
  d_knotted : DefK K "knotted" s_knotted
  d_sources_of : DefK K "sources_of" s_sources_of
  d_tidied : DefK K "tidied" s_tidied
  d_undoes : DefK K "undoes" s_undoes
  d_first_undone : DefK K "first_undone" s_first_undone
  d_shortened : DefK K "shortened" s_shortened
  d_kinds_of : DefK K "kinds_of" s_kinds_of
  d_widest : DefK K "widest" s_widest
  d_flights : DefK K "flights" s_flights
  d_farthest_from : DefK K "farthest_from" s_farthest_from
  d_farthest : DefK K "farthest" s_farthest
  d_law_hand : DefK K "_law_hand" s_law_hand
  d_law_draw : DefK K "_law_draw" s_law_draw
  d_law_row : DefK K "_law_row" s_law_row
  d_law_is_thin : DefK K "_law_is_thin" s_law_is_thin
  d_law_fewest : DefK K "_law_fewest" s_law_fewest
  d_law_word : DefK K "_law_word" s_law_word
  d_law_done : DefK K "_law_done" s_law_done
  d_law_rises : DefK K "_law_rises" s_law_rises
  d_law_unknotted : DefK K "_law_unknotted" s_law_unknotted
  d_law_came : DefK K "_law_came" s_law_came
  d_law_steps : DefK K "_law_steps" s_law_steps
  d_law_sizes_right : DefK K "_law_sizes_right" s_law_sizes_right
  d_law_pairs : DefK K "_law_pairs" s_law_pairs
  d_law_is_far_right : DefK K "_law_is_far_right" s_law_is_far_right
  d_law : DefK K "law" s_law
  b_len : PySem.W.nsIn K mainGlobals "len" = some none
  b_abs : PySem.W.nsIn K mainGlobals "abs" = some none
  b_max : PySem.W.nsIn K mainGlobals "max" = some none
  b_min : PySem.W.nsIn K mainGlobals "min" = some none
  b_all : PySem.W.nsIn K mainGlobals "all" = some none
  b_any : PySem.W.nsIn K mainGlobals "any" = some none
  b_sorted : PySem.W.nsIn K mainGlobals "sorted" = some none
  b_isinstance : PySem.W.nsIn K mainGlobals "isinstance" = some none
  b_zip : PySem.W.nsIn K mainGlobals "zip" = some none
  b_enumerate : PySem.W.nsIn K mainGlobals "enumerate" = some none
  b_range : PySem.W.nsIn K mainGlobals "range" = some none
  b_int : PySem.W.nsIn K mainGlobals "int" = some none
  b_tuple : PySem.W.nsIn K mainGlobals "tuple" = some none
  b_list : PySem.W.nsIn K mainGlobals "list" = some none
  b_set : PySem.W.nsIn K mainGlobals "set" = some none
  b_dict : PySem.W.nsIn K mainGlobals "dict" = some none
  b_bool : PySem.W.nsIn K mainGlobals "bool" = some none
  b_str : PySem.W.nsIn K mainGlobals "str" = some none
  MOST_LETTERS_checks : ConK K "MOST_LETTERS_checks" 4
  MOST_LANES : ConK K "MOST_LANES" 1000
  MOST_ROWS : ConK K "MOST_ROWS" 4096
  MOST_LISTED : ConK K "MOST_LISTED" 12
  MOST_ROAD : ConK K "MOST_ROAD" 9
  MOST_OTHERS : ConK K "MOST_OTHERS" 64
  MOST_TOLD : ConK K "MOST_TOLD" 256
  MOST_FAR : ConK K "MOST_FAR" 6
  MOST_LETTERS_knots : ConK K "MOST_LETTERS_knots" 4
  cl : Cls K C
  mgC : PySem.W.nsIn K mainGlobals "Net" = some (some (.ref C))
  n_kept_letters : PySem.W.findIn K (.ref C) "kept_letters" = some none
  n_kept_lanes : PySem.W.findIn K (.ref C) "kept_lanes" = some none
  n_kept_steps : PySem.W.findIn K (.ref C) "kept_steps" = some none
  n_kept_outs : PySem.W.findIn K (.ref C) "kept_outs" = some none
  n_kept_others : PySem.W.findIn K (.ref C) "kept_others" = some none
  mkC : PySem.W.makesIn K C = true
  kpC : PySem.W.keepIn K (.ref C) = true
  m_init : MetK K C "__init__" "Net.__init__" s_Net_init
  m_keep : MetK K C "keep" "Net.keep" s_Net_keep
  m_steps : MetK K C "steps" "Net.steps" s_Net_steps
  m_outs : MetK K C "outs" "Net.outs" s_Net_outs
  m_flyovers : MetK K C "flyovers" "Net.flyovers" s_Net_flyovers
  isa : C8.InsC K C
  sz : ∃ dA es n, PySem.W.nsIn K mainGlobals "SIZES" = some (some (.ref dA)) ∧ KDict K w dA es n ∧ KDct K w dA "double" (.int 2) ∧ KDct K w dA "strike" (.int 2) ∧ KDct K w dA "choose" (.int 5) ∧ KDct K w dA "fly" (.int 4)
theorem Top.of {P : Program} {w : World} {K : PySem.W.Frag} {mg : Str → Option Value} {base h : Heap} {C : Addr} (X : K.In h) (G : h.Ns mainGlobals mg) (t : TopK K w C) : Top ⟨P, w, K, mg, base⟩ C := by
  have dd : ∀ {x : Str} {st : Stmt}, DefK K x st → DefAt ⟨P, w, K, mg, base⟩ x st := fun ⟨f, fd, a, F⟩ => ⟨f, fd, PySem.W.mg_of X G a, F⟩
  have cc : ∀ {x : Str} {i : Int}, ConK K x i → ConI ⟨P, w, K, mg, base⟩ x i := fun ⟨t, a⟩ => ⟨t, PySem.W.mg_of X G a⟩
  have zz : ∀ {x : Str}, PySem.W.nsIn K mainGlobals x = some none → mg x = none := fun a => PySem.W.mg_none_of X G a
  refine {
    d_is_integer := dd t.d_is_integer
    d_is_between := dd t.d_is_between
    d_is_index := dd t.d_is_index
    d_check_number := dd t.d_check_number
    d_power_of := dd t.d_power_of
    d_is_row := dd t.d_is_row
    d_rows_of := dd t.d_rows_of
    d_check_listed := dd t.d_check_listed
    d_next_place := dd t.d_next_place
    d_way_of := dd t.d_way_of
    d_is_exchange := dd t.d_is_exchange
    d_exchanged_by := dd t.d_exchanged_by
    d_all_exchanges := dd t.d_all_exchanges
    d_spread_from := dd t.d_spread_from
    d_outs_of := dd t.d_outs_of
    d_is_letters := dd t.d_is_letters
    d_are_others := dd t.d_are_others
    d_is_step_form := dd t.d_is_step_form
    d_lanes_after := dd t.d_lanes_after
    d_can_be := dd t.d_can_be
    d_place_by := dd t.d_place_by
    d_work := dd t.d_work
    d_sources := dd t.d_sources
    d_run_of := dd t.d_run_of
    d_is_row_for := dd t.d_is_row_for
    d_check_row_for := dd t.d_check_row_for
    d_lanes_behind := dd t.d_lanes_behind
    d_check_all := dd t.d_check_all
    d_all_ins := dd t.d_all_ins
    d_check_other := dd t.d_check_other
    d_made := dd t.d_made
    d_without_of := dd t.d_without_of
    d_alike := dd t.d_alike
    d_needless := dd t.d_needless
    d_falls := dd t.d_falls
    d_unknotted := dd t.d_unknotted
    d_check_outs := dd t.d_check_outs
    d_knot_number := dd t.d_knot_number
    d_knotted := dd t.d_knotted
    d_sources_of := dd t.d_sources_of
    d_tidied := dd t.d_tidied
    d_undoes := dd t.d_undoes
    d_first_undone := dd t.d_first_undone
    d_shortened := dd t.d_shortened
    d_kinds_of := dd t.d_kinds_of
    d_widest := dd t.d_widest
    d_flights := dd t.d_flights
    d_farthest_from := dd t.d_farthest_from
    d_farthest := dd t.d_farthest
    d_law_hand := dd t.d_law_hand
    d_law_draw := dd t.d_law_draw
    d_law_row := dd t.d_law_row
    d_law_is_thin := dd t.d_law_is_thin
    d_law_fewest := dd t.d_law_fewest
    d_law_word := dd t.d_law_word
    d_law_done := dd t.d_law_done
    d_law_rises := dd t.d_law_rises
    d_law_unknotted := dd t.d_law_unknotted
    d_law_came := dd t.d_law_came
    d_law_steps := dd t.d_law_steps
    d_law_sizes_right := dd t.d_law_sizes_right
    d_law_pairs := dd t.d_law_pairs
    d_law_is_far_right := dd t.d_law_is_far_right
    d_law := dd t.d_law
    b_len := zz t.b_len
    b_abs := zz t.b_abs
    b_max := zz t.b_max
    b_min := zz t.b_min
    b_all := zz t.b_all
    b_any := zz t.b_any
    b_sorted := zz t.b_sorted
    b_isinstance := zz t.b_isinstance
    b_zip := zz t.b_zip
    b_enumerate := zz t.b_enumerate
    b_range := zz t.b_range
    b_int := zz t.b_int
    b_tuple := zz t.b_tuple
    b_list := zz t.b_list
    b_set := zz t.b_set
    b_dict := zz t.b_dict
    b_bool := zz t.b_bool
    b_str := zz t.b_str
    MOST_LETTERS_checks := cc t.MOST_LETTERS_checks
    MOST_LANES := cc t.MOST_LANES
    MOST_ROWS := cc t.MOST_ROWS
    MOST_LISTED := cc t.MOST_LISTED
    MOST_ROAD := cc t.MOST_ROAD
    MOST_OTHERS := cc t.MOST_OTHERS
    MOST_TOLD := cc t.MOST_TOLD
    MOST_FAR := cc t.MOST_FAR
    MOST_LETTERS_knots := cc t.MOST_LETTERS_knots
    cl := t.cl
    mgC := PySem.W.mg_of X G t.mgC
    n_kept_letters := t.n_kept_letters
    n_kept_lanes := t.n_kept_lanes
    n_kept_steps := t.n_kept_steps
    n_kept_outs := t.n_kept_outs
    n_kept_others := t.n_kept_others
    m_keep := t.m_keep
    m_steps := t.m_steps
    m_outs := t.m_outs
    m_flyovers := t.m_flyovers
    isa := t.isa
    mkN := ?_
    sz := ?_ }
  · obtain ⟨f, fd, a, F⟩ := t.m_init
    exact ⟨f, fd, ⟨t.mkC, a.at_, a.fn, t.kpC⟩, F⟩
  · obtain ⟨dA, es, n, a, r⟩ := t.sz
    exact ⟨dA, es, n, PySem.W.mg_of X G a, r⟩
theorem szK_of {K : PySem.W.Frag} {w : World} {dA : Addr} {es : Array DictEntry} {n t0 t1 t2 t3 : Nat} (a : PySem.W.nsIn K mainGlobals "SIZES" = some (some (.ref dA))) (l : K.lookup dA = some ⟨.type "dict", none, .dict es n, #[]⟩) (t : PySem.W.KeysLit w.params es.toList) (lo : (dA == sysModules) = false)
    (n0 : PySem.W.nsIn K dA "double" = some (some (.int 2 t0))) (n1 : PySem.W.nsIn K dA "strike" = some (some (.int 2 t1))) (n2 : PySem.W.nsIn K dA "choose" = some (some (.int 5 t2))) (n3 : PySem.W.nsIn K dA "fly" = some (some (.int 4 t3))) :
    ∃ dA es n, PySem.W.nsIn K mainGlobals "SIZES" = some (some (.ref dA)) ∧ KDict K w dA es n ∧ KDct K w dA "double" (.int 2) ∧ KDct K w dA "strike" (.int 2) ∧ KDct K w dA "choose" (.int 5) ∧ KDct K w dA "fly" (.int 4) :=
  ⟨dA, es, n, a, ⟨l, t, lo⟩, ⟨es, n, _, l, t, n0, ⟨_, rfl⟩⟩, ⟨es, n, _, l, t, n1, ⟨_, rfl⟩⟩, ⟨es, n, _, l, t, n2, ⟨_, rfl⟩⟩, ⟨es, n, _, l, t, n3, ⟨_, rfl⟩⟩⟩
def sp_lawK (K : PySem.W.Frag) : Sp := Lsp (fun ds h Q => ∃ (a : Addr) (ns : List Int), ds = [.ref a] ∧ ScrA K h a ns ∧ ∀ h', Q (.bl true) h')
theorem finish {P : Program} {w : World} {K : PySem.W.Frag} {h : Heap} {mg : Str → Option Value} {fa C : Addr} (X : K.In h) (G : h.Ns mainGlobals mg) (hfa : mg "law" = some (.ref fa)) (t : TopK K w C) :
    ∃ fd : FuncData, (∀ (s : Shared) (v : Value), BindsTo s fd ⟨[v], []⟩ [("_law_script", v)]) ∧ ∀ base : Heap, K.In base → base.Ns mainGlobals mg → FnOk P w K mg base CX0 14 fa fd ["_law_script"] (sp_lawK K) := by
  obtain ⟨f, fd, a, F⟩ := t.d_law
  have e := hfa.symm.trans (PySem.W.mg_of X G a)
  cases e
  refine ⟨fd, fun s v => ?_, fun base _ _ => law_fn (T := ⟨P, w, K, mg, base⟩) (Top.of X G t) F⟩
  obtain ⟨oc, od, kV, doc, pm, an, cdv, ct, osl, rfl, _⟩ := F.ex
  exact .of_eq rfl
theorem walk {l : PySem.W.OpenLaw} {q : Program} {loose : List Str} {XP : (Str → Option Value) → Heap → Prop} {YP : World → Heap → Prop} {d : DefRec} {K : Params → PySem.W.Frag} (hn : l.most = some 63) (hdf : d.params.defaults = []) (hnm : d.name = "law")
    (hY : ∀ (w : World) (h : Heap), YP w h → (K w.params).In h) (C : Addr) (F : ∀ w : World, TopK (K w.params) w C) : PySem.W.WalkO q loose XP YP l.row.toRowW d [] (fun f vs => PySem.call f vs) :=
  L2.walk_ofK (n := 63) (k := 14) (x := "_law_script") (CX := CX0) (sp := sp_lawK) hn (by decide) hdf ⟨rfl, by decide, by decide⟩ hY (fun w mg fa h KX G hmg => finish KX G (by rw [← hnm]; exact hmg) (F w)) (fun K H a ns hl hO hS => by
    rcases hS with (z | ⟨o, z⟩) | z
    · rcases hO a with y | ⟨o, xs, y⟩
      · rw [z] at y; cases y
      · rw [z] at y; cases y
    · refine ⟨[.ref a], fun b => if b = a then some (.scr ns) else none, fun d _ => d = .bl true, .cons (.ref a) .nil, fun b u e => ?_, ⟨a, ns, rfl, .inl (if_pos rfl), fun h' => rfl⟩, fun v H' q => ?_⟩
      · by_cases hb : b = a
        · subst hb
          have e' := (if_pos rfl).symm.trans e
          cases e'
          exact ⟨_, z, o, rfl⟩
        · have e' := (if_neg hb).symm.trans e
          cases e'
      · obtain ⟨_, d, h', _, hd, rfl⟩ := q
        exact hd.bl_inv
    · refine ⟨[.ref a], fun b => none, fun d _ => d = .bl true, .cons (.ref a) .nil, fun b u e => (nomatch e), ⟨a, ns, rfl, .inr z, fun h' => rfl⟩, fun v H' q => ?_⟩
      obtain ⟨_, d, h', _, hd, rfl⟩ := q
      exact hd.bl_inv) fun H s e s' z => z
end Fy
end
open PySem PySem.W PyProof.Rows
set_option maxRecDepth 100000 in
set_option maxHeartbeats 0 in
theorem PySem.Challenge.cw_flyovers_k66_whole_knots_of_nets_holds : PySem.Challenge.rw_flyovers_k66_whole_knots_of_nets.Holds := by
  w_on; o_law; k_head; (case hw => w_witness2)
  k_fill
  refine' Fy.walk (l := PySem.Challenge.rw_flyovers_k66_whole_knots_of_nets) rfl rfl ?hnm (fun w h Y => PySem.W.kIn_of Y) ?C ?F
  case hnm => rfl
  case F =>
    intro w
    refine' { mgC := ?mgC, d_is_integer := ?d_is_integer, d_is_between := ?d_is_between, d_is_index := ?d_is_index, d_check_number := ?d_check_number, d_power_of := ?d_power_of, d_is_row := ?d_is_row, d_rows_of := ?d_rows_of, d_check_listed := ?d_check_listed, d_next_place := ?d_next_place, d_way_of := ?d_way_of, d_is_exchange := ?d_is_exchange, d_exchanged_by := ?d_exchanged_by, d_all_exchanges := ?d_all_exchanges, d_spread_from := ?d_spread_from, d_outs_of := ?d_outs_of, d_is_letters := ?d_is_letters, d_are_others := ?d_are_others, d_is_step_form := ?d_is_step_form, d_lanes_after := ?d_lanes_after, d_can_be := ?d_can_be, d_place_by := ?d_place_by, d_work := ?d_work, d_sources := ?d_sources, d_run_of := ?d_run_of, d_is_row_for := ?d_is_row_for, d_check_row_for := ?d_check_row_for, d_lanes_behind := ?d_lanes_behind, d_check_all := ?d_check_all, d_all_ins := ?d_all_ins, d_check_other := ?d_check_other, d_made := ?d_made, d_without_of := ?d_without_of, d_alike := ?d_alike, d_needless := ?d_needless, d_falls := ?d_falls, d_unknotted := ?d_unknotted, d_check_outs := ?d_check_outs, d_knot_number := ?d_knot_number, d_knotted := ?d_knotted, d_sources_of := ?d_sources_of, d_tidied := ?d_tidied, d_undoes := ?d_undoes, d_first_undone := ?d_first_undone, d_shortened := ?d_shortened, d_kinds_of := ?d_kinds_of, d_widest := ?d_widest, d_flights := ?d_flights, d_farthest_from := ?d_farthest_from, d_farthest := ?d_farthest, d_law_hand := ?d_law_hand, d_law_draw := ?d_law_draw, d_law_row := ?d_law_row, d_law_is_thin := ?d_law_is_thin, d_law_fewest := ?d_law_fewest, d_law_word := ?d_law_word, d_law_done := ?d_law_done, d_law_rises := ?d_law_rises, d_law_unknotted := ?d_law_unknotted, d_law_came := ?d_law_came, d_law_steps := ?d_law_steps, d_law_sizes_right := ?d_law_sizes_right, d_law_pairs := ?d_law_pairs, d_law_is_far_right := ?d_law_is_far_right, d_law := ?d_law, b_len := ?b_len, b_abs := ?b_abs, b_max := ?b_max, b_min := ?b_min, b_all := ?b_all, b_any := ?b_any, b_sorted := ?b_sorted, b_isinstance := ?b_isinstance, b_zip := ?b_zip, b_enumerate := ?b_enumerate, b_range := ?b_range, b_int := ?b_int, b_tuple := ?b_tuple, b_list := ?b_list, b_set := ?b_set, b_dict := ?b_dict, b_bool := ?b_bool, b_str := ?b_str, MOST_LETTERS_checks := ?MOST_LETTERS_checks, MOST_LANES := ?MOST_LANES, MOST_ROWS := ?MOST_ROWS, MOST_LISTED := ?MOST_LISTED, MOST_ROAD := ?MOST_ROAD, MOST_OTHERS := ?MOST_OTHERS, MOST_TOLD := ?MOST_TOLD, MOST_FAR := ?MOST_FAR, MOST_LETTERS_knots := ?MOST_LETTERS_knots, cl := ?cl, n_kept_letters := ?n_kept_letters, n_kept_lanes := ?n_kept_lanes, n_kept_steps := ?n_kept_steps, n_kept_outs := ?n_kept_outs, n_kept_others := ?n_kept_others, mkC := ?mkC, kpC := ?kpC, m_init := ?m_init, m_keep := ?m_keep, m_steps := ?m_steps, m_outs := ?m_outs, m_flyovers := ?m_flyovers, isa := ?isa, sz := ?sz }
    case mgC => k_is
    (case d_is_integer => refine' Fy.defK_of ?a ?l ?c ?k; (case a => k_is); (case l => k_is); (case c => k_is); (case k => k_is))
    (case d_is_between => refine' Fy.defK_of ?a ?l ?c ?k; (case a => k_is); (case l => k_is); (case c => k_is); (case k => k_is))
    (case d_is_index => refine' Fy.defK_of ?a ?l ?c ?k; (case a => k_is); (case l => k_is); (case c => k_is); (case k => k_is))
    (case d_check_number => refine' Fy.defK_of ?a ?l ?c ?k; (case a => k_is); (case l => k_is); (case c => k_is); (case k => k_is))
    (case d_power_of => refine' Fy.defK_of ?a ?l ?c ?k; (case a => k_is); (case l => k_is); (case c => k_is); (case k => k_is))
    (case d_is_row => refine' Fy.defK_of ?a ?l ?c ?k; (case a => k_is); (case l => k_is); (case c => k_is); (case k => k_is))
    (case d_rows_of => refine' Fy.defK_of ?a ?l ?c ?k; (case a => k_is); (case l => k_is); (case c => k_is); (case k => k_is))
    (case d_check_listed => refine' Fy.defK_of ?a ?l ?c ?k; (case a => k_is); (case l => k_is); (case c => k_is); (case k => k_is))
    (case d_next_place => refine' Fy.defK_of ?a ?l ?c ?k; (case a => k_is); (case l => k_is); (case c => k_is); (case k => k_is))
    (case d_way_of => refine' Fy.defK_of ?a ?l ?c ?k; (case a => k_is); (case l => k_is); (case c => k_is); (case k => k_is))
    (case d_is_exchange => refine' Fy.defK_of ?a ?l ?c ?k; (case a => k_is); (case l => k_is); (case c => k_is); (case k => k_is))
    (case d_exchanged_by => refine' Fy.defK_of ?a ?l ?c ?k; (case a => k_is); (case l => k_is); (case c => k_is); (case k => k_is))
    (case d_all_exchanges => refine' Fy.defK_of ?a ?l ?c ?k; (case a => k_is); (case l => k_is); (case c => k_is); (case k => k_is))
    (case d_spread_from => refine' Fy.defK_of ?a ?l ?c ?k; (case a => k_is); (case l => k_is); (case c => k_is); (case k => k_is))
    (case d_outs_of => refine' Fy.defK_of ?a ?l ?c ?k; (case a => k_is); (case l => k_is); (case c => k_is); (case k => k_is))
    (case d_is_letters => refine' Fy.defK_of ?a ?l ?c ?k; (case a => k_is); (case l => k_is); (case c => k_is); (case k => k_is))
    (case d_are_others => refine' Fy.defK_of ?a ?l ?c ?k; (case a => k_is); (case l => k_is); (case c => k_is); (case k => k_is))
    (case d_is_step_form => refine' Fy.defK_of ?a ?l ?c ?k; (case a => k_is); (case l => k_is); (case c => k_is); (case k => k_is))
    (case d_lanes_after => refine' Fy.defK_of ?a ?l ?c ?k; (case a => k_is); (case l => k_is); (case c => k_is); (case k => k_is))
    (case d_can_be => refine' Fy.defK_of ?a ?l ?c ?k; (case a => k_is); (case l => k_is); (case c => k_is); (case k => k_is))
    (case d_place_by => refine' Fy.defK_of ?a ?l ?c ?k; (case a => k_is); (case l => k_is); (case c => k_is); (case k => k_is))
    (case d_work => refine' Fy.defK_of ?a ?l ?c ?k; (case a => k_is); (case l => k_is); (case c => k_is); (case k => k_is))
    (case d_sources => refine' Fy.defK_of ?a ?l ?c ?k; (case a => k_is); (case l => k_is); (case c => k_is); (case k => k_is))
    (case d_run_of => refine' Fy.defK_of ?a ?l ?c ?k; (case a => k_is); (case l => k_is); (case c => k_is); (case k => k_is))
    (case d_is_row_for => refine' Fy.defK_of ?a ?l ?c ?k; (case a => k_is); (case l => k_is); (case c => k_is); (case k => k_is))
    (case d_check_row_for => refine' Fy.defK_of ?a ?l ?c ?k; (case a => k_is); (case l => k_is); (case c => k_is); (case k => k_is))
    (case d_lanes_behind => refine' Fy.defK_of ?a ?l ?c ?k; (case a => k_is); (case l => k_is); (case c => k_is); (case k => k_is))
    (case d_check_all => refine' Fy.defK_of ?a ?l ?c ?k; (case a => k_is); (case l => k_is); (case c => k_is); (case k => k_is))
    (case d_all_ins => refine' Fy.defK_of ?a ?l ?c ?k; (case a => k_is); (case l => k_is); (case c => k_is); (case k => k_is))
    (case d_check_other => refine' Fy.defK_of ?a ?l ?c ?k; (case a => k_is); (case l => k_is); (case c => k_is); (case k => k_is))
    (case d_made => refine' Fy.defK_of ?a ?l ?c ?k; (case a => k_is); (case l => k_is); (case c => k_is); (case k => k_is))
    (case d_without_of => refine' Fy.defK_of ?a ?l ?c ?k; (case a => k_is); (case l => k_is); (case c => k_is); (case k => k_is))
    (case d_alike => refine' Fy.defK_of ?a ?l ?c ?k; (case a => k_is); (case l => k_is); (case c => k_is); (case k => k_is))
    (case d_needless => refine' Fy.defK_of ?a ?l ?c ?k; (case a => k_is); (case l => k_is); (case c => k_is); (case k => k_is))
    (case d_falls => refine' Fy.defK_of ?a ?l ?c ?k; (case a => k_is); (case l => k_is); (case c => k_is); (case k => k_is))
    (case d_unknotted => refine' Fy.defK_of ?a ?l ?c ?k; (case a => k_is); (case l => k_is); (case c => k_is); (case k => k_is))
    (case d_check_outs => refine' Fy.defK_of ?a ?l ?c ?k; (case a => k_is); (case l => k_is); (case c => k_is); (case k => k_is))
    (case d_knot_number => refine' Fy.defK_of ?a ?l ?c ?k; (case a => k_is); (case l => k_is); (case c => k_is); (case k => k_is))
    (case d_knotted => refine' Fy.defK_of ?a ?l ?c ?k; (case a => k_is); (case l => k_is); (case c => k_is); (case k => k_is))
    (case d_sources_of => refine' Fy.defK_of ?a ?l ?c ?k; (case a => k_is); (case l => k_is); (case c => k_is); (case k => k_is))
    (case d_tidied => refine' Fy.defK_of ?a ?l ?c ?k; (case a => k_is); (case l => k_is); (case c => k_is); (case k => k_is))
    (case d_undoes => refine' Fy.defK_of ?a ?l ?c ?k; (case a => k_is); (case l => k_is); (case c => k_is); (case k => k_is))
    (case d_first_undone => refine' Fy.defK_of ?a ?l ?c ?k; (case a => k_is); (case l => k_is); (case c => k_is); (case k => k_is))
    (case d_shortened => refine' Fy.defK_of ?a ?l ?c ?k; (case a => k_is); (case l => k_is); (case c => k_is); (case k => k_is))
    (case d_kinds_of => refine' Fy.defK_of ?a ?l ?c ?k; (case a => k_is); (case l => k_is); (case c => k_is); (case k => k_is))
    (case d_widest => refine' Fy.defK_of ?a ?l ?c ?k; (case a => k_is); (case l => k_is); (case c => k_is); (case k => k_is))
    (case d_flights => refine' Fy.defK_of ?a ?l ?c ?k; (case a => k_is); (case l => k_is); (case c => k_is); (case k => k_is))
    (case d_farthest_from => refine' Fy.defK_of ?a ?l ?c ?k; (case a => k_is); (case l => k_is); (case c => k_is); (case k => k_is))
    (case d_farthest => refine' Fy.defK_of ?a ?l ?c ?k; (case a => k_is); (case l => k_is); (case c => k_is); (case k => k_is))
    (case d_law_hand => refine' Fy.defK_of ?a ?l ?c ?k; (case a => k_is); (case l => k_is); (case c => k_is); (case k => k_is))
    (case d_law_draw => refine' Fy.defK_of ?a ?l ?c ?k; (case a => k_is); (case l => k_is); (case c => k_is); (case k => k_is))
    (case d_law_row => refine' Fy.defK_of ?a ?l ?c ?k; (case a => k_is); (case l => k_is); (case c => k_is); (case k => k_is))
    (case d_law_is_thin => refine' Fy.defK_of ?a ?l ?c ?k; (case a => k_is); (case l => k_is); (case c => k_is); (case k => k_is))
    (case d_law_fewest => refine' Fy.defK_of ?a ?l ?c ?k; (case a => k_is); (case l => k_is); (case c => k_is); (case k => k_is))
    (case d_law_word => refine' Fy.defK_of ?a ?l ?c ?k; (case a => k_is); (case l => k_is); (case c => k_is); (case k => k_is))
    (case d_law_done => refine' Fy.defK_of ?a ?l ?c ?k; (case a => k_is); (case l => k_is); (case c => k_is); (case k => k_is))
    (case d_law_rises => refine' Fy.defK_of ?a ?l ?c ?k; (case a => k_is); (case l => k_is); (case c => k_is); (case k => k_is))
    (case d_law_unknotted => refine' Fy.defK_of ?a ?l ?c ?k; (case a => k_is); (case l => k_is); (case c => k_is); (case k => k_is))
    (case d_law_came => refine' Fy.defK_of ?a ?l ?c ?k; (case a => k_is); (case l => k_is); (case c => k_is); (case k => k_is))
    (case d_law_steps => refine' Fy.defK_of ?a ?l ?c ?k; (case a => k_is); (case l => k_is); (case c => k_is); (case k => k_is))
    (case d_law_sizes_right => refine' Fy.defK_of ?a ?l ?c ?k; (case a => k_is); (case l => k_is); (case c => k_is); (case k => k_is))
    (case d_law_pairs => refine' Fy.defK_of ?a ?l ?c ?k; (case a => k_is); (case l => k_is); (case c => k_is); (case k => k_is))
    (case d_law_is_far_right => refine' Fy.defK_of ?a ?l ?c ?k; (case a => k_is); (case l => k_is); (case c => k_is); (case k => k_is))
    (case d_law => refine' Fy.defK_of ?a ?l ?c ?k; (case a => k_is); (case l => k_is); (case c => k_is); (case k => k_is))
    (case b_len => k_is)
    (case b_abs => k_is)
    (case b_max => k_is)
    (case b_min => k_is)
    (case b_all => k_is)
    (case b_any => k_is)
    (case b_sorted => k_is)
    (case b_isinstance => k_is)
    (case b_zip => k_is)
    (case b_enumerate => k_is)
    (case b_range => k_is)
    (case b_int => k_is)
    (case b_tuple => k_is)
    (case b_list => k_is)
    (case b_set => k_is)
    (case b_dict => k_is)
    (case b_bool => k_is)
    (case b_str => k_is)
    (case MOST_LETTERS_checks => refine' Fy.conK_of ?a; (case a => k_is))
    (case MOST_LANES => refine' Fy.conK_of ?a; (case a => k_is))
    (case MOST_ROWS => refine' Fy.conK_of ?a; (case a => k_is))
    (case MOST_LISTED => refine' Fy.conK_of ?a; (case a => k_is))
    (case MOST_ROAD => refine' Fy.conK_of ?a; (case a => k_is))
    (case MOST_OTHERS => refine' Fy.conK_of ?a; (case a => k_is))
    (case MOST_TOLD => refine' Fy.conK_of ?a; (case a => k_is))
    (case MOST_FAR => refine' Fy.conK_of ?a; (case a => k_is))
    (case MOST_LETTERS_knots => refine' Fy.conK_of ?a; (case a => k_is))
    (case cl => refine' ⟨?pg, ?hd, ?po, ?sa⟩; (case pg => k_is); (case hd => k_is); (case po => k_is); (case sa => k_is))
    (case n_kept_letters => k_is)
    (case n_kept_lanes => k_is)
    (case n_kept_steps => k_is)
    (case n_kept_outs => k_is)
    (case n_kept_others => k_is)
    (case mkC => k_is); (case kpC => k_is)
    (case m_init => refine' Fy.metK_of ?a ?i ?l ?c ?k; (case a => k_is); (case i => k_is); (case l => k_is); (case c => k_is); (case k => k_is))
    (case m_keep => refine' Fy.metK_of ?a ?i ?l ?c ?k; (case a => k_is); (case i => k_is); (case l => k_is); (case c => k_is); (case k => k_is))
    (case m_steps => refine' Fy.metK_of ?a ?i ?l ?c ?k; (case a => k_is); (case i => k_is); (case l => k_is); (case c => k_is); (case k => k_is))
    (case m_outs => refine' Fy.metK_of ?a ?i ?l ?c ?k; (case a => k_is); (case i => k_is); (case l => k_is); (case c => k_is); (case k => k_is))
    (case m_flyovers => refine' Fy.metK_of ?a ?i ?l ?c ?k; (case a => k_is); (case i => k_is); (case l => k_is); (case c => k_is); (case k => k_is))
    (case isa => refine' ⟨?cl, ?ha, ?hn, ?htk, ?hm, ?me⟩; (case cl => refine' ⟨?pg, ?hd, ?po, ?sa⟩; (case pg => k_is); (case hd => k_is); (case po => k_is); (case sa => k_is)); (case ha => k_is); (case hn => k_is); (case htk => k_is); (case hm => k_is); (case me => kit_is))
    (case sz => refine' Fy.szK_of ?a ?l ?t ?lo ?n0 ?n1 ?n2 ?n3; (case a => k_is); (case l => k_is); (case t => exact ⟨⟨_, _, rfl, rfl⟩, ⟨_, _, rfl, rfl⟩, ⟨_, _, rfl, rfl⟩, ⟨_, _, rfl, rfl⟩, trivial⟩); (case lo => rfl); (case n0 => k_is); (case n1 => k_is); (case n2 => k_is); (case n3 => k_is))
