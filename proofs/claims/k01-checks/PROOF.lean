import PyProof.Rows.All
import Wide.All
import OpenK.AllK
import Wide.FinOn
import HandS.ForMost
import HandS.IsInst
import HandS.Wide
import HandS.Defaults
import HandS.HeadEnd
import HandS.Exc
import PyProof.ListStr
import PyProof.CallFns
import PyProof.ReprRoads
import HandS.Set
import HandS.Strs
import PySem.Challenge.RW_oneboard_k01_checks_of_any_values
import HandS.Head2
import HandS.HeadHook2
set_option Elab.async false
set_option linter.all false
set_option maxRecDepth 100000
set_option maxHeartbeats 2000000
/-! D1: readings of the hand layer told by data alone: values as trees (D), the few changing objects by address (MS), no heap. -/
namespace Dl
open PySem PySem.Spec PyProof.Rows L2

/-- a value as a tree; ref: an object told by its address alone -/
inductive D where
  | non | bl (b : Bool) | int (i : Int) | str (x : Str) | ty (n : String) | ref (a : Addr)
  | lst (xs : List D) | tup (xs : List D) | dct (ks : List (Key × D))
  /-- the script: a list of ints that nothing changes -/
  | scr (ns : List Int)

/-- a list at a, away from P, or one of the written part -/
def SqP (K : PySem.W.Frag) (P : Addr → Prop) (H : Hp) (a : Addr) (vs : List V) : Prop := (¬ P a ∧ Rd H a (.lst vs)) ∨ SqL K (fun _ => none) a vs
def TqP (K : PySem.W.Frag) (P : Addr → Prop) (H : Hp) (a : Addr) (vs : List V) : Prop := (¬ P a ∧ Rd H a (.tup vs)) ∨ SqT K (fun _ => none) a vs
mutual
/-- the value v is the tree d in H, and leans on no address of P -/
inductive IsV (K : PySem.W.Frag) (P : Addr → Prop) (H : Hp) : V → D → Prop
  | non : IsV K P H .non .non
  | bl (b : Bool) : IsV K P H (.bl b) (.bl b)
  | int (i : Int) : IsV K P H (.int i) (.int i)
  | str (x : Str) : IsV K P H (.str x) (.str x)
  | ty (n : String) : IsV K P H (.ty n) (.ty n)
  | ref (a : Addr) : IsV K P H (.ref a) (.ref a)
  | lst {a : Addr} {vs : List V} {ds : List D} : ¬ P a → H a = some (.lst vs) → IsVs K P H vs ds → IsV K P H (.ref a) (.lst ds)
  | scr {a : Addr} {ns : List Int} : SqP K P H a (ns.map V.int) → IsV K P H (.ref a) (.scr ns)
  | tup {a : Addr} {vs : List V} {ds : List D} : TqP K P H a vs → IsVs K P H vs ds → IsV K P H (.ref a) (.tup ds)
  | dct {a : Addr} {kvs : List (Key × V)} {ks : List (Key × D)} : ¬ P a → Rd H a (.dK kvs) → IsKs K P H kvs ks → IsV K P H (.ref a) (.dct ks)
inductive IsVs (K : PySem.W.Frag) (P : Addr → Prop) (H : Hp) : List V → List D → Prop
  | nil : IsVs K P H [] []
  | cons {v : V} {d : D} {vs : List V} {ds : List D} : IsV K P H v d → IsVs K P H vs ds → IsVs K P H (v :: vs) (d :: ds)
inductive IsKs (K : PySem.W.Frag) (P : Addr → Prop) (H : Hp) : List (Key × V) → List (Key × D) → Prop
  | nil : IsKs K P H [] []
  | cons {k : Key} {v : V} {d : D} {kvs : List (Key × V)} {ks : List (Key × D)} : IsV K P H v d → IsKs K P H kvs ks → IsKs K P H ((k, v) :: kvs) ((k, d) :: ks)
end

/-- from (P, H) to (P', H') nothing that a tree leans on is lost -/
def Kp (P P' : Addr → Prop) (H H' : Hp) : Prop := ∀ a o, ¬ P a → H a = some o → ¬ P' a ∧ H' a = some o
theorem Kp.rd {P P' : Addr → Prop} {H H' : Hp} {a : Addr} {u : HO} (k : Kp P P' H H') (n : ¬ P a) (h : Rd H a u) : ¬ P' a ∧ Rd H' a u := by
  rcases h with h | ⟨o, h⟩
  · exact ⟨(k a _ n h).1, .inl (k a _ n h).2⟩
  · exact ⟨(k a _ n h).1, .inr ⟨o, (k a _ n h).2⟩⟩
theorem SqP.kp {K : PySem.W.Frag} {P P' : Addr → Prop} {H H' : Hp} {a : Addr} {vs : List V} (k : Kp P P' H H') (h : SqP K P H a vs) : SqP K P' H' a vs := by
  rcases h with ⟨n, h⟩ | h
  · exact .inl (k.rd n h)
  · exact .inr h
theorem TqP.kp {K : PySem.W.Frag} {P P' : Addr → Prop} {H H' : Hp} {a : Addr} {vs : List V} (k : Kp P P' H H') (h : TqP K P H a vs) : TqP K P' H' a vs := by
  rcases h with ⟨n, h⟩ | h
  · exact .inl (k.rd n h)
  · exact .inr h
mutual
theorem IsV.kp {K : PySem.W.Frag} {P P' : Addr → Prop} {H H' : Hp} (k : Kp P P' H H') : ∀ (d : D) (v : V), IsV K P H v d → IsV K P' H' v d
  | .non, _, h => by cases h; exact .non
  | .bl _, _, h => by cases h; exact .bl _
  | .int _, _, h => by cases h; exact .int _
  | .str _, _, h => by cases h; exact .str _
  | .ty _, _, h => by cases h; exact .ty _
  | .ref _, _, h => by cases h; exact .ref _
  | .lst ds, _, h => by
    cases h with
    | lst h0 h1 h2 => exact .lst (k _ _ h0 h1).1 (k _ _ h0 h1).2 (IsVs.kp k ds _ h2)
  | .scr _, _, h => by
    cases h with
    | scr h1 => exact .scr (h1.kp k)
  | .tup ds, _, h => by
    cases h with
    | tup h1 h2 => exact .tup (h1.kp k) (IsVs.kp k ds _ h2)
  | .dct ks, _, h => by
    cases h with
    | dct h0 h1 h2 => exact .dct (k.rd h0 h1).1 (k.rd h0 h1).2 (IsKs.kp k ks _ h2)
theorem IsVs.kp {K : PySem.W.Frag} {P P' : Addr → Prop} {H H' : Hp} (k : Kp P P' H H') : ∀ (ds : List D) (vs : List V), IsVs K P H vs ds → IsVs K P' H' vs ds
  | [], _, h => by cases h; exact .nil
  | d :: ds, _, h => by
    cases h with
    | cons h1 h2 => exact .cons (IsV.kp k d _ h1) (IsVs.kp k ds _ h2)
theorem IsKs.kp {K : PySem.W.Frag} {P P' : Addr → Prop} {H H' : Hp} (k : Kp P P' H H') : ∀ (ks : List (Key × D)) (kvs : List (Key × V)), IsKs K P H kvs ks → IsKs K P' H' kvs ks
  | [], _, h => by cases h; exact .nil
  | (_, d) :: ks, _, h => by
    cases h with
    | cons h1 h2 => exact .cons (IsV.kp k d _ h1) (IsKs.kp k ks _ h2)
end
theorem sqL_up {K : PySem.W.Frag} {H : Hp} {a : Addr} {vs : List V} (h : SqL K (fun _ => none) a vs) : SqL K H a vs := by
  rcases h with (h | ⟨o, h⟩) | h
  · cases h
  · cases h
  · exact .inr h
theorem sqT_up {K : PySem.W.Frag} {H : Hp} {a : Addr} {vs : List V} (h : SqT K (fun _ => none) a vs) : SqT K H a vs := by
  rcases h with (h | ⟨o, h⟩) | h
  · cases h
  · cases h
  · exact .inr h
theorem SqP.sq {K : PySem.W.Frag} {P : Addr → Prop} {H : Hp} {a : Addr} {vs : List V} (h : SqP K P H a vs) : SqL K H a vs := by
  rcases h with ⟨_, h⟩ | h
  · exact .inl h
  · exact sqL_up h
theorem TqP.sq {K : PySem.W.Frag} {P : Addr → Prop} {H : Hp} {a : Addr} {vs : List V} (h : TqP K P H a vs) : SqT K H a vs := by
  rcases h with ⟨_, h⟩ | h
  · exact .inl h
  · exact sqT_up h

/-! ### lists of values -/
section
variable {K : PySem.W.Frag} {P P' : Addr → Prop} {H H' : Hp}
theorem IsVs.length : ∀ {vs : List V} {ds : List D}, IsVs K P H vs ds → vs.length = ds.length
  | _, _, .nil => rfl
  | _, _, .cons _ t => congrArg Nat.succ t.length
theorem IsVs.get : ∀ {vs : List V} {ds : List D} {i : Nat} {d : D}, IsVs K P H vs ds → ds[i]? = some d → ∃ v, vs[i]? = some v ∧ IsV K P H v d
  | _, _, _, _, .nil, e => by simp at e
  | _, _, 0, _, .cons h _, e => ⟨_, rfl, (Option.some.inj e) ▸ h⟩
  | _, _, i + 1, d, .cons _ t, e => by
    have e' := e
    rw [List.getElem?_cons_succ] at e'
    obtain ⟨v, h1, h2⟩ := t.get e'
    exact ⟨v, by rw [List.getElem?_cons_succ]; exact h1, h2⟩
theorem IsVs.getV : ∀ {vs : List V} {ds : List D} {i : Nat} {v : V}, IsVs K P H vs ds → vs[i]? = some v → ∃ d, ds[i]? = some d ∧ IsV K P H v d
  | _, _, _, _, .nil, e => by simp at e
  | _, _, 0, _, .cons h _, e => ⟨_, rfl, (Option.some.inj e) ▸ h⟩
  | _, _, i + 1, d, .cons _ t, e => by
    have e' := e
    rw [List.getElem?_cons_succ] at e'
    obtain ⟨v, h1, h2⟩ := t.getV e'
    exact ⟨v, by rw [List.getElem?_cons_succ]; exact h1, h2⟩
theorem IsVs.append : ∀ {vs ws : List V} {ds es : List D}, IsVs K P H vs ds → IsVs K P H ws es → IsVs K P H (vs ++ ws) (ds ++ es)
  | _, _, _, _, .nil, s => s
  | _, _, _, _, .cons h t, s => .cons h (t.append s)
theorem IsVs.take : ∀ {vs : List V} {ds : List D} (n : Nat), IsVs K P H vs ds → IsVs K P H (vs.take n) (ds.take n)
  | _, _, 0, _ => .nil
  | _, _, _ + 1, .nil => .nil
  | _, _, n + 1, .cons h t => .cons h (t.take n)
theorem IsVs.drop : ∀ {vs : List V} {ds : List D} (n : Nat), IsVs K P H vs ds → IsVs K P H (vs.drop n) (ds.drop n)
  | _, _, 0, r => r
  | _, _, _ + 1, .nil => .nil
  | _, _, n + 1, .cons _ t => t.drop n
theorem IsVs.set {v : V} {d : D} (h : IsV K P H v d) : ∀ {vs : List V} {ds : List D} (i : Nat), IsVs K P H vs ds → IsVs K P H (vs.set i v) (ds.set i d)
  | _, _, _, .nil => .nil
  | _, _, 0, .cons _ t => .cons h t
  | _, _, i + 1, .cons q t => .cons q (IsVs.set h i t)
theorem IsVs.ints : ∀ ns : List Int, IsVs K P H (ns.map V.int) (ns.map D.int)
  | [] => .nil
  | n :: ns => .cons (.int n) (IsVs.ints ns)
theorem IsVs.strs : ∀ ns : List Str, IsVs K P H (ns.map V.str) (ns.map D.str)
  | [] => .nil
  | n :: ns => .cons (.str n) (IsVs.strs ns)
theorem IsVs.of_ints : ∀ {ns : List Int} {vs : List V}, IsVs K P H vs (ns.map D.int) → vs = ns.map V.int
  | [], _, h => by cases h; rfl
  | n :: ns, _, h => by
    cases h with
    | cons h1 h2 =>
      cases h1
      rw [IsVs.of_ints h2]
      rfl
theorem IsVs.of_strs : ∀ {ns : List Str} {vs : List V}, IsVs K P H vs (ns.map D.str) → vs = ns.map V.str
  | [], _, h => by cases h; rfl
  | n :: ns, _, h => by
    cases h with
    | cons h1 h2 =>
      cases h1
      rw [IsVs.of_strs h2]
      rfl
theorem IsVs.of_bls : ∀ {ns : List Bool} {vs : List V}, IsVs K P H vs (ns.map D.bl) → vs = ns.map V.bl
  | [], _, h => by cases h; rfl
  | n :: ns, _, h => by
    cases h with
    | cons h1 h2 =>
      cases h1
      rw [IsVs.of_bls h2]
      rfl
theorem IsV.to_lst {v : V} {ds : List D} (h : IsV K P H v (.lst ds)) : ∃ a vs, v = .ref a ∧ ¬ P a ∧ H a = some (.lst vs) ∧ IsVs K P H vs ds := by
  cases h with
  | lst h0 h1 h2 => exact ⟨_, _, rfl, h0, h1, h2⟩
theorem IsV.to_tup {v : V} {ds : List D} (h : IsV K P H v (.tup ds)) : ∃ a vs, v = .ref a ∧ TqP K P H a vs ∧ IsVs K P H vs ds := by
  cases h with
  | tup h1 h2 => exact ⟨_, _, rfl, h1, h2⟩
end

/-! ### the changing objects -/
inductive Cell where
  | lst (ds : List D) | dct (ks : List (Key × D))
  /-- what draws: the list of the cells ns, how many were begun (at most n), the rest of a great one -/
  | pen (ns : List Int) (n : Nat)
abbrev MS := Addr → Option Cell
abbrev M0 : MS := fun _ => none
def upM (M : MS) (a : Addr) (c : Cell) : MS := fun b => if b = a then some c else M b
theorem upM_same {M : MS} {a : Addr} {c : Cell} : upM M a c a = some c := if_pos rfl
theorem upM_ne {M : MS} {a b : Addr} {c : Cell} (h : b ≠ a) : upM M a c b = M b := if_neg h
theorem upM_upM {M : MS} {a : Addr} {c d : Cell} : upM (upM M a c) a d = upM M a d := by
  funext b
  by_cases h : b = a
  · rw [h, upM_same, upM_same]
  · rw [upM_ne h, upM_ne h, upM_ne h]
theorem upM_id {M : MS} {a : Addr} {c : Cell} (h : M a = some c) : upM M a c = M := by
  funext b
  by_cases e : b = a
  · rw [e, upM_same, h]
  · rw [upM_ne e]
/-- the addresses on which no tree may lean -/
def dm (F : Addr → Prop) (M : MS) : Addr → Prop := fun a => F a ∨ M a ≠ none
def PenOk (P : Addr → Prop) (H : Hp) (a : Addr) (ns : List Int) (n : Nat) : Prop :=
  ∃ (q : Addr) (t r : Int), H a = some (.lst [.ref q, .int t, .int r]) ∧ ¬ P q ∧ H q = some (.lst (ns.map V.int)) ∧ 0 ≤ t ∧ t ≤ (n : Int) ∧ 0 ≤ r
def CellOk (K : PySem.W.Frag) (P : Addr → Prop) (H : Hp) (a : Addr) : Cell → Prop
  | .lst ds => ∃ vs, H a = some (.lst vs) ∧ IsVs K P H vs ds
  | .dct ks => ∃ kvs, H a = some (.dK kvs) ∧ IsKs K P H kvs ks
  | .pen ns n => PenOk P H a ns n
theorem CellOk.there {K : PySem.W.Frag} {P : Addr → Prop} {H : Hp} {a : Addr} {c : Cell} (h : CellOk K P H a c) : H a ≠ none := by
  cases c with
  | lst ds => obtain ⟨_, e, _⟩ := h; rw [e]; exact nofun
  | dct ks => obtain ⟨_, e, _⟩ := h; rw [e]; exact nofun
  | pen ns n => obtain ⟨_, _, _, e, _⟩ := h; rw [e]; exact nofun
theorem CellOk.kp {K : PySem.W.Frag} {P P' : Addr → Prop} {H H' : Hp} {a : Addr} {c : Cell} (k : Kp P P' H H') (e : H' a = H a) (h : CellOk K P H a c) : CellOk K P' H' a c := by
  cases c with
  | lst ds => obtain ⟨vs, e1, h1⟩ := h; exact ⟨vs, e.trans e1, IsVs.kp k _ _ h1⟩
  | dct ks => obtain ⟨vs, e1, h1⟩ := h; exact ⟨vs, e.trans e1, IsKs.kp k _ _ h1⟩
  | pen ns n =>
    obtain ⟨q, t, r, e1, h0, h1, h2⟩ := h
    exact ⟨q, t, r, e.trans e1, (k _ _ h0 h1).1, (k _ _ h0 h1).2, h2⟩

structure RepM (K : PySem.W.Frag) (F : Addr → Prop) (H : Hp) (M : MS) : Prop where
  cel : ∀ a c, M a = some c → CellOk K (dm F M) H a c
  hid : ∀ a, F a → H a ≠ none
  sep : ∀ a, F a → M a = none
theorem RepM.there {K : PySem.W.Frag} {F : Addr → Prop} {H : Hp} {M : MS} (R : RepM K F H M) {a : Addr} (h : M a ≠ none) : H a ≠ none := by
  cases e : M a with
  | none => exact absurd e h
  | some c => exact (R.cel a c e).there
theorem RepM.fresh {K : PySem.W.Frag} {F : Addr → Prop} {H : Hp} {M : MS} (R : RepM K F H M) {a : Addr} (h : H a = none) : ¬ dm F M a := fun z => by
  rcases z with z | z
  · exact R.hid a z h
  · exact R.there z h
theorem RepM.freshM {K : PySem.W.Frag} {F : Addr → Prop} {H : Hp} {M : MS} (R : RepM K F H M) {a : Addr} (h : H a = none) : M a = none := by
  cases e : M a with
  | none => rfl
  | some c => exact absurd h (R.cel a c e).there

/-- a step of the run -/
structure Go (H : Hp) (M : MS) (H' : Hp) (M' : MS) : Prop where
  kp : ∀ a o, M a = none → H a = some o → H' a = some o
  dm : ∀ a, M a = none → M' a ≠ none → H a = none
  sm : ∀ a, H a ≠ none → H' a ≠ none
theorem Go.refl (H : Hp) (M : MS) : Go H M H M := ⟨fun _ _ _ h => h, fun _ h h' => absurd h h', fun _ h => h⟩
theorem Go.trans {H H1 H2 : Hp} {M M1 M2 : MS} (a : Go H M H1 M1) (b : Go H1 M1 H2 M2) : Go H M H2 M2 := by
  refine ⟨fun c o hm ho => ?_, fun c hm hm2 => ?_, fun c h => b.sm c (a.sm c h)⟩
  · refine b.kp c o ?_ (a.kp c o hm ho)
    cases e : M1 c with
    | none => rfl
    | some z =>
      have q := a.dm c hm (by rw [e]; exact nofun)
      rw [ho] at q
      cases q
  · cases e : M1 c with
    | some z => exact a.dm c hm (by rw [e]; exact nofun)
    | none =>
      have q := b.dm c e hm2
      cases e2 : H c with
      | none => rfl
      | some o =>
        have := a.sm c (by rw [e2]; exact nofun)
        exact absurd q this
theorem Go.to_kp {F : Addr → Prop} {H H' : Hp} {M M' : MS} (g : Go H M H' M') : Kp (Dl.dm F M) (Dl.dm F M') H H' := fun a o n h => by
  have hm : M a = none := by
    cases e : M a with
    | none => rfl
    | some z => exact absurd (Or.inr (by rw [e]; exact nofun)) n
  refine ⟨fun z => ?_, g.kp a o hm h⟩
  rcases z with z | z
  · exact n (.inl z)
  · have q := g.dm a hm z
    rw [h] at q
    cases q
theorem Go.new {K : PySem.W.Frag} {F : Addr → Prop} {H : Hp} {M : MS} {p : Addr} {o : HO} (h : H p = none) : Go H M (upd H p o) M :=
  ⟨fun a u _ e => by rw [upd_ne (ne_of_none e h)]; exact e, fun _ h h' => absurd h h', fun a e => by
    by_cases q : a = p
    · rw [q, upd_same]; exact nofun
    · rw [upd_ne q]; exact e⟩
theorem RepM.new {K : PySem.W.Frag} {F : Addr → Prop} {H : Hp} {M : MS} {p : Addr} {o : HO} (R : RepM K F H M) (h : H p = none) : RepM K F (upd H p o) M := by
  have g : Go H M (upd H p o) M := Go.new (K := K) (F := F) h
  refine ⟨fun a c e => (R.cel a c e).kp g.to_kp (upd_ne fun z => ?_), fun a z => g.sm a (R.hid a z), R.sep⟩
  subst z
  exact (R.cel a c e).there h
/-- a changing object is made -/
theorem Go.newM {K : PySem.W.Frag} {F : Addr → Prop} {H : Hp} {M : MS} {p : Addr} {o : HO} {c : Cell} (R : RepM K F H M) (h : H p = none) : Go H M (upd H p o) (upM M p c) :=
  ⟨fun a u _ e => by rw [upd_ne (ne_of_none e h)]; exact e, fun a h1 h2 => by
    by_cases q : a = p
    · rw [q]; exact h
    · rw [upM_ne q] at h2; exact absurd h1 h2, fun a e => by
    by_cases q : a = p
    · rw [q, upd_same]; exact nofun
    · rw [upd_ne q]; exact e⟩
theorem RepM.newM {K : PySem.W.Frag} {F : Addr → Prop} {H : Hp} {M : MS} {p : Addr} {o : HO} {c : Cell} (R : RepM K F H M) (h : H p = none) (hc : CellOk K (dm F (upM M p c)) (upd H p o) p c) : RepM K F (upd H p o) (upM M p c) := by
  have g : Go H M (upd H p o) (upM M p c) := Go.newM R h
  refine ⟨fun a d e => ?_, fun a z => g.sm a (R.hid a z), fun a z => ?_⟩
  · by_cases q : a = p
    · subst q
      rw [upM_same] at e
      cases e
      exact hc
    · rw [upM_ne q] at e
      exact (R.cel a d e).kp g.to_kp (upd_ne q)
  · have q : a ≠ p := fun q => R.hid a z (q ▸ h)
    rw [upM_ne q]
    exact R.sep a z
/-- a changing object is changed -/
theorem Go.chg {H : Hp} {M : MS} {p : Addr} {o : HO} {c : Cell} (h : M p ≠ none) : Go H M (upd H p o) (upM M p c) :=
  ⟨fun a u h1 e => by
    have q : a ≠ p := fun q => h (q ▸ h1)
    rw [upd_ne q]; exact e, fun a h1 h2 => by
    have q : a ≠ p := fun q => h (q ▸ h1)
    rw [upM_ne q] at h2
    exact absurd h1 h2, fun a e => by
    by_cases q : a = p
    · rw [q, upd_same]; exact nofun
    · rw [upd_ne q]; exact e⟩
theorem RepM.chg {K : PySem.W.Frag} {F : Addr → Prop} {H : Hp} {M : MS} {p : Addr} {o : HO} {c : Cell} (R : RepM K F H M) (h : M p ≠ none) (hc : CellOk K (dm F (upM M p c)) (upd H p o) p c) : RepM K F (upd H p o) (upM M p c) := by
  have g : Go H M (upd H p o) (upM M p c) := Go.chg h
  refine ⟨fun a d e => ?_, fun a z => g.sm a (R.hid a z), fun a z => ?_⟩
  · by_cases q : a = p
    · subst q
      rw [upM_same] at e
      cases e
      exact hc
    · rw [upM_ne q] at e
      exact (R.cel a d e).kp g.to_kp (upd_ne q)
  · have q : a ≠ p := fun q => h (q ▸ R.sep a z)
    rw [upM_ne q]
    exact R.sep a z

/-! ### the frame's values -/
abbrev GE := List (Option D)
structure Rep (K : PySem.W.Frag) (F : Addr → Prop) (σ : L2.St) (H : Hp) (Γ : GE) (M : MS) : Prop where
  env : ∀ (i : Nat) (d : D), Γ[i]? = some (some d) → ∃ v, σ[i]? = some (some v) ∧ IsV K (dm F M) H v d
  len : Γ.length = σ.length
  mem : RepM K F H M
theorem Rep.go {K : PySem.W.Frag} {F : Addr → Prop} {σ : L2.St} {H H' : Hp} {Γ : GE} {M M' : MS} (R : Rep K F σ H Γ M) (g : Go H M H' M') (R' : RepM K F H' M') : Rep K F σ H' Γ M' :=
  ⟨fun i d e => let ⟨v, h1, h2⟩ := R.env i d e; ⟨v, h1, IsV.kp g.to_kp _ _ h2⟩, R.len, R'⟩
theorem Rep.set {K : PySem.W.Frag} {F : Addr → Prop} {σ : L2.St} {H : Hp} {Γ : GE} {M : MS} {v : V} {d : D} (R : Rep K F σ H Γ M) (i : Nat) (h : IsV K (dm F M) H v d) : Rep K F (σ.set i (some v)) H (Γ.set i (some d)) M := by
  refine ⟨fun j e q => ?_, by rw [List.length_set, List.length_set]; exact R.len, R.mem⟩
  by_cases hj : i = j
  · subst hj
    have hl : i < Γ.length := by
      have := (List.getElem?_eq_some_iff.mp q).1
      rwa [List.length_set] at this
    rw [List.getElem?_set_self hl] at q
    cases q
    exact ⟨v, by rw [List.getElem?_set_self (by rw [← R.len]; exact hl)], h⟩
  · rw [List.getElem?_set_ne hj] at q
    obtain ⟨w, h1, h2⟩ := R.env j e q
    exact ⟨w, by rw [List.getElem?_set_ne hj]; exact h1, h2⟩
/-- less known -/
theorem Rep.less {K : PySem.W.Frag} {F : Addr → Prop} {σ : L2.St} {H : Hp} {Γ Γ' : GE} {M : MS} (R : Rep K F σ H Γ M) (hl : Γ'.length = Γ.length) (h : ∀ (i : Nat) (d : D), Γ'[i]? = some (some d) → Γ[i]? = some (some d)) : Rep K F σ H Γ' M :=
  ⟨fun i d e => R.env i d (h i d e), hl.trans R.len, R.mem⟩
end Dl

set_option Elab.async false
set_option linter.all false
set_option maxRecDepth 100000
set_option maxHeartbeats 2000000
/-! D2: the judgements of the hand layer by data (liE, liT, liA, liS), and the rules of expressions. -/
namespace Dl
open PySem PySem.Spec PyProof.Rows L2

/-- what is wanted of an exception: its class, its fields, the changing objects -/
abbrev KX := Addr → List (Str × D) → MS → Prop
abbrev KD := D → MS → Prop
abbrev FE := GE → MS → KD → KX → Prop
abbrev FT := GE → MS → (Bool → MS → Prop) → KX → Prop
abbrev FA := GE → MS → (List D → MS → Prop) → KX → Prop
abbrev FO := GE → MS → (Option Int → MS → Prop) → KX → Prop
structure Nd where
  nx : GE → MS → Prop
  rt : KD
  bk : GE → MS → Prop := fun _ _ => False
  ct : GE → MS → Prop := fun _ _ => False
  ex : KX
abbrev FS := Nd → GE → MS → Prop
def XdOk (K : PySem.W.Frag) (P : Addr → Prop) (H : Hp) (d : Option Addr) (fs : List (Str × D)) : Prop :=
  (d = none ∧ fs = []) ∨ ∃ a vs, d = some a ∧ H a = some (.xd vs) ∧ vs.map (·.1) = fs.map (·.1) ∧ IsVs K P H (vs.map (·.2)) (fs.map (·.2))
def LinkX (K : PySem.W.Frag) (F : Addr → Prop) (H : Hp) (M : MS) (E : XK) (kx : KX) : Prop :=
  ∀ C fs M' d H', kx C fs M' → Go H M H' M' → RepM K F H' M' → XdOk K (dm F M') H' d fs → E (.ref C) d H'
def Link (K : PySem.W.Frag) (F : Addr → Prop) (H : Hp) (M : MS) (k : KD) (Q : VK) : Prop :=
  ∀ d M' v H', k d M' → Go H M H' M' → RepM K F H' M' → IsV K (dm F M') H' v d → Q v H'
def LinkT (K : PySem.W.Frag) (F : Addr → Prop) (H : Hp) (M : MS) (k : Bool → MS → Prop) (Q : Bool → Hp → Prop) : Prop :=
  ∀ b M' H', k b M' → Go H M H' M' → RepM K F H' M' → Q b H'
def LinkA (K : PySem.W.Frag) (F : Addr → Prop) (H : Hp) (M : MS) (k : List D → MS → Prop) (Q : List V → Hp → Prop) : Prop :=
  ∀ ds M' vs H', k ds M' → Go H M H' M' → RepM K F H' M' → IsVs K (dm F M') H' vs ds → Q vs H'
def LinkN (K : PySem.W.Frag) (F : Addr → Prop) (H : Hp) (M : MS) (k : GE → MS → Prop) (Q : L2.St → Hp → Prop) : Prop :=
  ∀ Γ' M' σ' H', k Γ' M' → Go H M H' M' → Rep K F σ' H' Γ' M' → Q σ' H'
structure LinkS (K : PySem.W.Frag) (F : Addr → Prop) (H : Hp) (M : MS) (N : Nd) (D : Ends) (E : XK) : Prop where
  nx : LinkN K F H M N.nx D.nx
  rt : Link K F H M N.rt D.rt
  bk : LinkN K F H M N.bk D.bk
  ct : LinkN K F H M N.ct D.ct
  ex : LinkX K F H M E N.ex
section
variable {K : PySem.W.Frag} {F : Addr → Prop} {H H1 : Hp} {M M1 : MS} {E : XK} {kx : KX}
theorem LinkX.go (g : Go H M H1 M1) (L : LinkX K F H M E kx) : LinkX K F H1 M1 E kx := fun C fs M' d H' h g' R x => L C fs M' d H' h (g.trans g') R x
theorem Link.go {k : KD} {Q : VK} (g : Go H M H1 M1) (L : Link K F H M k Q) : Link K F H1 M1 k Q := fun d M' v H' h g' R x => L d M' v H' h (g.trans g') R x
theorem LinkT.go {k : Bool → MS → Prop} {Q : Bool → Hp → Prop} (g : Go H M H1 M1) (L : LinkT K F H M k Q) : LinkT K F H1 M1 k Q := fun d M' H' h g' R => L d M' H' h (g.trans g') R
theorem LinkA.go {k : List D → MS → Prop} {Q : List V → Hp → Prop} (g : Go H M H1 M1) (L : LinkA K F H M k Q) : LinkA K F H1 M1 k Q := fun d M' v H' h g' R x => L d M' v H' h (g.trans g') R x
theorem LinkN.go {k : GE → MS → Prop} {Q : L2.St → Hp → Prop} (g : Go H M H1 M1) (L : LinkN K F H M k Q) : LinkN K F H1 M1 k Q := fun d M' v H' h g' R => L d M' v H' h (g.trans g') R
theorem LinkS.go {N : Nd} {D : Ends} (g : Go H M H1 M1) (L : LinkS K F H M N D E) : LinkS K F H1 M1 N D E := ⟨L.nx.go g, L.rt.go g, L.bk.go g, L.ct.go g, L.ex.go g⟩
end
def liE (K : PySem.W.Frag) (E : XK) (f : FE) : TE := fun σ H Q => ∃ F Γ M k kx, Rep K F σ H Γ M ∧ f Γ M k kx ∧ LinkX K F H M E kx ∧ Link K F H M k Q
def liT (K : PySem.W.Frag) (E : XK) (f : FT) : TT := fun σ H Q => ∃ F Γ M k kx, Rep K F σ H Γ M ∧ f Γ M k kx ∧ LinkX K F H M E kx ∧ LinkT K F H M k Q
def liA (K : PySem.W.Frag) (E : XK) (f : FA) : TA := fun σ H Q => ∃ F Γ M k kx, Rep K F σ H Γ M ∧ f Γ M k kx ∧ LinkX K F H M E kx ∧ LinkA K F H M k Q
def liO (K : PySem.W.Frag) (E : XK) (f : FO) : TO := fun σ H Q => ∃ F Γ M k kx, Rep K F σ H Γ M ∧ f Γ M k kx ∧ LinkX K F H M E kx ∧ ∀ o M' H', k o M' → Go H M H' M' → RepM K F H' M' → Q o H'
def liS (K : PySem.W.Frag) (E : XK) (f : FS) : TS := fun D σ H => ∃ F Γ M N, Rep K F σ H Γ M ∧ f N Γ M ∧ LinkS K F H M N D E
abbrev DE (X : Cx) (E : XK) (e : Expr) (f : FE) : Prop := PE X e (liE X.K E f)
abbrev DT (X : Cx) (E : XK) (e : Expr) (f : FT) : Prop := PT X e (liT X.K E f)
abbrev DW (X : Cx) (E : XK) (e : Expr) (f : FT) : Prop := PW X e (liT X.K E f)
abbrev DA (X : Cx) (E : XK) (es : List Expr) (f : FA) : Prop := PA X es (liA X.K E f)
abbrev DO (X : Cx) (E : XK) (e : Option Expr) (f : FO) : Prop := PO X e (liO X.K E f)
abbrev DS (X : Cx) (E : XK) (s : Stmt) (f : FS) : Prop := PS X s (liS X.K E f)
abbrev DSs (X : Cx) (E : XK) (s : List Stmt) (f : FS) : Prop := PSs X s (liS X.K E f)

/-! ### weaker readings -/
section
variable {X : Cx}
theorem pe_w {e : Expr} {t t' : TE} (h : PE X e t) (w : ∀ σ H Q, t' σ H Q → t σ H Q) : PE X e t' := ⟨fun pins s σ H Q I q => h.run pins s σ H Q I (w σ H Q q)⟩
theorem pt_w {e : Expr} {t t' : TT} (h : PT X e t) (w : ∀ σ H Q, t' σ H Q → t σ H Q) : PT X e t' := ⟨fun pins s σ H Q I q => h.run pins s σ H Q I (w σ H Q q)⟩
theorem pw_w {e : Expr} {t t' : TT} (h : PW X e t) (w : ∀ σ H Q, t' σ H Q → t σ H Q) : PW X e t' := ⟨fun wh pins s σ H Q I q => h.run wh pins s σ H Q I (w σ H Q q)⟩
theorem pa_w {e : List Expr} {t t' : TA} (h : PA X e t) (w : ∀ σ H Q, t' σ H Q → t σ H Q) : PA X e t' := ⟨fun pos pins s σ H Q I q => h.run pos pins s σ H Q I (w σ H Q q)⟩
theorem po_w {e : Option Expr} {t t' : TO} (h : PO X e t) (w : ∀ σ H Q, t' σ H Q → t σ H Q) : PO X e t' := ⟨fun pins s σ H Q I q => h.run pins s σ H Q I (w σ H Q q)⟩
theorem ps_w {e : Stmt} {t t' : TS} (h : PS X e t) (w : ∀ D σ H, t' D σ H → t D σ H) : PS X e t' := ⟨fun pins s σ H D I q => h.run pins s σ H D I (w D σ H q)⟩
theorem pss_w {e : List Stmt} {t t' : TS} (h : PSs X e t) (w : ∀ D σ H, t' D σ H → t D σ H) : PSs X e t' := ⟨fun pins s σ H D I q => h.run pins s σ H D I (w D σ H q)⟩
end

/-! ### names, constants -/
section
variable {X : Cx} {E : XK} {pos : Pos}
def fVar (i : Nat) : FE := fun Γ M k _ => ∃ d, Γ[i]? = some (some d) ∧ k d M
def fC (d : D) : FE := fun _ M k _ => k d M
theorem de_var (i : Nat) {x : Str} (hN : X.N[i]? = some x := by rfl) (hv : Vis X.env.scope x := by first | exact Or.inl rfl | exact Or.inr (Or.inl rfl) | exact Or.inr (Or.inr rfl)) (hd : (x == ("__debug__" : Str)) = false := by decide)
    (hcd : (x == ("__classdict__" : Str)) = false := by decide) : DE X E (.Name x pos) (fVar i) :=
  pe_w (pe_var hN hv hd hcd) fun σ H Q ⟨F, Γ, M, k, kx, R, ⟨d, e, h⟩, _, L⟩ => let ⟨v, e1, h1⟩ := R.env i d e; ⟨v, e1, L d M v H h (Go.refl _ _) R.mem h1⟩
/-- a value that leans on nothing -/
theorem de_const {e : Expr} {v : V} {d : D} (h : PE X e (tC v)) (hv : ∀ K P H, IsV K P H v d) : DE X E e (fC d) :=
  pe_w h fun σ H Q ⟨F, Γ, M, k, kx, R, q, _, L⟩ => L d M v H q (Go.refl _ _) R.mem (hv _ _ _)
theorem de_int {i j} : DE X E (.Constant (.int i) j pos) (fC (.int i)) := de_const pe_int fun _ _ _ => .int _
theorem de_bl {b j} : DE X E (.Constant (.bool b) j pos) (fC (.bl b)) := de_const pe_bl fun _ _ _ => .bl _
theorem de_non {j} : DE X E (.Constant .none j pos) (fC .non) := de_const pe_non fun _ _ _ => .non
theorem de_str {x j} : DE X E (.Constant (.str x) j pos) (fC (.str x)) := de_const pe_str fun _ _ _ => .str _
/-- a module's int, a module's text -/
theorem de_gint {x : Str} {i : Int} {t : Tok} (hg : Gl X x) (hm : X.mg x = some (.int i t)) (hd : (x == ("__debug__" : Str)) = false := by decide) : DE X E (.Name x pos) (fC (.int i)) := de_const (pe_glob (v := .int i) hg hm ⟨t, rfl⟩ hd) fun _ _ _ => .int _
theorem de_gstr {x y : Str} {t : Tok} (hg : Gl X x) (hm : X.mg x = some (.str y t)) (hd : (x == ("__debug__" : Str)) = false := by decide) : DE X E (.Name x pos) (fC (.str y)) := de_const (pe_glob (v := .str y) hg hm ⟨t, rfl⟩ hd) fun _ _ _ => .str _
theorem de_gintE {x : Str} {i : Int} (hg : Gl X x) (hm : ∃ t, X.mg x = some (.int i t)) (hd : (x == ("__debug__" : Str)) = false := by decide) : DE X E (.Name x pos) (fC (.int i)) := let ⟨_, h⟩ := hm; de_gint hg h hd
theorem de_gstrE {x y : Str} (hg : Gl X x) (hm : ∃ t, X.mg x = some (.str y t)) (hd : (x == ("__debug__" : Str)) = false := by decide) : DE X E (.Name x pos) (fC (.str y)) := let ⟨_, h⟩ := hm; de_gstr hg h hd
/-- a built-in class as a value -/
theorem de_ty {x : Str} {n : String} (hg : Gl X x) (hm : X.mg x = none) (hv : bootBuiltins x = some (.type n)) (hn : x ≠ "__name__" := by decide) (hd : (x == ("__debug__" : Str)) = false := by decide) : DE X E (.Name x pos) (fC (.ty n)) :=
  de_const (pe_bltn (v := .ty n) hg hm hv rfl hn hd) fun _ _ _ => .ty _
end

/-! ### operations on values -/
/-- a step that changes nothing gives the tree d -/
theorem Link.now {K : PySem.W.Frag} {F : Addr → Prop} {H : Hp} {M : MS} {k : KD} {Q : VK} {d : D} {v : V} (L : Link K F H M k Q) (R : RepM K F H M) (h : k d M) (hv : IsV K (dm F M) H v d) : Q v H := L d M v H h (Go.refl _ _) R hv
/-- .. a new object -/
theorem Link.new {K : PySem.W.Frag} {F : Addr → Prop} {H : Hp} {M : MS} {k : KD} {Q : VK} {d : D} {p : Addr} {o : HO} (L : Link K F H M k Q) (R : RepM K F H M) (h : k d M) (hp : H p = none)
    (hv : ¬ dm F M p → Kp (dm F M) (dm F M) H (upd H p o) → IsV K (dm F M) (upd H p o) (.ref p) d) : Q (.ref p) (upd H p o) :=
  L d M (.ref p) (upd H p o) h (Go.new (K := K) (F := F) hp) (R.new hp) (hv (R.fresh hp) (Go.new (K := K) (F := F) (M := M) hp).to_kp)
theorem new_lst {K : PySem.W.Frag} {F : Addr → Prop} {H : Hp} {M : MS} {k : KD} {Q : VK} {ds : List D} {vs : List V} (L : Link K F H M k Q) (R : RepM K F H M) (h : k (.lst ds) M) (hv : IsVs K (dm F M) H vs ds) :
    ∀ p, H p = none → Q (.ref p) (upd H p (.lst vs)) := fun p hp => L.new R h hp fun n kp => .lst n upd_same (IsVs.kp kp _ _ hv)
theorem new_tup {K : PySem.W.Frag} {F : Addr → Prop} {H : Hp} {M : MS} {k : KD} {Q : VK} {ds : List D} {vs : List V} (L : Link K F H M k Q) (R : RepM K F H M) (h : k (.tup ds) M) (hv : IsVs K (dm F M) H vs ds) :
    ∀ p, H p = none → Q (.ref p) (upd H p (.tup vs)) := fun p hp => L.new R h hp fun n kp => .tup (.inl ⟨n, .inl upd_same⟩) (IsVs.kp kp _ _ hv)

abbrev F2 := D → D → MS → KD → Prop
def OpD (K : PySem.W.Frag) (r : R2) (g : F2) : Prop := ∀ F H M v w x y k Q, RepM K F H M → IsV K (dm F M) H v x → IsV K (dm F M) H w y → g x y M k → Link K F H M k Q → r v w H Q
abbrev F1 := D → MS → KD → Prop
def UnD (K : PySem.W.Frag) (r : V → Hp → VK → Prop) (g : F1) : Prop := ∀ F H M v x k Q, RepM K F H M → IsV K (dm F M) H v x → g x M k → Link K F H M k Q → r v H Q
abbrev FN := List D → MS → KD → Prop
def CallD (K : PySem.W.Frag) (r : List V → Hp → VK → Prop) (g : FN) : Prop := ∀ F H M vs ds k Q, RepM K F H M → IsVs K (dm F M) H vs ds → g ds M k → Link K F H M k Q → r vs H Q
def MtD (K : PySem.W.Frag) (r : V → List V → Hp → VK → Prop) (g : D → FN) : Prop := ∀ F H M v x vs ds k Q, RepM K F H M → IsV K (dm F M) H v x → IsVs K (dm F M) H vs ds → g x ds M k → Link K F H M k Q → r v vs H Q
def fOp (g : F2) (fa fb : FE) : FE := fun Γ M k kx => fa Γ M (fun x M1 => fb Γ M1 (fun y M2 => g x y M2 k) kx) kx
def fUn (g : F1) (fa : FE) : FE := fun Γ M k kx => fa Γ M (fun x M1 => g x M1 k) kx
def fCB (g : FN) (fa : FA) : FE := fun Γ M k kx => fa Γ M (fun ds M1 => g ds M1 k) kx
section
variable {K : PySem.W.Frag} {E : XK} {fa fb : FE} {σ : L2.St} {H : Hp} {Q : VK}
theorem li_op {r : R2} {g : F2} (hg : OpD K r g) (h : liE K E (fOp g fa fb) σ H Q) : tOp r (liE K E fa) (liE K E fb) σ H Q := by
  obtain ⟨F, Γ, M, k, kx, R, q, LX, L⟩ := h
  refine ⟨F, Γ, M, _, kx, R, q, LX, fun x M1 v H1 hx g1 R1 i1 => ?_⟩
  refine ⟨F, Γ, M1, _, kx, R.go g1 R1, hx, LX.go g1, fun y M2 w H2 hy g2 R2 i2 => ?_⟩
  exact hg F H2 M2 v w x y k Q R2 (IsV.kp g2.to_kp _ _ i1) i2 hy (L.go (g1.trans g2))
theorem li_un {r : V → Hp → VK → Prop} {g : F1} (hg : UnD K r g) (h : liE K E (fUn g fa) σ H Q) : tUn r (liE K E fa) σ H Q := by
  obtain ⟨F, Γ, M, k, kx, R, q, LX, L⟩ := h
  exact ⟨F, Γ, M, _, kx, R, q, LX, fun x M1 v H1 hx g1 R1 i1 => hg F H1 M1 v x k Q R1 i1 hx (L.go g1)⟩
theorem li_cb {r : List V → Hp → VK → Prop} {g : FN} {fa : FA} (hg : CallD K r g) (h : liE K E (fCB g fa) σ H Q) : tCB r (liA K E fa) σ H Q := by
  obtain ⟨F, Γ, M, k, kx, R, q, LX, L⟩ := h
  exact ⟨F, Γ, M, _, kx, R, q, LX, fun ds M1 vs H1 hx g1 R1 i1 => hg F H1 M1 vs ds k Q R1 i1 hx (L.go g1)⟩
end
section
variable {X : Cx} {E : XK} {pos : Pos} {a b : Expr} {fa fb : FE}
theorem de_op {op : Operator} {r : R2} {g : F2} (ho : OpR X (binaryOp op) r) (hg : OpD X.K r g) (ha : DE X E a fa) (hb : DE X E b fb) : DE X E (.BinOp a op b pos) (fOp g fa fb) := pe_w (pe_op ho ha hb) fun _ _ _ => li_op hg
theorem de_un {op : UnaryOp} {r : V → Hp → VK → Prop} {g : F1} (ho : UnR X (unaryOp op) r) (hg : UnD X.K r g) (ha : DE X E a fa) : DE X E (.UnaryOp op a pos) (fUn g fa) := pe_w (pe_un ho ha) fun _ _ _ => li_un hg
theorem de_cmp {op : CmpOp} {r : R2} {g : F2} (ho : OpR X (compareOp op) r) (hg : OpD X.K r g) (ha : DE X E a fa) (hb : DE X E b fb) (hm : behindInMarks op b = false) : DE X E (.Compare a [op] [b] pos) (fOp g fa fb) := pe_w (pe_cmpR ho ha hb hm) fun _ _ _ => li_op hg
theorem de_ix {r : R2} {g : F2} (ho : IxR X r) (hg : OpD X.K r g) (ha : DE X E a fa) (hb : DE X E b fb) (hs : PlainIx b) : DE X E (.Subscript a b pos) (fOp g fa fb) := pe_w (pe_ix ho ha hb hs) fun _ _ _ => li_op hg
/-- an expression that gives a truth, as a test -/
def fTest (f : FE) : FT := fun Γ M k kx => f Γ M (fun d M1 => ∃ b, d = .bl b ∧ k b M1) kx
theorem li_test {K : PySem.W.Frag} {σ : L2.St} {H : Hp} {Q : Bool → Hp → Prop} (h : liT K E (fTest fa) σ H Q) : tTest (liE K E fa) σ H Q := by
  obtain ⟨F, Γ, M, k, kx, R, q, LX, L⟩ := h
  refine ⟨F, Γ, M, _, kx, R, q, LX, fun x M1 v H1 hx g1 R1 i1 => ?_⟩
  obtain ⟨b, rfl, hx⟩ := hx
  cases i1
  exact ⟨b, rfl, L b M1 H1 hx g1 R1⟩
theorem dt_val (h : DE X E a fa) (he : ∀ whole, isTrue a X.env whole = (do let v ← whole; standAt a.pos; holding [v] (truthy v)) := by intro _; rfl) : DT X E a (fTest fa) := pt_w (pt_val h he) fun _ _ _ => li_test
theorem dt_cmp {op : CmpOp} {r : R2} {g : F2} (ho : OpR X (compareOp op) r) (hg : OpD X.K r g) (ha : DE X E a fa) (hb : DE X E b fb) (hm : behindInMarks op b = false) : DT X E (.Compare a [op] [b] pos) (fTest (fOp g fa fb)) :=
  pt_w (pt_cmpR ho ha hb hm) fun σ H Q h => by
    obtain ⟨F, Γ, M, k, kx, R, q, LX, L⟩ := h
    refine li_op hg ⟨F, Γ, M, _, kx, R, q, LX, fun x M1 v H1 hx g1 R1 i1 => ?_⟩
    obtain ⟨b, rfl, hx⟩ := hx
    cases i1
    exact ⟨b, rfl, L b M1 H1 hx g1 R1⟩
/-- a op1 b op2 c -/
def fChain (g g' : F2) (fa fb fc : FE) : FE := fun Γ M k kx => fa Γ M (fun x M1 => fb Γ M1 (fun y M2 => g x y M2 fun z M3 => ∃ b, z = .bl b ∧ if b = true then fc Γ M3 (fun w M4 => g' y w M4 k) kx else k (.bl false) M3) kx) kx
theorem li_chain {K : PySem.W.Frag} {r r' : R2} {g g' : F2} {fc : FE} (hg : OpD K r g) (hg' : OpD K r' g') {σ : L2.St} {H : Hp} {Q : VK} (h : liE K E (fChain g g' fa fb fc) σ H Q) : tChain r r' (liE K E fa) (liE K E fb) (liE K E fc) σ H Q := by
  obtain ⟨F, Γ, M, k, kx, R, q, LX, L⟩ := h
  refine ⟨F, Γ, M, _, kx, R, q, LX, fun x M1 v H1 hx g1 R1 i1 => ?_⟩
  refine ⟨F, Γ, M1, _, kx, R.go g1 R1, hx, LX.go g1, fun y M2 w H2 hy g2 R2 i2 => ?_⟩
  refine hg F H2 M2 v w x y _ _ R2 (IsV.kp g2.to_kp _ _ i1) i2 hy fun z M3 u H3 hz g3 R3 i3 => ?_
  obtain ⟨b, rfl, hz⟩ := hz
  cases i3
  refine ⟨b, rfl, ?_⟩
  have G := (g1.trans g2).trans g3
  cases b with
  | false => exact L _ M3 _ H3 hz G R3 (.bl false)
  | true =>
    refine ⟨F, Γ, M3, _, kx, R.go G R3, hz, LX.go G, fun t M4 u' H4 ht g4 R4 i4 => ?_⟩
    exact hg' F H4 M4 w u' y t k Q R4 (IsV.kp (g3.trans g4).to_kp _ _ i2) i4 ht (L.go (G.trans g4))
theorem de_chain {op op' : CmpOp} {r r' : R2} {g g' : F2} {c : Expr} {fc : FE} (ho : OpR X (compareOp op) r) (hg : OpD X.K r g) (ho' : OpR X (compareOp op') r') (hg' : OpD X.K r' g') (ha : DE X E a fa) (hb : DE X E b fb) (hc : DE X E c fc)
    (hm : lastMarks [op, op'] [b, c] = false := by with_unfolding_all rfl) : DE X E (.Compare a [op, op'] [b, c] pos) (fChain g g' fa fb fc) := pe_w (pe_chain ho ho' ha hb hc hm) fun _ _ _ => li_chain hg hg'
theorem dt_chain {op op' : CmpOp} {r r' : R2} {g g' : F2} {c : Expr} {fc : FE} (ho : OpR X (compareOp op) r) (hg : OpD X.K r g) (ho' : OpR X (compareOp op') r') (hg' : OpD X.K r' g') (ha : DE X E a fa) (hb : DE X E b fb) (hc : DE X E c fc)
    (hm : lastMarks [op, op'] [b, c] = false := by with_unfolding_all rfl) : DT X E (.Compare a [op, op'] [b, c] pos) (fTest (fChain g g' fa fb fc)) :=
  pt_w (pt_chain ho ho' ha hb hc hm) fun σ H Q h => by
    obtain ⟨F, Γ, M, k, kx, R, q, LX, L⟩ := h
    refine li_chain hg hg' ⟨F, Γ, M, _, kx, R, q, LX, fun x M1 v H1 hx g1 R1 i1 => ?_⟩
    obtain ⟨b, rfl, hx⟩ := hx
    cases i1
    exact ⟨b, rfl, L b M1 H1 hx g1 R1⟩
end

/-! ### and, or, not, if -/
def fAnd (f g : FT) : FT := fun Γ M k kx => f Γ M (fun b M1 => if b = true then g Γ M1 k kx else k false M1) kx
def fOr (f g : FT) : FT := fun Γ M k kx => f Γ M (fun b M1 => if b = true then k true M1 else g Γ M1 k kx) kx
def fNot (f : FT) : FT := fun Γ M k kx => f Γ M (fun b M1 => k (!b) M1) kx
def fAndV (f g : FE) : FE := fun Γ M k kx => f Γ M (fun x M1 => ∃ b, x = .bl b ∧ if b = true then g Γ M1 k kx else k (.bl false) M1) kx
def fOrV (f g : FE) : FE := fun Γ M k kx => f Γ M (fun x M1 => ∃ b, x = .bl b ∧ if b = true then k (.bl true) M1 else g Γ M1 k kx) kx
def fNotV (f : FE) : FE := fun Γ M k kx => f Γ M (fun x M1 => ∃ b, x = .bl b ∧ k (.bl (!b)) M1) kx
def fIf (f : FT) (g h : FE) : FE := fun Γ M k kx => f Γ M (fun b M1 => if b = true then g Γ M1 k kx else h Γ M1 k kx) kx
section
variable {X : Cx} {E : XK} {pos : Pos} {a b c : Expr} {rest : List Expr} {fa fb : FE} {ga gb : FT}
theorem dw_and1 (ha : DT X E a ga) : DW X E (.BoolOp .And [a] pos) ga := pw_and1 ha
theorem dw_or1 (ha : DT X E a ga) : DW X E (.BoolOp .Or [a] pos) ga := pw_or1 ha
theorem dw_and (ha : DT X E a ga) (hb : DW X E (.BoolOp .And (b :: rest) pos) gb) : DW X E (.BoolOp .And (a :: b :: rest) pos) (fAnd ga gb) :=
  pw_w (pw_and ha hb) fun σ H Q h => by
    obtain ⟨F, Γ, M, k, kx, R, q, LX, L⟩ := h
    refine ⟨F, Γ, M, _, kx, R, q, LX, fun x M1 H1 hx g1 R1 => ?_⟩
    cases x with
    | true => exact ⟨F, Γ, M1, _, kx, R.go g1 R1, hx, LX.go g1, L.go g1⟩
    | false => exact L _ _ _ hx g1 R1
theorem dw_or (ha : DT X E a ga) (hb : DW X E (.BoolOp .Or (b :: rest) pos) gb) : DW X E (.BoolOp .Or (a :: b :: rest) pos) (fOr ga gb) :=
  pw_w (pw_or ha hb) fun σ H Q h => by
    obtain ⟨F, Γ, M, k, kx, R, q, LX, L⟩ := h
    refine ⟨F, Γ, M, _, kx, R, q, LX, fun x M1 H1 hx g1 R1 => ?_⟩
    cases x with
    | false => exact ⟨F, Γ, M1, _, kx, R.go g1 R1, hx, LX.go g1, L.go g1⟩
    | true => exact L _ _ _ hx g1 R1
theorem dt_w (h : DW X E a ga) : DT X E a ga := PW.pt h
theorem dt_not (ha : DT X E a ga) : DT X E (.UnaryOp .Not a pos) (fNot ga) :=
  pt_w (pt_not ha) fun σ H Q h => by
    obtain ⟨F, Γ, M, k, kx, R, q, LX, L⟩ := h
    exact ⟨F, Γ, M, _, kx, R, q, LX, fun x M1 H1 hx g1 R1 => L _ _ _ hx g1 R1⟩
theorem de_one {op} (h : DE X E a fa) : DE X E (.BoolOp op [a] pos) fa := pe_one h
theorem de_and (ha : DE X E a fa) (hb : DE X E (.BoolOp .And (b :: rest) pos) fb) : DE X E (.BoolOp .And (a :: b :: rest) pos) (fAndV fa fb) :=
  pe_w (pe_and ha hb) fun σ H Q h => by
    obtain ⟨F, Γ, M, k, kx, R, q, LX, L⟩ := h
    refine ⟨F, Γ, M, _, kx, R, q, LX, fun x M1 v H1 hx g1 R1 i1 => ?_⟩
    obtain ⟨b, rfl, hx⟩ := hx
    cases i1
    refine ⟨b, rfl, ?_⟩
    cases b with
    | true => exact ⟨F, Γ, M1, _, kx, R.go g1 R1, hx, LX.go g1, L.go g1⟩
    | false => exact L _ _ _ _ hx g1 R1 (.bl false)
theorem de_or (ha : DE X E a fa) (hb : DE X E (.BoolOp .Or (b :: rest) pos) fb) : DE X E (.BoolOp .Or (a :: b :: rest) pos) (fOrV fa fb) :=
  pe_w (pe_or ha hb) fun σ H Q h => by
    obtain ⟨F, Γ, M, k, kx, R, q, LX, L⟩ := h
    refine ⟨F, Γ, M, _, kx, R, q, LX, fun x M1 v H1 hx g1 R1 i1 => ?_⟩
    obtain ⟨b, rfl, hx⟩ := hx
    cases i1
    refine ⟨b, rfl, ?_⟩
    cases b with
    | false => exact ⟨F, Γ, M1, _, kx, R.go g1 R1, hx, LX.go g1, L.go g1⟩
    | true => exact L _ _ _ _ hx g1 R1 (.bl true)
theorem de_not (ha : DE X E a fa) : DE X E (.UnaryOp .Not a pos) (fNotV fa) :=
  pe_w (pe_not ha) fun σ H Q h => by
    obtain ⟨F, Γ, M, k, kx, R, q, LX, L⟩ := h
    refine ⟨F, Γ, M, _, kx, R, q, LX, fun x M1 v H1 hx g1 R1 i1 => ?_⟩
    obtain ⟨b, rfl, hx⟩ := hx
    cases i1
    exact ⟨b, rfl, L _ _ _ _ hx g1 R1 (.bl (!b))⟩
theorem de_if (hc : DT X E c ga) (ha : DE X E a fa) (hb : DE X E b fb) : DE X E (.IfExp c a b pos) (fIf ga fa fb) :=
  pe_w (pe_ifExp hc ha hb) fun σ H Q h => by
    obtain ⟨F, Γ, M, k, kx, R, q, LX, L⟩ := h
    refine ⟨F, Γ, M, _, kx, R, q, LX, fun x M1 H1 hx g1 R1 => ?_⟩
    cases x with
    | true => exact ⟨F, Γ, M1, _, kx, R.go g1 R1, hx, LX.go g1, L.go g1⟩
    | false => exact ⟨F, Γ, M1, _, kx, R.go g1 R1, hx, LX.go g1, L.go g1⟩
end

/-! ### argument lists, displays, slices -/
def fNil : FA := fun _ M k _ => k [] M
def fCons (f : FE) (g : FA) : FA := fun Γ M k kx => f Γ M (fun x M1 => g Γ M1 (fun xs M2 => k (x :: xs) M2) kx) kx
def fLst (g : FA) : FE := fun Γ M k kx => g Γ M (fun ds M1 => ds.length ≤ sizeLine ∧ k (.lst ds) M1) kx
def fTup (g : FA) : FE := fun Γ M k kx => g Γ M (fun ds M1 => ds.length ≤ sizeLine ∧ k (.tup ds) M1) kx
def fNoP : FO := fun _ M k _ => k none M
def fPart (f : FE) : FO := fun Γ M k kx => f Γ M (fun x M1 => ∃ i, x = .int i ∧ k (some i) M1) kx
def fSl (g : D → Option Int → Option Int → MS → KD → Prop) (f : FE) (l h : FO) : FE := fun Γ M k kx => f Γ M (fun x M1 => l Γ M1 (fun lo M2 => h Γ M2 (fun hi M3 => g x lo hi M3 k) kx) kx) kx
def SlD (K : PySem.W.Frag) (r : V → Option Int → Option Int → Hp → VK → Prop) (g : D → Option Int → Option Int → MS → KD → Prop) : Prop :=
  ∀ F H M v x lo hi k Q, RepM K F H M → IsV K (dm F M) H v x → g x lo hi M k → Link K F H M k Q → r v lo hi H Q
section
variable {X : Cx} {E : XK} {pos p2 : Pos} {e : Expr} {es : List Expr} {f : FE} {g : FA}
theorem da_nil : DA X E [] fNil := pa_w pa_nil fun σ H Q ⟨F, Γ, M, k, kx, R, q, _, L⟩ => L [] M [] H q (Go.refl _ _) R.mem .nil
theorem da_cons (ha : DE X E e f) (hr : DA X E es g) (hs : starEach (e :: es) X.env = (false, eval e X.env) :: starEach es X.env := by rfl) : DA X E (e :: es) (fCons f g) :=
  pa_w (pa_cons ha hr hs) fun σ H Q h => by
    obtain ⟨F, Γ, M, k, kx, R, q, LX, L⟩ := h
    refine ⟨F, Γ, M, _, kx, R, q, LX, fun x M1 v H1 hx g1 R1 i1 => ?_⟩
    exact ⟨F, Γ, M1, _, kx, R.go g1 R1, hx, LX.go g1, fun xs M2 vs H2 h2 g2 R2 i2 => L _ _ _ _ h2 (g1.trans g2) R2 (.cons (IsV.kp g2.to_kp _ _ i1) i2)⟩
theorem de_lst (h : DA X E es g) : DE X E (.List es pos) (fLst g) :=
  pe_w (pe_lst h) fun σ H Q hh => by
    obtain ⟨F, Γ, M, k, kx, R, q, LX, L⟩ := hh
    refine ⟨F, Γ, M, _, kx, R, q, LX, fun ds M1 vs H1 hx g1 R1 i1 => ?_⟩
    exact ⟨by rw [i1.length]; exact hx.1, new_lst (L.go g1) R1 hx.2 i1⟩
theorem de_tup {x1} (h : DA X E es g) : DE X E (.Tuple es x1 pos) (fTup g) :=
  pe_w (pe_tup h) fun σ H Q hh => by
    obtain ⟨F, Γ, M, k, kx, R, q, LX, L⟩ := hh
    refine ⟨F, Γ, M, _, kx, R, q, LX, fun ds M1 vs H1 hx g1 R1 i1 => ?_⟩
    exact ⟨by rw [i1.length]; exact hx.1, new_tup (L.go g1) R1 hx.2 i1⟩
theorem do_none : DO X E none fNoP := po_w po_none fun σ H Q ⟨F, Γ, M, k, kx, R, q, _, L⟩ => L none M H q (Go.refl _ _) R.mem
theorem do_some (h : DE X E e f) : DO X E (some e) (fPart f) :=
  po_w (po_some h) fun σ H Q hh => by
    obtain ⟨F, Γ, M, k, kx, R, q, LX, L⟩ := hh
    refine ⟨F, Γ, M, _, kx, R, q, LX, fun x M1 v H1 hx g1 R1 i1 => ?_⟩
    obtain ⟨i, rfl, hx⟩ := hx
    cases i1
    exact ⟨i, rfl, L _ _ _ hx g1 R1⟩
theorem de_slice {r : V → Option Int → Option Int → Hp → VK → Prop} {gs : D → Option Int → Option Int → MS → KD → Prop} {lo hi : Option Expr} {fl fh : FO} (hr : SlR X r) (hg : SlD X.K r gs) (he : DE X E e f) (hl : DO X E lo fl) (hu : DO X E hi fh) :
    DE X E (.Subscript e (.Slice lo hi none p2) pos) (fSl gs f fl fh) :=
  pe_w (pe_slice hr he hl hu) fun σ H Q hh => by
    obtain ⟨F, Γ, M, k, kx, R, q, LX, L⟩ := hh
    refine ⟨F, Γ, M, _, kx, R, q, LX, fun x M1 v H1 hx g1 R1 i1 => ?_⟩
    refine ⟨F, Γ, M1, _, kx, R.go g1 R1, hx, LX.go g1, fun o2 M2 H2 h2 g2 R2 => ?_⟩
    refine ⟨F, Γ, M2, _, kx, R.go (g1.trans g2) R2, h2, LX.go (g1.trans g2), fun o3 M3 H3 h3 g3 R3 => ?_⟩
    exact hg F H3 M3 v x o2 o3 k Q R3 (IsV.kp (g2.trans g3).to_kp _ _ i1) h3 (L.go ((g1.trans g2).trans g3))
variable {x : Str} {p : Pos} {id T : String} {r : List V → Hp → VK → Prop} {gn : FN}
theorem de_callB (hc : CallR X (.builtin id) r) (hgn : CallD X.K r gn) (hg : Gl X x) (hm : X.mg x = none) (hv : bootBuiltins x = some (.builtin id)) (ha : DA X E (e :: es) g) (hn : x ≠ "__name__" := by decide) (hdb : (x == ("__debug__" : Str)) = false := by decide)
    (he : starEach (e :: es) X.env = (false, eval e X.env) :: starEach es X.env := by rfl) (hpl : (backTo pos (starEach es X.env)).any (·.1) = false := by rfl) : DE X E (.Call (.Name x p) (e :: es) [] pos) (fCB gn g) :=
  pe_w (pe_callB hc hg hm hv ha hn hdb he hpl) fun _ _ _ => li_cb hgn
theorem de_callTy (hc : CallR X (.type T) r) (hgn : CallD X.K r gn) (hg : Gl X x) (hm : X.mg x = none) (hv : bootBuiltins x = some (.type T)) (ha : DA X E (e :: es) g) (hn : x ≠ "__name__" := by decide) (hdb : (x == ("__debug__" : Str)) = false := by decide)
    (he : starEach (e :: es) X.env = (false, eval e X.env) :: starEach es X.env := by rfl) (hpl : (backTo pos (starEach es X.env)).any (·.1) = false := by rfl) : DE X E (.Call (.Name x p) (e :: es) [] pos) (fCB gn g) :=
  pe_w (pe_callTy hc hg hm hv ha hn hdb he hpl) fun _ _ _ => li_cb hgn
end

/-! ### blocks, statements -/
def fNext : FS := fun N Γ M => N.nx Γ M
def fSeq (f g : FS) : FS := fun N Γ M => f { N with nx := g N } Γ M
def fRet (f : FE) : FS := fun N Γ M => f Γ M N.rt N.ex
def fRetN : FS := fun N _ M => N.rt .non M
def fDrop (f : FE) : FS := fun N Γ M => f Γ M (fun _ M1 => N.nx Γ M1) N.ex
def fIfS (c : FT) (f g : FS) : FS := fun N Γ M => c Γ M (fun b M1 => if b = true then f N Γ M1 else g N Γ M1) N.ex
def fSet (i : Nat) (f : FE) : FS := fun N Γ M => f Γ M (fun d M1 => N.nx (Γ.set i (some d)) M1) N.ex
def fAug (i : Nat) (f : FE) (g : F2) : FS := fun N Γ M => ∃ x, Γ[i]? = some (some x) ∧ f Γ M (fun y M1 => g x y M1 fun z M2 => N.nx (Γ.set i (some z)) M2) N.ex
section
variable {X : Cx} {E : XK} {pos : Pos} {st : Stmt} {rest sa sb : List Stmt} {f g : FS} {e c : Expr} {fe : FE} {fc : FT}
theorem ds_nil : DSs X E [] fNext := pss_w pss_nil fun D σ H ⟨F, Γ, M, N, R, q, L⟩ => L.nx Γ M σ H q (Go.refl _ _) R
theorem li_seq {K : PySem.W.Frag} {D : Ends} {σ : L2.St} {H : Hp} (h : liS K E (fSeq f g) D σ H) : tSeq (liS K E f) (liS K E g) D σ H := by
  obtain ⟨F, Γ, M, N, R, q, L⟩ := h
  exact ⟨F, Γ, M, _, R, q, ⟨fun Γ' M' σ' H' h g R' => ⟨F, Γ', M', N, R', h, L.go g⟩, L.rt, L.bk, L.ct, L.ex⟩⟩
theorem ds_cons (h1 : DS X E st f) (h2 : DSs X E rest g) : DSs X E (st :: rest) (fSeq f g) := pss_w (pss_cons h1 h2) fun _ _ _ => li_seq
theorem ds_one (h : DS X E st f) : DSs X E [st] f := pss_one h
theorem ds_pass : DS X E (.Pass pos) fNext := ps_w ps_pass fun D σ H ⟨F, Γ, M, N, R, q, L⟩ => L.nx Γ M σ H q (Go.refl _ _) R
theorem ds_break : DS X E (.Break pos) (fun N Γ M => N.bk Γ M) := ps_w ps_break fun D σ H ⟨F, Γ, M, N, R, q, L⟩ => L.bk Γ M σ H q (Go.refl _ _) R
theorem ds_cont : DS X E (.Continue pos) (fun N Γ M => N.ct Γ M) := ps_w ps_continue fun D σ H ⟨F, Γ, M, N, R, q, L⟩ => L.ct Γ M σ H q (Go.refl _ _) R
theorem ds_ret (h : DE X E e fe) : DS X E (.Return (some e) pos) (fRet fe) := ps_w (ps_ret h) fun D σ H ⟨F, Γ, M, N, R, q, L⟩ => ⟨F, Γ, M, N.rt, N.ex, R, q, L.ex, L.rt⟩
theorem ds_retN : DS X E (.Return none pos) fRetN := ps_w ps_retN fun D σ H ⟨F, Γ, M, N, R, q, L⟩ => L.rt _ M _ H q (Go.refl _ _) R.mem .non
theorem ds_expr (h : DE X E e fe) (hs : swapsWith e none pos.line X.env = pure false := by rfl) : DS X E (.Expr e pos) (fDrop fe) :=
  ps_w (ps_expr h hs) fun D σ H ⟨F, Γ, M, N, R, q, L⟩ => ⟨F, Γ, M, _, N.ex, R, q, L.ex, fun d M1 v H1 h g1 R1 _ => L.nx _ _ _ _ h g1 (R.go g1 R1)⟩
theorem ds_if (hc : DT X E c fc) (ha : DSs X E sa f) (hb : DSs X E sb g) : DS X E (.If c sa sb pos) (fIfS fc f g) :=
  ps_w (ps_if hc ha hb) fun D σ H ⟨F, Γ, M, N, R, q, L⟩ => ⟨F, Γ, M, _, N.ex, R, q, L.ex, fun b M1 H1 h g1 R1 => by
    cases b with
    | true => exact ⟨F, Γ, M1, N, R.go g1 R1, h, L.go g1⟩
    | false => exact ⟨F, Γ, M1, N, R.go g1 R1, h, L.go g1⟩⟩
theorem ds_set (i : Nat) {x : Str} {pos' : Pos} (hN : X.N.Nodup) (hi : X.N[i]? = some x) (hx : Loc X.env.scope x) (he : DE X E e fe) (hs : swapsWith e (some (.Name x pos')) pos.line X.env = pure false := by rfl) (hf : X.fn x = true ∨ X.env.scope.names.lookup x = some .local := by first | exact .inl rfl | exact .inr rfl | assumption) :
    DS X E (.Assign [.Name x pos'] e pos) (fSet i fe) :=
  ps_w (ps_set hN hi hx he hs hf) fun D σ H ⟨F, Γ, M, N, R, q, L⟩ => ⟨F, Γ, M, _, N.ex, R, q, L.ex, fun d M1 v H1 h g1 R1 i1 => L.nx _ _ _ _ h g1 ((R.go g1 R1).set i i1)⟩
end
end Dl

set_option Elab.async false
set_option linter.all false
set_option maxRecDepth 100000
set_option maxHeartbeats 2000000
/-! D3: targets, loops and comprehensions by data. -/
namespace Dl
open PySem PySem.Spec PyProof.Rows L2

/-! ### hidden addresses -/
theorem kpF {F F' : Addr → Prop} {H0 H : Hp} {M0 M : MS} (g : Go H0 M0 H M) (hF : ∀ a, F' a → F a ∨ H0 a = none) : Kp (dm F M0) (dm F' M) H0 H := fun a o n h => by
  obtain ⟨n1, h1⟩ := g.to_kp (F := F) a o n h
  refine ⟨fun z => ?_, h1⟩
  rcases z with z | z
  · rcases hF a z with q | q
    · exact n (.inl q)
    · rw [h] at q; cases q
  · exact n1 (.inr z)
theorem kp_sub {P P' : Addr → Prop} {H : Hp} (h : ∀ a, P' a → P a) : Kp P P' H H := fun a o n e => ⟨fun z => n (h a z), e⟩
theorem RepM.less {K : PySem.W.Frag} {F F' : Addr → Prop} {H : Hp} {M : MS} (R : RepM K F' H M) (h : ∀ a, F a → F' a) : RepM K F H M :=
  ⟨fun a c e => (R.cel a c e).kp (kp_sub fun b z => z.elim (fun q => .inl (h b q)) .inr) rfl, fun a z => R.hid a (h a z), fun a z => R.sep a (h a z)⟩
theorem RepM.hidUpd {K : PySem.W.Frag} {F : Addr → Prop} {H : Hp} {M : MS} {p : Addr} {o : HO} (R : RepM K F H M) (h : F p) : Kp (dm F M) (dm F M) H (upd H p o) ∧ RepM K F (upd H p o) M := by
  have kp : Kp (dm F M) (dm F M) H (upd H p o) := fun a u n e => ⟨n, by
    have q : a ≠ p := fun q => n (.inl (q ▸ h))
    rw [upd_ne q]; exact e⟩
  refine ⟨kp, fun a c e => (R.cel a c e).kp kp (upd_ne fun q => ?_), fun a z => ?_, R.sep⟩
  · have := R.sep p h
    rw [q, this] at e
    cases e
  · by_cases q : a = p
    · rw [q, upd_same]; exact nofun
    · rw [upd_ne q]; exact R.hid a z

/-! ### targets -/
abbrev FG := D → GE → (GE → Prop) → Prop
abbrev FGs := List D → GE → (GE → Prop) → Prop
def liG (K : PySem.W.Frag) (g : FG) (js : List Nat) : TG := fun v σ H Q => ∃ F Γ M d k, Rep K F σ H Γ M ∧ IsV K (dm F M) H v d ∧ g d Γ k ∧
  ∀ Γ' σ', k Γ' → Rep K F σ' H Γ' M → (∀ vs : List Nat, (∀ j ∈ js, j ∈ vs) → wipe σ' vs = wipe σ vs) → Q σ' H
def liGs (K : PySem.W.Frag) (g : FGs) (js : List Nat) : TGs := fun v σ H Q => ∃ F Γ M ds k, Rep K F σ H Γ M ∧ IsVs K (dm F M) H v ds ∧ g ds Γ k ∧
  ∀ Γ' σ', k Γ' → Rep K F σ' H Γ' M → (∀ vs : List Nat, (∀ j ∈ js, j ∈ vs) → wipe σ' vs = wipe σ vs) → Q σ' H
abbrev DG (X : Cx) (tg : Expr) (g : FG) (js : List Nat) : Prop := PG X tg (liG X.K g js)
abbrev DGs (X : Cx) (tgs : List Expr) (g : FGs) (js : List Nat) : Prop := PGs X tgs (liGs X.K g js)
theorem wipe_at (σ : L2.St) (j : Nat) : ∀ vs : List Nat, (wipe σ vs)[j]? = if j ∈ vs then (σ[j]?).map (fun _ => none) else σ[j]?
  | [] => by simp [wipe]
  | v :: vs => by
    show ((wipe σ vs).set v none)[j]? = _
    by_cases hj : v = j
    · subst hj
      rw [List.getElem?_set_self', wipe_at σ v vs]
      simp only [List.mem_cons, true_or, if_true]
      by_cases hm : v ∈ vs
      · rw [if_pos hm]
        cases σ[v]? <;> rfl
      · rw [if_neg hm]
        cases σ[v]? <;> rfl
    · rw [List.getElem?_set_ne hj, wipe_at σ j vs]
      have e : (j ∈ v :: vs) ↔ j ∈ vs := by
        rw [List.mem_cons]
        exact ⟨fun z => z.elim (fun q => absurd q.symm hj) id, .inr⟩
      by_cases hm : j ∈ vs
      · rw [if_pos hm, if_pos (e.mpr hm)]
      · rw [if_neg hm, if_neg (fun z => hm (e.mp z))]
theorem wipe_set {σ : L2.St} {i : Nat} {x : Option V} {vs : List Nat} (h : i ∈ vs) : wipe (σ.set i x) vs = wipe σ vs := by
  apply List.ext_getElem?
  intro j
  rw [wipe_at, wipe_at]
  by_cases hm : j ∈ vs
  · rw [if_pos hm, if_pos hm]
    by_cases hj : i = j
    · subst hj
      rw [List.getElem?_set_self']
      cases σ[i]? <;> rfl
    · rw [List.getElem?_set_ne hj]
  · rw [if_neg hm, if_neg hm]
    have hj : i ≠ j := fun q => hm (q ▸ h)
    rw [List.getElem?_set_ne hj]
def gNm (i : Nat) : FG := fun d Γ k => k (Γ.set i (some d))
def gNo : FGs := fun ds Γ k => ds = [] ∧ k Γ
def gCn (g : FG) (gs : FGs) : FGs := fun ds Γ k => ∃ d r, ds = d :: r ∧ g d Γ fun Γ1 => gs r Γ1 k
def gTp (n : Nat) (gs : FGs) : FG := fun d Γ k => ∃ ds, d = .tup ds ∧ ds.length = n ∧ gs ds Γ k
section
variable {X : Cx} {pos : Pos}
theorem pg_w {tg : Expr} {t t' : TG} (h : PG X tg t) (w : ∀ v σ H Q, t' v σ H Q → t v σ H Q) : PG X tg t' := ⟨fun pins s σ H v u Q I r q => h.run pins s σ H v u Q I r (w v σ H Q q)⟩
theorem pgs_w {tg : List Expr} {t t' : TGs} (h : PGs X tg t) (w : ∀ v σ H Q, t' v σ H Q → t v σ H Q) : PGs X tg t' := ⟨fun pins s σ H v u Q I r q => h.run pins s σ H v u Q I r (w v σ H Q q)⟩
theorem dg_name (i : Nat) {x : Str} (hN : X.N.Nodup) (hi : X.N[i]? = some x) (hx : Loc X.env.scope x) (hf : X.fn x = true ∨ X.env.scope.names.lookup x = some .local := by first | exact .inl rfl | exact .inr rfl | assumption) : DG X (.Name x pos) (gNm i) [i] :=
  pg_w (pg_name hN hi hx hf) fun v σ H Q ⟨F, Γ, M, d, k, R, hv, h, L⟩ => L _ _ h (R.set i hv) fun vs hm => wipe_set (hm i (List.mem_singleton.mpr rfl))
theorem dgs_nil : DGs X [] gNo [] := pgs_w pgs_nil fun v σ H Q ⟨F, Γ, M, ds, k, R, hv, h, L⟩ => by
  obtain ⟨rfl, h⟩ := h
  cases hv
  exact ⟨rfl, L _ _ h R fun _ _ => rfl⟩
theorem dgs_cons {e : Expr} {es : List Expr} {g : FG} {gs : FGs} {i j : List Nat} (h1 : DG X e g i) (h2 : DGs X es gs j) (hs : (assignEach (e :: es) X.env).map (·.2) = assign e X.env :: (assignEach es X.env).map (·.2) := by rfl) : DGs X (e :: es) (gCn g gs) (i ++ j) :=
  pgs_w (pgs_cons h1 h2 hs) fun v σ H Q ⟨F, Γ, M, ds, k, R, hv, h, L⟩ => by
    obtain ⟨d, r, rfl, h⟩ := h
    cases hv with
    | cons v1 v2 =>
      refine ⟨_, _, rfl, F, Γ, M, d, _, R, v1, h, fun Γ1 σ1 q1 R1 w1 => ?_⟩
      exact ⟨F, Γ1, M, r, k, R1, v2, q1, fun Γ2 σ2 q2 R2 w2 => L _ _ q2 R2 fun vs hm => (w2 vs fun a ha => hm a (List.mem_append_right _ ha)).trans (w1 vs fun a ha => hm a (List.mem_append_left _ ha))⟩
theorem dg_tup {es : List Expr} {k : Nat} {gs : FGs} {n : Nat} {js : List Nat} (hc : X.calm = true) (h : DGs X es gs js) (hn : (assignEach es X.env).length = n := by rfl) (hst : (assignEach es X.env).findIdx? (·.1) = none := by rfl) : DG X (.Tuple es k pos) (gTp n gs) js :=
  pg_w (pg_tup hc h hn hst) fun v σ H Q ⟨F, Γ, M, d, k, R, hv, h, L⟩ => by
    obtain ⟨ds, rfl, hl, h⟩ := h
    obtain ⟨a, vs, rfl, h1, h2⟩ := hv.to_tup
    exact ⟨a, vs, rfl, h1.sq, h2.length.trans hl, F, Γ, M, ds, k, R, h2, h, L⟩
/-- target = e -/
def fAsg (g : FG) (f : FE) : FS := fun N Γ M => f Γ M (fun d M1 => g d Γ fun Γ1 => N.nx Γ1 M1) N.ex
theorem ds_asg {E : XK} {tg e : Expr} {f : FE} {g : FG} {js : List Nat} (he : DE X E e f) (hg : DG X tg g js) (hs : swapsWithSole [tg] e pos.line X.env = pure false := by rfl) (hw : swappedStores [tg] e X.env = pure none := by rfl)
    (h1 : (assignEach [tg] X.env).map (·.2) = [assign tg X.env] := by rfl) : DS X E (.Assign [tg] e pos) (fAsg g f) :=
  ps_w (ps_asg he hg hs hw h1) fun D σ H ⟨F, Γ, M, N, R, q, L⟩ => ⟨F, Γ, M, _, N.ex, R, q, L.ex, fun d M1 v H1 h g1 R1 i1 =>
    ⟨F, Γ, M1, d, _, R.go g1 R1, i1, h, fun Γ' σ' h' R' _ => L.nx _ _ _ _ h' g1 R'⟩⟩
/-- a, b = x, y -/
def fPar (i j : Nat) (g : FA) : FS := fun N Γ M => g Γ M (fun ds M1 => ∃ c d, ds = [c, d] ∧ N.nx ((Γ.set i (some c)).set j (some d)) M1) N.ex
theorem ds_par {E : XK} (i j : Nat) {x y : Str} {a b : Expr} {g : FA} {px py pt : Pos} {kt k2 pt2} (hc : X.calm = true) (hN : X.N.Nodup) (hi : X.N[i]? = some x) (hj : X.N[j]? = some y) (hij : i ≠ j)
    (hx : X.env.scope.names.lookup x = some .local) (hy : X.env.scope.names.lookup y = some .local) (ha : DA X E [a, b] g)
    (hw : swappedStores [.Tuple [.Name x px, .Name y py] kt pt] (.Tuple [a, b] k2 pt2) X.env = pure (some [x, y]))
    (hs : swapsWithSole [.Tuple [.Name x px, .Name y py] kt pt] (.Tuple [a, b] k2 pt2) pos.line X.env = pure false := by rfl) :
    DS X E (.Assign [.Tuple [.Name x px, .Name y py] kt pt] (.Tuple [a, b] k2 pt2) pos) (fPar i j g) :=
  ps_w (ps_par hc hN hi hj hij hx hy ha hw hs) fun D σ H ⟨F, Γ, M, N, R, q, L⟩ => ⟨F, Γ, M, _, N.ex, R, q, L.ex, fun ds M1 vs H1 h g1 R1 i1 => by
    obtain ⟨c, d, rfl, h⟩ := h
    cases i1 with
    | cons v1 i1 =>
      cases i1 with
      | cons v2 i1 =>
        cases i1
        exact ⟨_, _, rfl, L.nx _ _ _ _ h g1 (((R.go g1 R1).set i v1).set j v2)⟩⟩
end

/-! ### what is walked -/
structure ItD (K : PySem.W.Frag) (F : Addr → Prop) (H0 : Hp) (M0 : MS) (J : It) (xs : List D) : Prop where
  go : ∀ (F' : Addr → Prop) i H M, (∀ a, F' a → F a ∨ H0 a = none) → Go H0 M0 H M → RepM K F' H M → i < xs.length → J.go i H
  yl : ∀ (F' : Addr → Prop) i H M x H', (∀ a, F' a → F a ∨ H0 a = none) → Go H0 M0 H M → RepM K F' H M → i < xs.length → J.yld i H x H' → ∃ d, xs[i]? = some d ∧ Go H M H' M ∧ RepM K F' H' M ∧ IsV K (dm F' M) H' x d
  st : ∀ (F' : Addr → Prop) H M, (∀ a, F' a → F a ∨ H0 a = none) → Go H0 M0 H M → RepM K F' H M → J.stop xs.length H
def liI (K : PySem.W.Frag) (E : XK) (f : FA) : TI := fun σ H R => ∃ F Γ M k kx, Rep K F σ H Γ M ∧ f Γ M k kx ∧ LinkX K F H M E kx ∧
  ∀ xs M' J H', k xs M' → Go H M H' M' → RepM K F H' M' → ItD K F H' M' J xs → R J H'
abbrev DI (X : Cx) (E : XK) (tg iter : Expr) (f : FA) : Prop := PI X tg iter (liI X.K E f)
def fItL (f : FE) : FA := fun Γ M k kx => f Γ M (fun x M1 => ∃ ds, x = .lst ds ∧ k ds M1) kx
def fItZ (f : FE) : FA := fun Γ M k kx => f Γ M (fun x M1 => ∃ ns : List Int, x = .scr ns ∧ k (ns.map .int) M1) kx
def fItT (f : FE) : FA := fun Γ M k kx => f Γ M (fun x M1 => ∃ ds, x = .tup ds ∧ k ds M1) kx
def fItS (f : FE) : FA := fun Γ M k kx => f Γ M (fun x M1 => ∃ z : Str, x = .str z ∧ k (z.cps.toList.map fun c => .str ⟨#[c]⟩) M1) kx
def rngD (lo : Int) (n : Nat) : List D := (List.range n).map fun (i : Nat) => D.int (lo + (i : Int))
def fRng1 (g : FA) : FA := fun Γ M k kx => g Γ M (fun ds M1 => ∃ j : Int, ds = [.int j] ∧ -(2 ^ 62) ≤ j ∧ j < 2 ^ 62 ∧ k (rngD 0 j.toNat) M1) kx
def fRng2 (g : FA) : FA := fun Γ M k kx => g Γ M (fun ds M1 => ∃ i j : Int, ds = [.int i, .int j] ∧ (-(2 ^ 62) ≤ i ∧ i < 2 ^ 62 ∧ -(2 ^ 62) ≤ j ∧ j < 2 ^ 62) ∧ k (rngD i (j - i).toNat) M1) kx
theorem rngD_len (lo : Int) (n : Nat) : (rngD lo n).length = n := by unfold rngD; rw [List.length_map, List.length_range]
theorem rngD_at {lo : Int} {n i : Nat} (h : i < n) : (rngD lo n)[i]? = some (.int (lo + (i : Int))) := by
  unfold rngD
  rw [List.getElem?_map, List.getElem?_range h]
  rfl
section
variable {X : Cx} {E : XK} {tg e : Expr} {f : FE}
theorem pi_w {iter : Expr} {t t' : TI} (h : PI X tg iter t) (w : ∀ σ H R, t' σ H R → t σ H R) : PI X tg iter t' := ⟨fun pins s σ H R I q => h.run pins s σ H R I (w σ H R q)⟩
theorem itD_list {K : PySem.W.Frag} {F : Addr → Prop} {H0 : Hp} {M0 : MS} {a : Addr} {vs : List V} {ds : List D} (h : ∀ (F' : Addr → Prop) H M, (∀ a, F' a → F a ∨ H0 a = none) → Go H0 M0 H M → RepM K F' H M → SqL K H a vs) (hv : IsVs K (dm F M0) H0 vs ds) : ItD K F H0 M0 (Itl K a) ds := by
  refine ⟨fun F' i H M hF g R hi => ?_, fun F' i H M x H' hF g R hi y => ?_, fun F' H M hF g R => ⟨vs, h F' H M hF g R, Nat.le_of_eq hv.length⟩⟩
  · obtain ⟨v, e, _⟩ := hv.get (List.getElem?_eq_getElem hi)
    exact ⟨vs, v, h F' H M hF g R, e⟩
  · obtain ⟨rfl, q⟩ := y
    have e := q vs (h F' _ M hF g R)
    obtain ⟨d, e1, h1⟩ := hv.getV e
    exact ⟨d, e1, Go.refl _ _, R, IsV.kp (kpF g hF) _ _ h1⟩
theorem itD_tup {K : PySem.W.Frag} {F : Addr → Prop} {H0 : Hp} {M0 : MS} {a : Addr} {vs : List V} {ds : List D} (h : ∀ (F' : Addr → Prop) H M, (∀ a, F' a → F a ∨ H0 a = none) → Go H0 M0 H M → RepM K F' H M → SqT K H a vs) (hv : IsVs K (dm F M0) H0 vs ds) : ItD K F H0 M0 (Itt K a) ds := by
  refine ⟨fun F' i H M hF g R hi => ?_, fun F' i H M x H' hF g R hi y => ?_, fun F' H M hF g R => ⟨vs, h F' H M hF g R, Nat.le_of_eq hv.length⟩⟩
  · obtain ⟨v, e, _⟩ := hv.get (List.getElem?_eq_getElem hi)
    exact ⟨vs, v, h F' H M hF g R, e⟩
  · obtain ⟨rfl, q⟩ := y
    have e := q vs (h F' _ M hF g R)
    obtain ⟨d, e1, h1⟩ := hv.getV e
    exact ⟨d, e1, Go.refl _ _, R, IsV.kp (kpF g hF) _ _ h1⟩
theorem di_list (h : DE X E e f) : DI X E tg e (fItL f) := pi_w (pi_list h) fun σ H R hh => by
  obtain ⟨F, Γ, M, k, kx, Rp, q, LX, L⟩ := hh
  refine ⟨F, Γ, M, _, kx, Rp, q, LX, fun x M1 v H1 hx g1 R1 i1 => ?_⟩
  obtain ⟨ds, rfl, hx⟩ := hx
  obtain ⟨a, vs, rfl, n, ha, hv⟩ := i1.to_lst
  exact ⟨a, rfl, ⟨vs, SqL.of ha⟩, L ds M1 _ H1 hx g1 R1 (itD_list (fun F' H M hF g R => SqL.of (kpF g hF a _ n ha).2) hv)⟩
theorem di_scr (h : DE X E e f) : DI X E tg e (fItZ f) := pi_w (pi_list h) fun σ H R hh => by
  obtain ⟨F, Γ, M, k, kx, Rp, q, LX, L⟩ := hh
  refine ⟨F, Γ, M, _, kx, Rp, q, LX, fun x M1 v H1 hx g1 R1 i1 => ?_⟩
  obtain ⟨ns, rfl, hx⟩ := hx
  cases i1 with
  | scr ha => exact ⟨_, rfl, ⟨_, ha.sq⟩, L _ M1 _ H1 hx g1 R1 (itD_list (fun F' H M hF g R => (ha.kp (kpF g hF)).sq) (IsVs.ints ns))⟩
theorem di_tup (h : DE X E e f) : DI X E tg e (fItT f) := pi_w (pi_tup h) fun σ H R hh => by
  obtain ⟨F, Γ, M, k, kx, Rp, q, LX, L⟩ := hh
  refine ⟨F, Γ, M, _, kx, Rp, q, LX, fun x M1 v H1 hx g1 R1 i1 => ?_⟩
  obtain ⟨ds, rfl, hx⟩ := hx
  obtain ⟨a, vs, rfl, ha, hv⟩ := i1.to_tup
  exact ⟨a, rfl, ⟨vs, ha.sq⟩, L ds M1 _ H1 hx g1 R1 (itD_tup (fun F' H M hF g R => (ha.kp (kpF g hF)).sq) hv)⟩
theorem di_str (h : DE X E e f) : DI X E tg e (fItS f) := pi_w (pi_str h) fun σ H R hh => by
  obtain ⟨F, Γ, M, k, kx, Rp, q, LX, L⟩ := hh
  refine ⟨F, Γ, M, _, kx, Rp, q, LX, fun x M1 v H1 hx g1 R1 i1 => ?_⟩
  obtain ⟨z, rfl, hx⟩ := hx
  cases i1
  refine ⟨z, rfl, L _ M1 _ H1 hx g1 R1 ⟨fun F' i H M hF g R hi => ?_, fun F' i H M x H' hF g R hi y => ?_, fun F' H M hF g R => ?_⟩⟩
  · rw [List.length_map, Array.length_toList] at hi
    exact hi
  · obtain ⟨rfl, c, e, rfl⟩ := y
    refine ⟨.str ⟨#[c]⟩, ?_, Go.refl _ _, R, .str _⟩
    rw [List.getElem?_map, Array.getElem?_toList, e]
    rfl
  · show z.cps.size ≤ _
    rw [List.length_map, Array.length_toList]
    exact Nat.le_refl _
theorem itD_rng {K : PySem.W.Frag} {F : Addr → Prop} {H0 : Hp} {M0 : MS} {lo : Int} {n : Nat} : ItD K F H0 M0 (Itr lo n) (rngD lo n) :=
  ⟨fun F' i H M hF g R hi => by rw [rngD_len] at hi; exact hi, fun F' i H M x H' hF g R hi y => by
    obtain ⟨rfl, rfl⟩ := y
    rw [rngD_len] at hi
    exact ⟨_, rngD_at hi, Go.refl _ _, R, .int _⟩, fun F' H M hF g R => by rw [rngD_len]; exact Nat.le_refl _⟩
theorem di_rng1 {a : Expr} {g : FA} {p pos : Pos} (hg : Gl X "range") (hm : X.mg "range" = none) (ha : DA X E [a] g) (hs : starEach [a] X.env = [(false, eval a X.env)] := by rfl) : DI X E tg (.Call (.Name "range" p) [a] [] pos) (fRng1 g) :=
  pi_w (pi_range1 hg hm ha hs) fun σ H R hh => by
    obtain ⟨F, Γ, M, k, kx, Rp, q, LX, L⟩ := hh
    refine ⟨F, Γ, M, _, kx, Rp, q, LX, fun x M1 v H1 hx g1 R1 i1 => ?_⟩
    obtain ⟨j, rfl, h1, h2, hx⟩ := hx
    cases i1 with
    | cons v1 i1 =>
      cases i1
      cases v1
      exact ⟨j, rfl, h1, h2, L _ M1 _ H1 hx g1 R1 itD_rng⟩
theorem di_rng2 {a b : Expr} {g : FA} {p pos : Pos} (hg : Gl X "range") (hm : X.mg "range" = none) (ha : DA X E [a, b] g) (hs : starEach [a, b] X.env = [(false, eval a X.env), (false, eval b X.env)] := by rfl) (hs2 : starEach [b] X.env = [(false, eval b X.env)] := by rfl) :
    DI X E tg (.Call (.Name "range" p) [a, b] [] pos) (fRng2 g) :=
  pi_w (pi_range2 hg hm ha hs hs2) fun σ H R hh => by
    obtain ⟨F, Γ, M, k, kx, Rp, q, LX, L⟩ := hh
    refine ⟨F, Γ, M, _, kx, Rp, q, LX, fun x M1 v H1 hx g1 R1 i1 => ?_⟩
    obtain ⟨i, j, rfl, hb, hx⟩ := hx
    cases i1 with
    | cons v1 i1 =>
      cases i1 with
      | cons v2 i1 =>
        cases i1
        cases v1
        cases v2
        exact ⟨i, j, rfl, hb, L _ M1 _ H1 hx g1 R1 itD_rng⟩
end

/-! ### for -/
def ForD (g : FG) (fb : FS) (N : Nd) : List D → GE → MS → Prop
  | [], Γ, M => N.nx Γ M
  | x :: xs, Γ, M => g x Γ fun Γ1 => fb { N with nx := ForD g fb N xs, ct := ForD g fb N xs, bk := N.nx } Γ1 M
def fFor (fi : FA) (g : FG) (fb : FS) : FS := fun N Γ M => fi Γ M (fun xs M1 => ForD g fb N xs Γ M1) N.ex
theorem ds_for {X : Cx} {E : XK} {tg iter : Expr} {body : List Stmt} {fi : FA} {g : FG} {js : List Nat} {fb : FS} {pos : Pos} (hp : PassesOwn (model X.prog X.w) X.A X.env X.xe) (hc : X.calm = true) (hi : DI X E tg iter fi) (hg : DG X tg g js) (hb : DSs X E body fb)
    (hs : ∀ x, foldedSetIterable iter X.env x = pure x := by intro _; rfl) : DS X E (.For tg iter body [] pos) (fFor fi g fb) :=
  ps_w (ps_for hp hc hi hg hb hs) fun D σ H ⟨F, Γ, M, N, R, q, L⟩ => by
    refine ⟨F, Γ, M, _, N.ex, R, q, L.ex, fun xs M1 J H1 hx g1 R1 it => ?_⟩
    refine ⟨fun i m σ' H' => m = xs.length - i ∧ i ≤ xs.length ∧ ∃ Γ' M', Rep X.K F σ' H' Γ' M' ∧ Go H1 M1 H' M' ∧ ForD g fb N (xs.drop i) Γ' M', ⟨xs.length, by simp, Nat.zero_le _, Γ, M1, R.go g1 R1, Go.refl _ _, hx⟩, ?_⟩
    rintro i m σ' H' ⟨rfl, hi, Γ', M', R', g', h'⟩
    have hF : ∀ a, F a → F a ∨ H1 a = none := fun _ z => .inl z
    by_cases hlt : i < xs.length
    · rw [List.drop_eq_getElem_cons hlt] at h'
      refine .inr ⟨it.go F i H' M' hF g' R'.mem hlt, fun σ2 H2 => ∃ Γ2 M2, Rep X.K F σ2 H2 Γ2 M2 ∧ Go H1 M1 H2 M2 ∧ ForD g fb N (xs.drop (i + 1)) Γ2 M2, fun σ2 H2 ⟨Γ2, M2, R2, g2, h2⟩ => ⟨xs.length - (i + 1), by omega, rfl, hlt, Γ2, M2, R2, g2, h2⟩, fun x H2 hy => ?_⟩
      obtain ⟨d, e, gy, Ry, iy⟩ := it.yl F i H' M' x H2 hF g' R'.mem hlt hy
      have ed : d = xs[i] := by
        rw [List.getElem?_eq_getElem hlt] at e
        exact (Option.some.inj e).symm
      subst ed
      refine ⟨F, Γ', M', _, _, R'.go gy Ry, iy, h', fun Γ3 σ3 h3 R3 _ => ?_⟩
      have G : Go H1 M1 H2 M' := g'.trans gy
      have nxt : LinkN X.K F H2 M' (ForD g fb N (xs.drop (i + 1))) (fun σ2 H2 => ∃ Γ2 M2, Rep X.K F σ2 H2 Γ2 M2 ∧ Go H1 M1 H2 M2 ∧ ForD g fb N (xs.drop (i + 1)) Γ2 M2) := fun Γ4 M4 σ4 H4 h4 g4 R4 => ⟨Γ4, M4, R4, G.trans g4, h4⟩
      exact ⟨F, Γ3, M', _, R3, h3, ⟨nxt, L.rt.go (g1.trans G), L.nx.go (g1.trans G), nxt, L.ex.go (g1.trans G)⟩⟩
    · have e : i = xs.length := by omega
      subst e
      rw [List.drop_length] at h'
      exact .inl ⟨it.st F H' M' hF g' R'.mem, L.nx _ _ _ _ h' (g1.trans g') R'⟩

/-! ### comprehensions -/
def noX : KX := fun _ _ _ => False
def wipeG (Γ : GE) : List Nat → GE
  | [] => Γ
  | v :: vs => (wipeG Γ vs).set v none
theorem Rep.wipe {K : PySem.W.Frag} {F : Addr → Prop} {σ : L2.St} {H : Hp} {Γ : GE} {M : MS} (R : Rep K F σ H Γ M) : ∀ vs : List Nat, Rep K F (L2.wipe σ vs) H (wipeG Γ vs) M
  | [] => R
  | v :: vs => by
    have ih := R.wipe vs
    refine ⟨fun j d e => ?_, ?_, R.mem⟩
    · have e' : ((wipeG Γ vs).set v none)[j]? = some (some d) := e
      by_cases hj : v = j
      · subst hj
        rw [List.getElem?_set_self'] at e'
        cases q : (wipeG Γ vs)[v]? with
        | none => rw [q] at e'; cases e'
        | some z => rw [q] at e'; cases e'
      · rw [List.getElem?_set_ne hj] at e'
        obtain ⟨w, h1, h2⟩ := ih.env j d e'
        refine ⟨w, ?_, h2⟩
        show ((L2.wipe σ vs).set v none)[j]? = _
        rw [List.getElem?_set_ne hj]
        exact h1
    · show ((wipeG Γ vs).set v none).length = ((L2.wipe σ vs).set v none).length
      rw [List.length_set, List.length_set]
      exact ih.len
def LcD (g : FG) (tt : FT) (te : FE) (Γ : GE) (k : List D → MS → Prop) : List D → List D → MS → Prop
  | [], acc, M => k acc M
  | x :: xs, acc, M => g x Γ fun Γ1 => tt Γ1 M (fun b M1 => if b = true then te Γ1 M1 (fun y M2 => acc.length < sizeLine ∧ LcD g tt te Γ k xs (acc ++ [y]) M2) noX else LcD g tt te Γ k xs acc M1) noX
def fLc (fi : FA) (g : FG) (tt : FT) (te : FE) (vs : List Nat) : FE := fun Γ M k kx => fi Γ M (fun xs M1 => LcD g tt te (wipeG Γ vs) (fun ds M2 => k (.lst ds) M2) xs [] M1) kx
def fYes : FT := fun _ M k _ => k true M
abbrev DTs (X : Cx) (ifs : List Expr) (f : FT) : Prop := PTs X ifs (liT X.K E0 f)
theorem linkX0 {K : PySem.W.Frag} {F : Addr → Prop} {H : Hp} {M : MS} {E : XK} : LinkX K F H M E noX := fun _ _ _ _ _ h => h.elim
theorem li_lc {K : PySem.W.Frag} {E : XK} {fi : FA} {g : FG} {js vs : List Nat} {tt : FT} {te : FE} {σ : L2.St} {H : Hp} {Q : VK} (hjs : ∀ j ∈ js, j ∈ vs) (h : liE K E (fLc fi g tt te vs) σ H Q) : tLc (liI K E fi) (liG K g js) (liT K E0 tt) (liE K E0 te) vs σ H Q := by
  obtain ⟨F, Γ, M, k, kx, R, q, LX, L⟩ := h
  refine ⟨F, Γ, M, _, kx, R, q, LX, fun xs M1 J H1 hx g1 R1 it Dl hD => ?_⟩
  have R1' := R.go g1 R1
  have nF : ¬ F Dl := fun z => R1.hid Dl z hD
  let F' : Addr → Prop := fun a => F a ∨ a = Dl
  have hF : ∀ a, F' a → F a ∨ H1 a = none := fun a z => z.elim .inl fun e => .inr (e ▸ hD)
  have R0 : RepM K F' (upd H1 Dl (.lst [])) M1 := by
    have Rn : RepM K F (upd H1 Dl (.lst [])) M1 := R1.new hD
    have gn : Go H1 M1 (upd H1 Dl (.lst [])) M1 := Go.new (K := K) (F := F) hD
    refine ⟨fun a c e => (R1.cel a c e).kp (kpF gn hF) (upd_ne fun z => ?_), fun a z => ?_, fun a z => ?_⟩
    · subst z
      exact (R1.cel a c e).there hD
    · rcases z with z | z
      · exact Rn.hid a z
      · rw [z, upd_same]; exact nofun
    · rcases z with z | z
      · exact R1.sep a z
      · rw [z]; exact R1.freshM hD
  refine ⟨fun i m H' => m = xs.length - i ∧ i ≤ xs.length ∧ ∃ acc M' vacc, H' Dl = some (.lst vacc) ∧ IsVs K (dm F' M') H' vacc acc ∧ RepM K F' H' M' ∧ Go H1 M1 H' M' ∧ LcD g tt te (wipeG Γ vs) (fun ds M2 => k (.lst ds) M2) (xs.drop i) acc M',
    ⟨xs.length, by simp, Nat.zero_le _, [], M1, [], upd_same, .nil, R0, Go.new (K := K) (F := F) hD, hx⟩, ?_⟩
  rintro i m H' ⟨rfl, hi, acc, M', vacc, eD, hacc, R', g', h'⟩
  by_cases hlt : i < xs.length
  · rw [List.drop_eq_getElem_cons hlt] at h'
    refine .inr ⟨it.go F' i H' M' hF g' R' hlt, fun H2 => ∃ acc M' vacc, H2 Dl = some (.lst vacc) ∧ IsVs K (dm F' M') H2 vacc acc ∧ RepM K F' H2 M' ∧ Go H1 M1 H2 M' ∧ LcD g tt te (wipeG Γ vs) (fun ds M2 => k (.lst ds) M2) (xs.drop (i + 1)) acc M',
      fun H2 h2 => ⟨xs.length - (i + 1), by omega, rfl, hlt, h2⟩, fun x H2 hy => ?_⟩
    obtain ⟨d, e, gy, Ry, iy⟩ := it.yl F' i H' M' x H2 hF g' R' hlt hy
    have ed : d = xs[i] := by
      rw [List.getElem?_eq_getElem hlt] at e
      exact (Option.some.inj e).symm
    subst ed
    have G : Go H1 M1 H2 M' := g'.trans gy
    have Rw : Rep K F' (L2.wipe σ vs) H2 (wipeG Γ vs) M' := by
      have r1 := R1'.wipe vs
      exact ⟨fun j d e => let ⟨w, a, b⟩ := r1.env j d e; ⟨w, a, IsV.kp (kpF G hF) _ _ b⟩, r1.len, Ry⟩
    refine ⟨F', wipeG Γ vs, M', _, _, Rw, iy, h', fun Γ3 σ3 h3 R3 w3 => ⟨?_, ?_⟩⟩
    · rw [w3 vs hjs]
      apply List.ext_getElem?
      intro j
      rw [wipe_at, wipe_at]
      by_cases hm : j ∈ vs
      · rw [if_pos hm, if_pos hm]
        cases σ[j]? <;> rfl
      · rw [if_neg hm, if_neg hm]
    · refine ⟨F', Γ3, M', _, noX, R3, h3, linkX0, fun b M4 H4 h4 g4 R4 => ?_⟩
      have sep : ∀ {Ma : MS} {Ha : Hp}, RepM K F' Ha Ma → Ma Dl = none := fun r => r.sep Dl (.inr rfl)
      have eD2 : H2 Dl = some (.lst vacc) := gy.kp Dl _ (sep R') eD
      have hacc2 := IsVs.kp (gy.to_kp (F := F')) _ _ hacc
      have eD4 : H4 Dl = some (.lst vacc) := g4.kp Dl _ (sep Ry) eD2
      have hacc4 := IsVs.kp (g4.to_kp (F := F')) _ _ hacc2
      cases b with
      | false => exact ⟨acc, M4, vacc, eD4, hacc4, R4, G.trans g4, h4⟩
      | true =>
        refine ⟨F', Γ3, M4, _, noX, R3.go g4 R4, h4, linkX0, fun y M5 v H5 h5 g5 R5 i5 => ?_⟩
        have eD5 : H5 Dl = some (.lst vacc) := g5.kp Dl _ (sep R4) eD4
        have hacc5 := IsVs.kp (g5.to_kp (F := F')) _ _ hacc4
        obtain ⟨kp, Ru⟩ := R5.hidUpd (p := Dl) (o := .lst (vacc ++ [v])) (.inr rfl)
        refine ⟨vacc, eD5, by rw [hacc5.length]; exact h5.1, acc ++ [y], M5, vacc ++ [v], upd_same, (IsVs.kp kp _ _ hacc5).append (.cons (IsV.kp kp _ _ i5) .nil), Ru, ?_, h5.2⟩
        have G5 := (G.trans g4).trans g5
        refine ⟨fun a o h1 h2 => ?_, G5.dm, fun a h1 => ?_⟩
        · have ne : a ≠ Dl := fun z => by rw [z, hD] at h2; cases h2
          rw [upd_ne ne]
          exact G5.kp a o h1 h2
        · have ne : a ≠ Dl := fun z => h1 (by rw [z]; exact hD)
          rw [upd_ne ne]
          exact G5.sm a h1
  · have e : i = xs.length := by omega
    subst e
    rw [List.drop_length] at h'
    refine .inl ⟨it.st F' H' M' hF g' R', ?_⟩
    have Rl : RepM K F H' M' := R'.less fun a z => .inl z
    refine L (.lst acc) M' (.ref Dl) H' h' (g1.trans g') Rl (.lst (fun z => ?_) eD (IsVs.kp (kp_sub fun a z => z.elim (fun q => .inl (.inl q)) .inr) _ _ hacc))
    rcases z with z | z
    · exact nF z
    · exact z (R'.sep Dl (.inr rfl))
section
variable {X : Cx} {E : XK}
theorem dts_nil : DTs X [] fYes := ⟨fun pins s σ H Q I h => (pts_nil (X := X)).run pins s σ H Q I (let ⟨F, Γ, M, k, kx, R, q, _, L⟩ := h; L true M H q (Go.refl _ _) R.mem)⟩
theorem dts_one {c : Expr} {f : FT} (h : DT X E0 c f) : DTs X [c] f := pts_one h
theorem de_lc {elt tg iter : Expr} {ifs : List Expr} {scope : Scope} (own : List (Str × Nat)) {pos : Pos} {fi : FA} {g : FG} {js : List Nat} {tt : FT} {te : FE} (hc : X.calm = true) (hN : X.N.Nodup) (hi : DI X E tg iter fi) (ok : BlkOk X.N X.env.scope scope own)
    (hg : ∀ (s : Shared) (H : Hp) (C : Addr) (cl : List (Str × Addr)) (fp : List Addr), DG (X.blk s H scope (compEnvC scope cl C X.env) fp) tg g js) (ht : ∀ (s : Shared) (H : Hp) (C : Addr) (cl : List (Str × Addr)) (fp : List Addr), DTs (X.blk s H scope (compEnvC scope cl C X.env) fp) ifs tt)
    (he : ∀ (s : Shared) (H : Hp) (C : Addr) (cl : List (Str × Addr)) (fp : List Addr), DE (X.blk s H scope (compEnvC scope cl C X.env) fp) E0 elt te) (hjs : ∀ j ∈ js, j ∈ own.map (·.2) := by decide) (hs : ∀ x, foldedSetIterable iter X.env x = pure x := by intro _; rfl) :
    DE X E (.ListComp elt [⟨tg, iter, ifs, 0⟩] scope pos) (fLc fi g tt te (own.map (·.2))) := pe_w (pe_lc hc hN hi ok hg ht he hs) fun _ _ _ => li_lc hjs
theorem ds_setLc (i : Nat) {y : Str} {py : Pos} {elt tg iter : Expr} {ifs : List Expr} {scope : Scope} (own : List (Str × Nat)) {pos spos : Pos} {fi : FA} {g : FG} {js : List Nat} {tt : FT} {te : FE} (hc : X.calm = true) (hN : X.N.Nodup) (hy : X.N[i]? = some y) (hyl : X.env.scope.names.lookup y = some .local)
    (hsw : swapsWith (.ListComp elt [⟨tg, iter, ifs, 0⟩] scope pos) (some (.Name y py)) spos.line X.env = pure true) (hi : DI X E tg iter fi) (ok : BlkOk X.N X.env.scope scope own)
    (hg : ∀ (s : Shared) (H : Hp) (C : Addr) (cl : List (Str × Addr)) (fp : List Addr), DG (X.blk s H scope (compEnvC scope cl C X.env) fp) tg g js) (ht : ∀ (s : Shared) (H : Hp) (C : Addr) (cl : List (Str × Addr)) (fp : List Addr), DTs (X.blk s H scope (compEnvC scope cl C X.env) fp) ifs tt)
    (he : ∀ (s : Shared) (H : Hp) (C : Addr) (cl : List (Str × Addr)) (fp : List Addr), DE (X.blk s H scope (compEnvC scope cl C X.env) fp) E0 elt te) (hjs : ∀ j ∈ js, j ∈ own.map (·.2) := by decide) (hs : ∀ x, foldedSetIterable iter X.env x = pure x := by intro _; rfl) :
    DS X E (.Assign [.Name y py] (.ListComp elt [⟨tg, iter, ifs, 0⟩] scope pos) spos) (fSet i (fLc fi g tt te (own.map (·.2)))) :=
  ps_w (ps_setLc hc hN hy hyl hsw hi ok hg ht he hs) fun D σ H ⟨F, Γ, M, N, R, q, L⟩ => li_lc hjs ⟨F, Γ, M, _, N.ex, R, q, L.ex, fun d M1 v H1 h g1 R1 i1 => L.nx _ _ _ _ h g1 ((R.go g1 R1).set i i1)⟩
end
end Dl

set_option Elab.async false
set_option linter.all false
set_option maxRecDepth 100000
set_option maxHeartbeats 2000000
/-! D4: defs and calls by data (no guard stands around: for repr), and the end of a law's row. -/
namespace Dl
open PySem PySem.Spec PyProof.Rows L2

/-! ### a def where no guard stands around -/
structure FnG (P : Program) (w : World) (K : PySem.W.Frag) (mg : Str → Option Value) (base : Heap) (CX : CXT) (k : Nat) (f : Addr) (fd : FuncData) (ps : List Str) (sp : Sp) : Prop where
  len : ∀ vs H Q E, sp vs H Q E → vs.length = ps.length
  run : ∀ (A : Around) (outer : List Env) (s : Shared) (H : Hp) (args : Args) (us : List Value) (vs : List V) (Q : VK) (E : XK), A.guards = some [] → Room k A →
    Env0 P w K mg base A outer s H → BindsTo s fd args (ps.zip us) → Vals vs us → sp vs H Q E → codeAny (model P w) A (.call (.ref f) args) (CR CX outer P w H s Q E) s
section
variable {P : Program} {w : World} {K : PySem.W.Frag} {mg : Str → Option Value} {base : Heap} {CX : CXT}
theorem FnG.mono {j k : Nat} {f : Addr} {fd : FuncData} {ps : List Str} {sp : Sp} (F : FnG P w K mg base CX j f fd ps sp) (h : j ≤ k) : FnG P w K mg base CX k f fd ps sp :=
  ⟨F.len, fun A outer s H args us vs Q E hg hr => F.run A outer s H args us vs Q E hg (hr.mono h)⟩
theorem fnG_of {x qual : Str} {params : Arguments} {body : List Stmt} {scope : Scope} {dvs : List V} {kws : List (Str × V)} {f : Addr} {fd : FuncData} {N ps : List Str} {k : Nat} {sp : Sp}
    (F : FunD K x qual params body scope dvs kws f fd) (S : FnScope N ps scope) (len : ∀ vs H Q E, sp vs H Q E → vs.length = ps.length)
    (hbody : ∀ (cdv : Value) (A : Around) (outer : List Env) (s : Shared) (H : Hp) (vs : List V) (Q : VK) (E : XK), A.guards = some [] → Room k (A.deeper (envOfC qual scope s.heap.objs.size f cdv)) → sp vs H Q E →
      ∃ t, PSs (cxOf CX P w K mg base N qual scope f cdv A outer s H E) body t ∧ t { nx := fun _ H' => Q .non H', rt := Q } (L2.start N vs) H) : FnG P w K mg base CX (k + 1) f fd ps sp := by
  obtain ⟨oc, od, dV, kV, doc, pm, an, cdv, ct, osl, rfl, lk, hcd, _, _⟩ := F.ex
  refine ⟨len, ?_⟩
  intro A outer s H args us vs Q E hg hr e0 hb r hsp
  have KX : K.In s.heap := e0.mod.kin.keeps fun b o e => (e0.bs b o e).1
  have hkind : ∀ y ∈ ps.zip us, scope.names.lookup y.1 = some .local ∨ (scope.names.lookup y.1 = some .cell ∧ ((cellsFrom (s.heap.objs.size + 1) scope.names []).lookup y.1).isSome = true) := by
    rintro ⟨n, v⟩ hy
    exact (S.par n (List.of_mem_zip hy).1).imp id fun q => ⟨q, PySem.W.cellsFrom_some _ _ _ (.inl q)⟩
  have lim := e0.mod.nolimit.keeps fun b o e => (e0.bs b o e).1
  refine codeAny_call_function hr.depth (KX _ _ lk) rfl S.co S.gen rfl (PySem.W.codeRec_of KX hcd) (hb _ _ _ _ ?_)
  refine wpAny_newFunctionEnv_cells S.kind hkind ?_
  rintro env rfl s1 x
  obtain ⟨t, ht, hq⟩ := hbody cdv A outer s H vs Q E hg (hr.deeper _) hsp
  refine ⟨lim.keeps x.toInCall.keep, codeAny_func (wpAny_mono (ht.run [] s1 (L2.start N vs) H _ (inv_start S hr.hd e0 (len _ _ _ _ hsp) r x) hq) ?_ fun e s' hs => hs)⟩
  intro fl s' hs
  match fl, hs with
  | .ret u, ⟨v, _, H', J, rv, q⟩ => exact ⟨v, H', J.os, J.bare, J.base, J.hok, rv, q⟩
  | .next, ⟨_, H', J, q⟩ => exact ⟨.non, H', J.os, J.bare, J.base, J.hok, rfl, q⟩
  | .brk, ⟨_, _, _, q⟩ => exact q.elim
  | .cont, ⟨_, _, _, q⟩ => exact q.elim
end
section
variable {X : Cx} {CX : CXT} {k : Nat} {f : Addr} {fd : FuncData} {ps ks : List Str} {sp : Sp} {dvs : List V} {ds : List Value} {E : XK} {x : Str} {p pos : Pos} {e : Expr} {es : List Expr} {t tk : TA} {kws : List Keyword}
/-- a call, from how it ends -/
theorem end_call {pins : List (Addr × Obj)} {σ : L2.St} {H : Hp} {s : Shared} {Q : VK} {us : List Value} {kw : List (Str × Value)} (hx : Passes CX X E) (I : Inv X pins σ H s)
    (h : codeAny (model X.prog X.w) X.A (.call (.ref f) ⟨us, kw⟩) (CR CX X.stack X.prog X.w H s Q E) s) : wpAny (model X.prog X.w) X.A (call (.ref f) us kw) (EP X pins σ Q) X.xe s := by
  refine wpAny_call (codeAny_mono h fun r s' hq => ?_)
  cases r with
  | error e => exact hx pins σ H s e s' I hq
  | ok fl => cases fl <;> first | exact I.after hq | exact False.elim hq
theorem run_fnG {pins : List (Addr × Obj)} {σ : L2.St} {H : Hp} {s : Shared} {Q : VK} {us : List Value} {vs : List V} (F : FnG X.prog X.w X.K X.mg X.base CX k f fd ps sp) (hgd : X.A.guards = some []) (hr : Room k X.A) (hb : Binds X.K fd ps ds) (hd : Vals dvs ds) (hx : Passes CX X E)
    (I : Inv X pins σ H s) (r : Vals vs us) (h : sp (vs ++ dvs) H Q E) : wpAny (model X.prog X.w) X.A (call (.ref f) us) (EP X pins σ Q) X.xe s := by
  have r2 := r.append hd
  have hl := r2.length.symm.trans (F.len _ _ _ _ h)
  exact end_call hx I (F.run X.A X.stack s H ⟨us, []⟩ (us ++ ds) (vs ++ dvs) Q E hgd hr I.env0 (hb s us I.kIn hl) r2 h)
theorem pe_callG (F : FnG X.prog X.w X.K X.mg X.base CX k f fd ps sp) (hgd : X.A.guards = some []) (hr : Room k X.A) (hg : Gl X x) (hm : X.mg x = some (.ref f)) (hk : PySem.W.keepIn X.K (.ref f) = true) (hb : Binds X.K fd ps ds) (hd : Vals dvs ds) (hx : Passes CX X E)
    (ha : PA X (e :: es) t) (hdb : (x == ("__debug__" : Str)) = false := by decide) (he : starEach (e :: es) X.env = (false, eval e X.env) :: starEach es X.env := by rfl) (hpl : (backTo pos (starEach es X.env)).any (·.1) = false := by rfl) :
    PE X (.Call (.Name x p) (e :: es) [] pos) (tCall sp dvs E t) := by
  constructor
  intro pins s σ H Q I h
  refine wpAny_Call_Name_kw (ld_glob I hg hm (PySem.W.callWith_K (h₀ := X.base) I.ok.mod.kin hk (thn (ha.run pos pins s σ H _ I h) ?_) he hpl) hdb)
  rintro us s1 ⟨vs, H1, I1, r, q⟩
  exact ⟨I1.kIn, run_fnG F hgd hr hb hd hx I1 r q⟩
theorem pe_callG0 (F : FnG X.prog X.w X.K X.mg X.base CX k f fd ps sp) (hgd : X.A.guards = some []) (hr : Room k X.A) (hg : Gl X x) (hm : X.mg x = some (.ref f)) (hk : PySem.W.keepIn X.K (.ref f) = true) (hb : Binds X.K fd ps ds) (hd : Vals dvs ds) (hx : Passes CX X E)
    (hdb : (x == ("__debug__" : Str)) = false := by decide) : PE X (.Call (.Name x p) [] [] pos) (tCall sp dvs E tNil) :=
  ⟨fun pins s σ H Q I h => wpAny_Call_Name_kw (ld_glob I hg hm (PySem.W.callWith_K0 I.kIn hk (run_fnG (us := []) F hgd hr hb hd hx I .nil h)) hdb)⟩
/-- f(k = v, ..), keywords alone -/
theorem pe_callGK0 {g : List Value → List Value → List Value} {gV : List V → List V → List V} (F : FnG X.prog X.w X.K X.mg X.base CX k f fd ps sp) (hgd : X.A.guards = some []) (hr : Room k X.A) (hg : Gl X x) (hm : X.mg x = some (.ref f)) (hk : PySem.W.keepIn X.K (.ref f) = true) (hb : KBinds X.K fd ps ks g gV) (hx : Passes CX X E)
    (hkw : PK X kws tk) (hall : (backToKw pos (keywordEach kws X.env)).all (·.1.isSome) = true := by rfl) (hks : (backToKw pos (keywordEach kws X.env)).filterMap (·.1) = ks := by rfl)
    (hdb : (x == ("__debug__" : Str)) = false := by decide) (hpl : ((backTo pos (starEach [] X.env)).any (·.1) || (backToKw pos (keywordEach kws X.env)).any (·.1.isNone)) = false := by rfl) :
    PE X (.Call (.Name x p) [] kws pos) (tCallK sp gV E tNil tk) := by
  constructor
  intro pins s σ H Q I h
  refine wpAny_Call_Name_kw (ld_glob I hg hm (PySem.W.callWith_KW0 (h₀ := X.base) I.ok.mod.kin hk hall (thn (hkw.run pos pins s σ H _ I h) ?_) hpl) hdb)
  rintro ws s2 ⟨zs, H2, I2, rz, q2⟩
  refine ⟨I2.kIn, ?_⟩
  rw [hks]
  have r2 := hb.rel (vs := []) (us := []) .nil rz
  have hl := r2.length.symm.trans (F.len _ _ _ _ q2)
  exact end_call hx I2 (F.run X.A X.stack s2 H2 ⟨[], ks.zip ws⟩ _ _ Q E hgd hr I2.env0 (hb.to s2 [] ws I2.kIn hl) r2 q2)
end

/-! ### promises by data, of defs that let no exception out -/
def spD (K : PySem.W.Frag) (pf : FN) : Sp := fun vs H Q _ => ∃ F ds M k, RepM K F H M ∧ IsVs K (dm F M) H vs ds ∧ pf ds M k ∧ Link K F H M k Q
def startG (N : List Str) (ds : List D) : GE := ds.map some ++ List.replicate (N.length - ds.length) none
theorem rep_start {K : PySem.W.Frag} {F : Addr → Prop} {H : Hp} {M : MS} {N : List Str} {vs : List V} {ds : List D} (R : RepM K F H M) (h : IsVs K (dm F M) H vs ds) : Rep K F (L2.start N vs) H (startG N ds) M := by
  refine ⟨fun i d e => ?_, ?_, R⟩
  · unfold startG at e
    unfold L2.start
    have hl := h.length
    by_cases hi : i < ds.length
    · rw [List.getElem?_append_left (by rw [List.length_map]; exact hi), List.getElem?_map, List.getElem?_eq_getElem hi] at e
      have e1 : ds[i] = d := Option.some.inj (Option.some.inj e)
      obtain ⟨v, h1, h2⟩ := h.get (i := i) (d := d) (by rw [List.getElem?_eq_getElem hi, e1])
      refine ⟨v, ?_, h2⟩
      rw [List.getElem?_append_left (by rw [List.length_map, hl]; exact hi), List.getElem?_map, h1]
      rfl
    · rw [List.getElem?_append_right (by rw [List.length_map]; omega), List.getElem?_replicate] at e
      split at e
      · cases e
      · cases e
  · unfold startG L2.start
    rw [List.length_append, List.length_append, List.length_map, List.length_map, List.length_replicate, List.length_replicate, h.length]
abbrev ndOf (k : KD) (kx : KX) : Nd := { nx := fun _ M => k .non M, rt := k, ex := kx }
section
variable {P : Program} {w : World} {K : PySem.W.Frag} {mg : Str → Option Value} {base : Heap}
/-- THE RULE of a def: its body's term, and what is left to be shown of data -/
theorem okD {x qual : Str} {params : Arguments} {body : List Stmt} {scope : Scope} {dvs : List V} {kws : List (Str × V)} {f : Addr} {fd : FuncData} {N ps : List Str} {k : Nat} {pf : FN}
    (F : FunD K x qual params body scope dvs kws f fd) (S : FnScope N ps scope) (len : ∀ ds M k, pf ds M k → ds.length = ps.length)
    (hb : ∀ (cdv : Value) (A : Around) (outer : List Env) (s : Shared) (H : Hp) (E : XK), A.guards = some [] → Room k (A.deeper (envOfC qual scope s.heap.objs.size f cdv)) →
      ∃ g, DSs (cxOf CX0 P w K mg base N qual scope f cdv A outer s H E).nox E0 body g ∧ ∀ ds M k, pf ds M k → g (ndOf k noX) (startG N ds) M) : FnG P w K mg base CX0 (k + 1) f fd ps (spD K pf) := by
  refine fnG_of F S (fun vs H Q E ⟨Fr, ds, M, k, R, hv, h, L⟩ => hv.length.trans (len _ _ _ h)) fun cdv A outer s H vs Q E hg hr ⟨Fr, ds, M, k, R, hv, h, L⟩ => ?_
  obtain ⟨g, hd, q⟩ := hb cdv A outer s H E hg hr
  refine ⟨_, PSs.nox hd, Fr, startG N ds, M, _, rep_start R hv, q ds M k h, ⟨fun Γ' M' σ' H' h' g' R' => ?_, L, fun _ _ _ _ (z : False) _ _ => z.elim, fun _ _ _ _ (z : False) _ _ => z.elim, linkX0⟩⟩
  exact L .non M' .non H' h' g' R'.mem .non
end
def fCall (pf : FN) (dds : List D) (g : FA) : FE := fun Γ M k kx => g Γ M (fun ds M1 => pf (ds ++ dds) M1 k) kx
section
variable {X : Cx} {k : Nat} {f : Addr} {fd : FuncData} {ps ks : List Str} {pf : FN} {dvs : List V} {dds : List D} {ds : List Value} {E : XK} {x : Str} {p pos : Pos} {e : Expr} {es : List Expr} {g : FA} {kws : List Keyword}
theorem li_call {K : PySem.W.Frag} {σ : L2.St} {H : Hp} {Q : VK} (hdd : ∀ P H, IsVs K P H dvs dds) (h : liE K E (fCall pf dds g) σ H Q) : tCall (spD K pf) dvs E0 (liA K E g) σ H Q := by
  obtain ⟨F, Γ, M, k, kx, R, q, LX, L⟩ := h
  exact ⟨F, Γ, M, _, kx, R, q, LX, fun xs M1 vs H1 h1 g1 R1 i1 => ⟨F, xs ++ dds, M1, k, R1, i1.append (hdd _ _), h1, L.go g1⟩⟩
theorem de_call (F : FnG X.prog X.w X.K X.mg X.base CX0 k f fd ps (spD X.K pf)) (hgd : X.A.guards = some []) (hr : Room k X.A) (hg : Gl X x) (hm : X.mg x = some (.ref f)) (hk : PySem.W.keepIn X.K (.ref f) = true) (hb : Binds X.K fd ps ds) (hd : Vals dvs ds) (hdd : ∀ P H, IsVs X.K P H dvs dds)
    (ha : DA X E (e :: es) g) (hdb : (x == ("__debug__" : Str)) = false := by decide) (he : starEach (e :: es) X.env = (false, eval e X.env) :: starEach es X.env := by rfl) (hpl : (backTo pos (starEach es X.env)).any (·.1) = false := by rfl) :
    DE X E (.Call (.Name x p) (e :: es) [] pos) (fCall pf dds g) := pe_w (pe_callG F hgd hr hg hm hk hb hd pass0 ha hdb he hpl) fun _ _ _ => li_call hdd
/-- keywords -/
structure DK (X : Cx) (E : XK) (kws : List Keyword) (f : FA) : Prop where
  pk : PK X kws (liA X.K E f)
theorem dk_nil : DK X E [] fNil := ⟨⟨fun pos pins s σ H Q I ⟨F, Γ, M, k, kx, R, q, _, L⟩ => (pk_nil (X := X)).run pos pins s σ H Q I (L [] M [] H q (Go.refl _ _) R.mem .nil)⟩⟩
theorem dk_cons {nm : Option Str} {kpos : Pos} {fe : FE} (ha : DE X E e fe) (hr : DK X E kws g) : DK X E (⟨nm, e, kpos⟩ :: kws) (fCons fe g) :=
  ⟨⟨fun pos pins s σ H Q I h => (pk_cons ha hr.pk).run pos pins s σ H Q I (by
    obtain ⟨F, Γ, M, k, kx, R, q, LX, L⟩ := h
    refine ⟨F, Γ, M, _, kx, R, q, LX, fun x M1 v H1 hx g1 R1 i1 => ?_⟩
    exact ⟨F, Γ, M1, _, kx, R.go g1 R1, hx, LX.go g1, fun xs M2 vs H2 h2 g2 R2 i2 => L _ _ _ _ h2 (g1.trans g2) R2 (.cons (IsV.kp g2.to_kp _ _ i1) i2)⟩)⟩⟩
def fCallK0 (pf : FN) (gD : List D → List D) (g : FA) : FE := fun Γ M k kx => g Γ M (fun ds M1 => pf (gD ds) M1 k) kx
theorem de_callK0 {gg : List Value → List Value → List Value} {gV : List V → List V → List V} {gD : List D → List D} (F : FnG X.prog X.w X.K X.mg X.base CX0 k f fd ps (spD X.K pf)) (hgd : X.A.guards = some []) (hr : Room k X.A) (hg : Gl X x) (hm : X.mg x = some (.ref f)) (hk : PySem.W.keepIn X.K (.ref f) = true)
    (hb : KBinds X.K fd ps ks gg gV) (hgD : ∀ P H vs ds, IsVs X.K P H vs ds → IsVs X.K P H (gV [] vs) (gD ds)) (hkw : DK X E kws g)
    (hall : (backToKw pos (keywordEach kws X.env)).all (·.1.isSome) = true := by rfl) (hks : (backToKw pos (keywordEach kws X.env)).filterMap (·.1) = ks := by rfl)
    (hdb : (x == ("__debug__" : Str)) = false := by decide) (hpl : ((backTo pos (starEach [] X.env)).any (·.1) || (backToKw pos (keywordEach kws X.env)).any (·.1.isNone)) = false := by rfl) :
    DE X E (.Call (.Name x p) [] kws pos) (fCallK0 pf gD g) := pe_w (pe_callGK0 F hgd hr hg hm hk hb pass0 hkw.pk hall hks hdb hpl) fun σ H Q h => by
  obtain ⟨F, Γ, M, k, kx, R, q, LX, L⟩ := h
  exact ⟨F, Γ, M, _, kx, R, q, LX, fun xs M1 vs H1 h1 g1 R1 i1 => ⟨F, gD xs, M1, k, R1, hgD _ _ _ _ i1, h1, L.go g1⟩⟩
end

/-! ### the end of a law's row -/
theorem law_callG {P : Program} {w : World} {K : PySem.W.Frag} {mg mb : Str → Option Value} {k : Nat} {fa a : Addr} {fd : FuncData} {x : Str} {pf : FN} {s₁ : Shared} {vs : List Value} {ns : List Int}
    (KX : K.In s₁.heap) (hns : s₁.heap.Ns mainGlobals mg) (hb : s₁.heap.Ns builtinsNs mb) (hbb : ∀ x : Str, x ≠ "__name__" → mb x = bootBuiltins x) (hlim : s₁.heap.NoLimit) (hg : s₁.gens = #[])
    (ha : s₁.heap.get? a = some { cls := .type "list", data := .seq vs.toArray }) (hi : IntsAre vs ns) (hl : ns.length ≤ sizeLine) (hr : Room k callerA)
    (F : ∀ base : Heap, K.In base → base.Ns mainGlobals mg → FnG P w K mg base CX0 k fa fd [x] (spD K pf)) (hbind : ∀ (s : Shared) (u : Value), BindsTo s fd ⟨[u], []⟩ [(x, u)])
    (hsp : pf [.scr ns] M0 (fun d _ => d = .bl true)) :
    codeAny (model P w) callerA (.call (.ref fa) ⟨[.ref a], []⟩) (fun r s' => r = .ok (.ret (.bool true)) ∧ OldK s₁.heap s'.heap ∧ s'.os = s₁.os ∧ AllBare s'.gens) s₁ := by
  have rv := vals_ints hi
  -- the script is tracked, known to its object, unless the written part holds it
  have core : ∀ H : Hp, (∀ b u, H b = some u → b = a ∧ K.lookup a = none ∧ u = .frz { cls := .type "list", data := .seq vs.toArray } (.lst (ns.map V.int))) → SqL K H a (ns.map V.int) → HOk P w H s₁.heap →
      codeAny (model P w) callerA (.call (.ref fa) ⟨[.ref a], []⟩) (fun r s' => r = .ok (.ret (.bool true)) ∧ OldK s₁.heap s'.heap ∧ s'.os = s₁.os ∧ AllBare s'.gens) s₁ := by
    intro H hH hS hok
    have free : ∀ {b : Addr} {o : Obj}, s₁.heap.get? b = some o → (b = a → K.lookup a = none → False) → H b = none := fun {b o} e n => by
      cases q : H b with
      | none => rfl
      | some u => exact ((hH b u q).elim fun e1 e2 => n e1 e2.1).elim
    have nsK : ∀ {b : Addr} {m : Str → Option Value}, s₁.heap.Ns b m → (hidT s₁.heap H).Ns b m := fun {b m} ⟨o, es, ep, e, d, r⟩ => by
      refine ⟨o, es, ep, hidT_get e (free e fun z _ => ?_), d, r⟩
      rw [z, ha] at e
      cases e
      cases d
    have hKb : K.In (hidT s₁.heap H) := fun b o e => hidT_get (KX b o e) (free (KX b o e) fun z n => by rw [z, n] at e; cases e)
    have hM : Mod K mg (hidT s₁.heap H) := ⟨hKb, nsK hns, ⟨mb, nsK hb, hbb⟩, hlim.imp fun mc z => ⟨nsK z.1, z.2⟩⟩
    have e0 : Env0 P w K mg (hidT s₁.heap H) callerA [] s₁ H := ⟨rfl, hM, fun b o e => of_hidT e, Nat.le_of_eq (hidT_size _ _), trivial, fun b z => absurd (show b ∈ ([] : List Addr) from z) (by simp), hok, .of_eq hg⟩
    have R : RepM K (fun _ => False) H Dl.M0 := ⟨fun b c e => (by cases e), fun _ z => z.elim, fun _ z => z.elim⟩
    have hv : IsV K (dm (fun _ => False) Dl.M0) H (.ref a) (.scr ns) := by
      rcases hS with hS | hS
      · exact .scr (.inl ⟨fun z => z.elim id fun q => q rfl, hS⟩)
      · exact .scr (.inr (.inr hS))
    refine codeAny_mono ((F _ hKb (nsK hns)).run callerA [] s₁ H ⟨[.ref a], []⟩ [.ref a] [.ref a] (fun v _ => v = .bl true) (fun _ _ _ => False) rfl hr e0 (hbind s₁ (.ref a)) (.cons rfl .nil) ⟨_, _, _, _, R, .cons hv .nil, hsp, fun d M' v H' hd _ _ i => ?_⟩) fun r s' h => ?_
    · rw [hd] at i
      cases i
      rfl
    match r, h with
    | .ok (.ret u), ⟨v, H', os, bare, un, hok', r', q⟩ =>
      obtain rfl : v = .bl true := q
      obtain rfl : u = Value.bool true := r'
      refine ⟨rfl, OldK.of_keep fun b o e => ?_, os, bare⟩
      cases q : H b with
      | none => exact un.keep b o e q (by intro z; exact absurd (show b ∈ ([] : List Addr) from z) (by simp)) (by simp)
      | some u =>
        obtain ⟨_, _, z⟩ := hH b u q
        rw [z] at q
        have e1 := (hok b _ q).1
        have e2 := (hok' b _ (un.frzs b _ _ q)).1
        rw [e] at e1
        rw [e2, e1]
    | .error e, h => exact h.elim
  cases hk : K.lookup a with
  | some o =>
    have e := KX a o hk
    rw [ha] at e
    cases e
    exact core (fun _ => none) (fun b u z => by cases z) (.inr ⟨_, vs.toArray, _, hk, rfl, rfl, rfl, by rw [List.size_toArray, hi.length]; exact hl, by simpa using rv⟩) fun b u z => by cases z
  | none =>
    refine core (fun b => if b = a then some (.frz { cls := .type "list", data := .seq vs.toArray } (.lst (ns.map V.int))) else none) (fun b u z => ?_) (.inl (.inr ⟨{ cls := .type "list", data := .seq vs.toArray }, if_pos rfl⟩)) fun b u z => ?_
    · by_cases hb : b = a
      · exact ⟨hb, hk, (Option.some.inj ((if_pos hb).symm.trans z)).symm⟩
      · cases (if_neg hb).symm.trans z
    · by_cases hb : b = a
      · cases (if_pos hb).symm.trans z
        subst hb
        exact ⟨ha, by rw [List.length_map]; exact hl, vs, _, rv, ha⟩
      · cases (if_neg hb).symm.trans z
theorem walkG {l : PySem.W.OpenLaw} {n k : Nat} {q : Program} {loose : List Str} {XP : (Str → Option Value) → Heap → Prop} {YP : World → Heap → Prop} {d : DefRec} {x : Str}
    (hn : l.most = some n) (hn2 : n ≤ sizeLine) (hdf : d.params.defaults = []) (hr : Room k callerA)
    (F : ∀ (w : World) (mg : Str → Option Value) (fa : Addr) (h : Heap), YP w h → h.Ns mainGlobals mg → mg d.name = some (.ref fa) →
      ∃ (K : PySem.W.Frag) (fd : FuncData) (pf : FN), K.In h ∧ (∀ (s : Shared) (u : Value), BindsTo s fd ⟨[u], []⟩ [(x, u)]) ∧ (∀ ns : List Int, ns.length ≤ n → pf [.scr ns] M0 (fun d _ => d = .bl true)) ∧
        ∀ base : Heap, K.In base → base.Ns mainGlobals mg → FnG l.prog w K mg base CX0 k fa fd [x] (spD K pf)) :
    PySem.W.WalkO q loose XP YP l.row.toRowW d [] (fun f vs => PySem.call f vs) := by
  refine Att.attach_call hn hdf fun w s₀ s₁ mg mb fa o pm cd doc a vs ns G Y ho hd hcd hmg hobj hints hlen hg => ?_
  obtain ⟨K, fd, pf, KX, hb, hsp, hF⟩ := F w mg fa _ Y G.T.g hmg
  exact law_callG KX G.T.g G.T.b G.T.builtins G.T.nolimit hg hobj hints (Nat.le_trans hlen hn2) hr hF hb (hsp ns hlen)
end Dl

set_option Elab.async false
set_option linter.all false
set_option maxRecDepth 100000
set_option maxHeartbeats 2000000
/-! D5: the built-in operations by data. -/
namespace Dl
open PySem PySem.Spec PyProof.Rows L2

/-! ### ints -/
def o2I (C : Int → Int → Prop) (r : Int → Int → D) : F2 := fun x y M k => match x, y with
  | .int i, .int j => C i j ∧ k (r i j) M
  | _, _ => False
theorem opd_I {K : PySem.W.Frag} {C : Int → Int → Prop} {g : Int → Int → V} {r : Int → Int → D} (h : ∀ P H i j, IsV K P H (g i j) (r i j)) : OpD K (rI C g) (o2I C r) := by
  intro F H M v w x y k Q R hv hw hg L
  cases hv with
  | int i =>
    cases hw with
    | int j => exact ⟨i, j, rfl, rfl, hg.1, L.now R hg.2 (h _ _ _ _)⟩
    | _ => exact hg.elim
  | _ => exact hg.elim
theorem opd_I0 {K : PySem.W.Frag} {g : Int → Int → V} {r : Int → Int → D} (h : ∀ P H i j, IsV K P H (g i j) (r i j)) : OpD K (rI0 g) (o2I (fun _ _ => True) r) := by
  intro F H M v w x y k Q R hv hw hg L
  cases hv with
  | int i =>
    cases hw with
    | int j => exact ⟨i, j, rfl, rfl, L.now R hg.2 (h _ _ _ _)⟩
    | _ => exact hg.elim
  | _ => exact hg.elim
abbrev oSub : F2 := o2I (fun _ _ => True) fun i j => .int (i - j)
abbrev oMul : F2 := o2I CMul fun i j => .int (i * j)
abbrev oMod : F2 := o2I (fun _ j => 0 < j) fun i j => .int (i % j)
abbrev oDiv : F2 := o2I CDivW fun i j => .int (i / j)
abbrev oPow : F2 := o2I CPow fun i j => .int (i ^ j.toNat)
abbrev oLe : F2 := o2I (fun _ _ => True) fun i j => .bl (decide (i ≤ j))
abbrev oGt : F2 := o2I (fun _ _ => True) fun i j => .bl (decide (j < i))
abbrev oGe : F2 := o2I (fun _ _ => True) fun i j => .bl (decide (j ≤ i))
def o1I (r : Int → D) : F1 := fun x M k => match x with
  | .int i => k (r i) M
  | _ => False
section
variable {X : Cx} {E : XK} {pos : Pos} {a b : Expr} {fa fb : FE}
theorem d_sub (ha : DE X E a fa) (hb : DE X E b fb) : DE X E (.BinOp a .Sub b pos) (fOp oSub fa fb) := de_op op_sub (opd_I0 fun _ _ _ _ => .int _) ha hb
theorem d_mul (ha : DE X E a fa) (hb : DE X E b fb) : DE X E (.BinOp a .Mult b pos) (fOp oMul fa fb) := de_op op_mul (opd_I fun _ _ _ _ => .int _) ha hb
theorem d_mod (ha : DE X E a fa) (hb : DE X E b fb) : DE X E (.BinOp a .Mod b pos) (fOp oMod fa fb) := de_op op_mod (opd_I fun _ _ _ _ => .int _) ha hb
theorem d_div (ha : DE X E a fa) (hb : DE X E b fb) : DE X E (.BinOp a .FloorDiv b pos) (fOp oDiv fa fb) := de_op op_fdivW (opd_I fun _ _ _ _ => .int _) ha hb
theorem d_pow (ha : DE X E a fa) (hb : DE X E b fb) : DE X E (.BinOp a .Pow b pos) (fOp oPow fa fb) := de_op op_pow (opd_I fun _ _ _ _ => .int _) ha hb
theorem d_le (ha : DE X E a fa) (hb : DE X E b fb) : DE X E (.Compare a [.LtE] [b] pos) (fOp oLe fa fb) := de_cmp op_le (opd_I0 fun _ _ _ _ => .bl _) ha hb (nomark _)
theorem d_gt (ha : DE X E a fa) (hb : DE X E b fb) : DE X E (.Compare a [.Gt] [b] pos) (fOp oGt fa fb) := de_cmp op_gt (opd_I0 fun _ _ _ _ => .bl _) ha hb (nomark _)
theorem d_ge (ha : DE X E a fa) (hb : DE X E b fb) : DE X E (.Compare a [.GtE] [b] pos) (fOp oGe fa fb) := de_cmp op_ge (opd_I0 fun _ _ _ _ => .bl _) ha hb (nomark _)
theorem t_le (ha : DE X E a fa) (hb : DE X E b fb) : DT X E (.Compare a [.LtE] [b] pos) (fTest (fOp oLe fa fb)) := dt_cmp op_le (opd_I0 fun _ _ _ _ => .bl _) ha hb (nomark _)
theorem t_gt (ha : DE X E a fa) (hb : DE X E b fb) : DT X E (.Compare a [.Gt] [b] pos) (fTest (fOp oGt fa fb)) := dt_cmp op_gt (opd_I0 fun _ _ _ _ => .bl _) ha hb (nomark _)
theorem t_ge (ha : DE X E a fa) (hb : DE X E b fb) : DT X E (.Compare a [.GtE] [b] pos) (fTest (fOp oGe fa fb)) := dt_cmp op_ge (opd_I0 fun _ _ _ _ => .bl _) ha hb (nomark _)
theorem t_leLe {c : Expr} {fc : FE} (ha : DE X E a fa) (hb : DE X E b fb) (hc : DE X E c fc) (hm : lastMarks [.LtE, .LtE] [b, c] = false := by with_unfolding_all rfl) : DT X E (.Compare a [.LtE, .LtE] [b, c] pos) (fTest (fChain oLe oLe fa fb fc)) :=
  dt_chain op_le (opd_I0 fun _ _ _ _ => .bl _) op_le (opd_I0 fun _ _ _ _ => .bl _) ha hb hc hm
theorem d_neg (ha : DE X E a fa) : DE X E (.UnaryOp .USub a pos) (fUn (o1I fun i => .int (-i)) fa) := de_un un_neg (fun F H M v x k Q R hv hg L => by
  cases hv with
  | int i => exact ⟨i, rfl, L.now R hg (.int _)⟩
  | _ => exact hg.elim) ha
end

theorem OpR.or {X : Cx} {f : Value → Value → Sem Value} {r r' : R2} (h : OpR X f r) (h' : OpR X f r') : OpR X f (fun x y H Q => r x y H Q ∨ r' x y H Q) := by
  intro pins s σ H x y v u Q I rx ry q
  rcases q with q | q
  · exact h pins s σ H x y v u Q I rx ry q
  · exact h' pins s σ H x y v u Q I rx ry q
theorem CallR.or {X : Cx} {f : Value} {r r' : List V → Hp → VK → Prop} (h : CallR X f r) (h' : CallR X f r') : CallR X f (fun xs H Q => r xs H Q ∨ r' xs H Q) := by
  intro pins s σ H xs us Q I r q
  rcases q with q | q
  · exact h pins s σ H xs us Q I r q
  · exact h' pins s σ H xs us Q I r q
/-- a + b: ints, texts, lists, tuples that are not empty -/
def oAdd : F2 := fun x y M k => match x, y with
  | .int i, .int j => k (.int (i + j)) M
  | .str i, .str j => i.length + j.length ≤ sizeLine ∧ k (.str (i ++ j)) M
  | .lst a, .lst b => a.length + b.length ≤ sizeLine ∧ k (.lst (a ++ b)) M
  | .tup a, .tup b => a ≠ [] ∧ a.length + b.length ≤ sizeLine ∧ k (.tup (a ++ b)) M
  | _, _ => False
/-- a < b: ints, texts -/
def oLt : F2 := fun x y M k => match x, y with
  | .int i, .int j => k (.bl (decide (i < j))) M
  | .str i, .str j => k (.bl (decide (i.cps.toList < j.cps.toList))) M
  | _, _ => False
section
variable {X : Cx} {E : XK} {pos : Pos} {a b : Expr} {fa fb : FE}
theorem d_add (ha : DE X E a fa) (hb : DE X E b fb) : DE X E (.BinOp a .Add b pos) (fOp oAdd fa fb) := de_op (OpR.or op_add (OpR.or op_add_str (OpR.or op_cat op_catT))) (fun F H M v w x y k Q R hv hw hg L => by
  cases hv with
  | int i =>
    cases hw with
    | int j => exact .inl ⟨i, j, rfl, rfl, L.now R hg (.int _)⟩
    | _ => exact hg.elim
  | str i =>
    cases hw with
    | str j => exact .inr (.inl ⟨i, j, rfl, rfl, hg.1, L.now R hg.2 (.str _)⟩)
    | _ => exact hg.elim
  | lst h0 h1 h2 =>
    cases hw with
    | lst g0 g1 g2 => exact .inr (.inr (.inl ⟨_, _, _, _, rfl, rfl, h1, g1, by rw [h2.length, g2.length]; exact hg.1, new_lst L R hg.2 (h2.append g2)⟩))
    | _ => exact hg.elim
  | tup h1 h2 =>
    cases hw with
    | tup g1 g2 =>
      refine .inr (.inr (.inr ⟨_, _, _, _, rfl, rfl, h1.sq, g1.sq, fun z => hg.1 ?_, by rw [h2.length, g2.length]; exact hg.2.1, fun z => ?_, fun _ => new_tup L R hg.2.2 (h2.append g2)⟩))
      · subst z
        cases h2
        rfl
      · subst z
        cases g2
        have q := hg.2.2
        rw [List.append_nil] at q
        exact L.now R q (.tup h1 h2)
    | _ => exact hg.elim
  | _ => exact hg.elim) ha hb
theorem opd_lt {K : PySem.W.Frag} : OpD K (fun x y H Q => rI0 (fun i j => .bl (decide (i < j))) x y H Q ∨ ∃ i j, x = .str i ∧ y = .str j ∧ Q (.bl (decide (i.cps.toList < j.cps.toList))) H) oLt := fun F H M v w x y k Q R hv hw hg L => by
  cases hv with
  | int i =>
    cases hw with
    | int j => exact .inl ⟨i, j, rfl, rfl, L.now R hg (.bl _)⟩
    | _ => exact hg.elim
  | str i =>
    cases hw with
    | str j => exact .inr ⟨i, j, rfl, rfl, L.now R hg (.bl _)⟩
    | _ => exact hg.elim
  | _ => exact hg.elim
theorem d_lt (ha : DE X E a fa) (hb : DE X E b fb) : DE X E (.Compare a [.Lt] [b] pos) (fOp oLt fa fb) := de_cmp (OpR.or op_lt op_lt_str) opd_lt ha hb (nomark _)
theorem t_lt (ha : DE X E a fa) (hb : DE X E b fb) : DT X E (.Compare a [.Lt] [b] pos) (fTest (fOp oLt fa fb)) := dt_cmp (OpR.or op_lt op_lt_str) opd_lt ha hb (nomark _)
end

/-! ### is None -/
def oIsN (neg : Bool) : F2 := fun x y M k => y = .non ∧ match x with
  | .non => k (.bl (!neg)) M
  | _ => k (.bl neg) M
section
variable {X : Cx} {E : XK} {pos : Pos} {a b : Expr} {fa fb : FE}
theorem d_isN (ha : DE X E a fa) (hb : DE X E b fb) : DE X E (.Compare a [.Is] [b] pos) (fOp (oIsN false) fa fb) := de_cmp op_isN (fun F H M v w x y k Q R hv hw hg L => by
  obtain ⟨rfl, hg⟩ := hg
  cases hw
  refine ⟨rfl, ?_⟩
  cases hv <;> exact L.now R hg (.bl _)) ha hb (nomark _)
theorem d_notN (ha : DE X E a fa) (hb : DE X E b fb) : DE X E (.Compare a [.IsNot] [b] pos) (fOp (oIsN true) fa fb) := de_cmp op_notN (fun F H M v w x y k Q R hv hw hg L => by
  obtain ⟨rfl, hg⟩ := hg
  cases hw
  refine ⟨rfl, ?_⟩
  cases hv <;> exact L.now R hg (.bl _)) ha hb (nomark _)
end

/-! ### data as the library's data: ==, repr -/
mutual
def toPy : D → PyData
  | .non => .none | .bl b => .bool b | .int i => .int i | .str x => .str x
  | .lst xs => .list (toPys xs) | .tup xs => .tuple (toPys xs) | .scr ns => .list (ns.map .int)
  | .dct _ => .none | .ty _ => .none | .ref _ => .none
def toPys : List D → List PyData
  | [] => []
  | x :: xs => toPy x :: toPys xs
end
mutual
/-- data without dicts -/
def plain : D → Bool
  | .non => true | .bl _ => true | .int _ => true | .str _ => true
  | .lst xs => plains xs | .tup xs => plains xs | .scr _ => true
  | .dct _ => false | .ty _ => false | .ref _ => false
def plains : List D → Bool
  | [] => true
  | x :: xs => plain x && plains xs
end
section
variable {X : Cx} {pins : List (Addr × Obj)} {σ : L2.St} {H : Hp} {s : Shared} {P : Addr → Prop}
theorem reads_ints {h : Heap} : ∀ (ns : List Int) (us : List Value), Vals (ns.map V.int) us → ∃ as, ReadsAll h us (ns.map PyData.int) as
  | [], _, r => by cases r; exact ⟨_, .nil⟩
  | n :: ns, _, r => by
    cases r with
    | cons r1 r2 =>
      obtain ⟨t, rfl⟩ := r1
      obtain ⟨as, q⟩ := reads_ints ns _ r2
      exact ⟨_, .cons (.int n t) q⟩
mutual
theorem IsV.reads (I : Inv X pins σ H s) : ∀ (d : D) (v : V) (u : Value), plain d = true → IsV X.K P H v d → RelV v u → ∃ as, Reads s.heap u (toPy d) as
  | .non, _, _, _, h, r => by cases h; cases r; exact ⟨_, .none⟩
  | .bl b, _, _, _, h, r => by cases h; cases r; exact ⟨_, .bool b⟩
  | .int i, _, _, _, h, r => by cases h; obtain ⟨t, rfl⟩ := r; exact ⟨_, .int i t⟩
  | .str x, _, _, _, h, r => by cases h; obtain ⟨t, rfl⟩ := r; exact ⟨_, .str x t⟩
  | .lst ds, _, _, hp, h, r => by
    cases h with
    | lst h0 h1 h2 =>
      cases r
      obtain ⟨its, rv, ⟨o, n, ho, hc, _, hd⟩, _⟩ := I.list (SqL.of h1)
      obtain ⟨as, q⟩ := IsVs.reads I ds _ its hp h2 rv
      exact ⟨_, .list ho hc hd q⟩
  | .scr ns, _, _, hp, h, r => by
    cases h with
    | scr h1 =>
      cases r
      obtain ⟨its, rv, ⟨o, n, ho, hc, _, hd⟩, _⟩ := I.list h1.sq
      obtain ⟨as, q⟩ := reads_ints ns _ rv
      exact ⟨_, .list ho hc hd q⟩
  | .tup ds, _, _, hp, h, r => by
    cases h with
    | tup h1 h2 =>
      cases r
      obtain ⟨its, rv, ⟨o, ho, hc, n, hd⟩, _⟩ := I.tuple h1.sq
      obtain ⟨as, q⟩ := IsVs.reads I ds _ its hp h2 rv
      exact ⟨_, .tuple ho hc hd q⟩
  | .dct _, _, _, hp, _, _ => absurd hp (by simp [plain])
  | .ty _, _, _, hp, _, _ => absurd hp (by simp [plain])
  | .ref _, _, _, hp, _, _ => absurd hp (by simp [plain])
theorem IsVs.reads (I : Inv X pins σ H s) : ∀ (ds : List D) (vs : List V) (us : List Value), plains ds = true → IsVs X.K P H vs ds → Vals vs us → ∃ as, ReadsAll s.heap us (toPys ds) as
  | [], _, _, _, h, r => by cases h; cases r; exact ⟨_, .nil⟩
  | d :: ds, _, _, hp, h, r => by
    have hp' := Bool.and_eq_true_iff.mp (show (plain d && plains ds) = true from hp)
    cases h with
    | cons h1 h2 =>
      cases r with
      | cons r1 r2 =>
        obtain ⟨as, q1⟩ := IsV.reads I d _ _ hp'.1 h1 r1
        obtain ⟨bs, q2⟩ := IsVs.reads I ds _ _ hp'.2 h2 r2
        exact ⟨_, .cons q1 q2⟩
end
end
def eqOk (d : D) : Bool := plain d && SeqAt.shaped (toPy d)
def eqD (x y : D) : Bool := PyData.eqv (toPy x) (toPy y)
def oEq : F2 := fun x y M k => eqOk x = true ∧ eqOk y = true ∧ k (.bl (eqD x y)) M
def oNe : F2 := fun x y M k => eqOk x = true ∧ eqOk y = true ∧ k (.bl (!eqD x y)) M
def rEqV (K : PySem.W.Frag) (neg : Bool) : R2 := fun v w H Q => ∃ P x y, IsV K P H v x ∧ IsV K P H w y ∧ eqOk x = true ∧ eqOk y = true ∧ Q (.bl (if neg then !eqD x y else eqD x y)) H
section
variable {X : Cx} {E : XK} {pos : Pos} {a b : Expr} {fa fb : FE}
theorem op_eqV (hu : X.A.units + 64 < cLine) : OpR X (compareOp .Eq) (rEqV X.K false) := by
  intro pins s σ H v w u t Q I rv rw' h
  obtain ⟨P, x, y, hx, hy, ox, oy, q⟩ := h
  obtain ⟨px, sx⟩ := Bool.and_eq_true_iff.mp ox
  obtain ⟨py, sy⟩ := Bool.and_eq_true_iff.mp oy
  obtain ⟨as, r1⟩ := IsV.reads I x v u px hx rv
  obtain ⟨bs, r2⟩ := IsV.reads I y w t py hy rw'
  exact SeqAt.compareEq_shaped r1 r2 sx sy hu ⟨.bl _, H, I, rfl, q⟩
theorem op_neV (hu : X.A.units + 64 < cLine) : OpR X (compareOp .NotEq) (rEqV X.K true) := by
  intro pins s σ H v w u t Q I rv rw' h
  obtain ⟨P, x, y, hx, hy, ox, oy, q⟩ := h
  obtain ⟨px, sx⟩ := Bool.and_eq_true_iff.mp ox
  obtain ⟨py, sy⟩ := Bool.and_eq_true_iff.mp oy
  obtain ⟨as, r1⟩ := IsV.reads I x v u px hx rv
  obtain ⟨bs, r2⟩ := IsV.reads I y w t py hy rw'
  exact SeqAt.compareNe_shaped r1 r2 sx sy hu ⟨.bl _, H, I, rfl, q⟩
theorem opd_eq {K : PySem.W.Frag} : OpD K (rEqV K false) oEq := fun F H M v w x y k Q R hv hw hg L => ⟨_, x, y, hv, hw, hg.1, hg.2.1, L.now R hg.2.2 (.bl _)⟩
theorem opd_ne {K : PySem.W.Frag} : OpD K (rEqV K true) oNe := fun F H M v w x y k Q R hv hw hg L => ⟨_, x, y, hv, hw, hg.1, hg.2.1, L.now R hg.2.2 (.bl _)⟩
theorem d_eq (hu : X.A.units + 64 < cLine) (ha : DE X E a fa) (hb : DE X E b fb) : DE X E (.Compare a [.Eq] [b] pos) (fOp oEq fa fb) := de_cmp (op_eqV hu) opd_eq ha hb (nomark _)
theorem d_ne (hu : X.A.units + 64 < cLine) (ha : DE X E a fa) (hb : DE X E b fb) : DE X E (.Compare a [.NotEq] [b] pos) (fOp oNe fa fb) := de_cmp (op_neV hu) opd_ne ha hb (nomark _)
theorem t_eq (hu : X.A.units + 64 < cLine) (ha : DE X E a fa) (hb : DE X E b fb) : DT X E (.Compare a [.Eq] [b] pos) (fTest (fOp oEq fa fb)) := dt_cmp (op_eqV hu) opd_eq ha hb (nomark _)
theorem t_ne (hu : X.A.units + 64 < cLine) (ha : DE X E a fa) (hb : DE X E b fb) : DT X E (.Compare a [.NotEq] [b] pos) (fTest (fOp oNe fa fb)) := dt_cmp (op_neV hu) opd_ne ha hb (nomark _)
end
/-- repr -/
def shownOk (d : D) : Prop := plain d = true ∧ (toPy d).showable = true ∧ (toPy d).hasDict = false ∧ (toPy d).depth ≤ 60 ∧ (toPy d).shown.length ≤ sizeLine
def gRepr : FN := fun ds M k => ∃ d, ds = [d] ∧ shownOk d ∧ k (.str (toPy d).shown) M
def rReprV (K : PySem.W.Frag) : List V → Hp → VK → Prop := fun vs H Q => ∃ P v d, vs = [v] ∧ IsV K P H v d ∧ shownOk d ∧ Q (.str (toPy d).shown) H
theorem shown_bool (b : Bool) : (PyData.bool b).shown = (if b = true then ("True" : Str) else ("False" : Str)) := by simp only [PyData.shown]
theorem cr_reprV {X : Cx} (hgd : X.A.guards = some []) (hu : X.A.units + 64 < cLine) : CallR X (.builtin "repr") (rReprV X.K) := by
  intro pins s σ H vs us Q I r h
  obtain ⟨P, v, d, rfl, hv, ⟨hp, hs, hd, hz, hsz⟩, q⟩ := h
  obtain ⟨u, rfl, ru⟩ := vals1 r
  obtain ⟨as, rd⟩ := IsV.reads I d v u hp hv ru
  have fin : ∀ (h' : Heap) (u' : Tok) (tk : Nat), (∀ b o, s.heap.get? b = some o → h'.get? b = some o) → EP X pins σ Q (.str (toPy d).shown u') { s with heap := h', toks := tk } := fun h' u' tk hk => ⟨.str _, H, I.kept hk, ⟨u', rfl⟩, q⟩
  have viaRef : ∀ a, u = .ref a → wpAny (model X.prog X.w) X.A (call (.builtin "repr") [u]) (EP X pins σ Q) X.xe s := fun a e => by
    subst e
    exact repr_of_reads' rd hs (PyData.noDict_hsm hd) hgd (by omega) (fun _ _ e => e) fin hsz
  cases hv with
  | non => cases ru; exact PySem.P.repr_of_none (fin s.heap _ _ fun _ _ e => e)
  | bl b =>
    cases ru
    have z := fin s.heap s.toks (s.toks + 1) fun _ _ e => e
    rw [show toPy (D.bl b) = PyData.bool b by simp only [toPy], shown_bool] at z
    exact PySem.P.repr_of_bool z
  | int i =>
    obtain ⟨t, rfl⟩ := ru
    refine PySem.P.repr_of_int ?_ (fin s.heap _ _ fun _ _ e => e)
    have z : (PyData.int i).showable = true := hs
    simpa [PyData.showable] using z
  | str x =>
    obtain ⟨t, rfl⟩ := ru
    exact PySem.P.repr_of_str (fin s.heap _ _ fun _ _ e => e) hsz
  | ty n => simp [plain] at hp
  | ref a => simp [plain] at hp
  | lst _ _ _ => exact viaRef _ ru
  | scr _ => exact viaRef _ ru
  | tup _ _ => exact viaRef _ ru
  | dct _ _ _ => simp [plain] at hp
theorem cd_repr {K : PySem.W.Frag} : CallD K (rReprV K) gRepr := fun F H M vs ds k Q R hv hg L => by
  obtain ⟨d, rfl, h1, h2⟩ := hg
  cases hv with
  | cons v1 v2 =>
    cases v2
    exact ⟨_, _, d, rfl, v1, h1, L.now R h2 (.str _)⟩

/-! ### types -/
def typeD : D → Option String
  | .non => some "NoneType" | .bl _ => some "bool" | .int _ => some "int" | .str _ => some "str"
  | .lst _ => some "list" | .scr _ => some "list" | .tup _ => some "tuple" | .dct _ => some "dict" | .ty _ => none | .ref _ => none
def isT (n : String) (d : D) : Bool := (typeD d).elim false fun a => kitB a n == some true
def isTok (n : String) (d : D) : Bool := (typeD d).elim false fun a => (kitB a n).isSome
def gIsi : FN := fun ds M k => ∃ d n, ds = [d, .ty n] ∧ isTok n d = true ∧ k (.bl (isT n d)) M
theorem tyX_of {K : PySem.W.Frag} {P : Addr → Prop} {H : Hp} {v : V} {d : D} {a : String} (h : IsV K P H v d) (e : typeD d = some a) : TyX K H v (.type a) := by
  cases h with
  | non => cases e; exact .base .non
  | bl b => cases e; exact .base (.bl b)
  | int i => cases e; exact .base (.int i)
  | str x => cases e; exact .base (.str x)
  | ty n => cases e
  | ref a => cases e
  | lst _ h1 _ => cases e; exact .base (.lst h1)
  | scr h1 =>
    cases e
    rcases h1 with ⟨_, h1 | ⟨o, h1⟩⟩ | h1
    · exact .base (.lst h1)
    · exact .base (.frz h1)
    · rcases h1 with (h1 | ⟨o, h1⟩) | ⟨o, its, n, h1, h2, _⟩
      · cases h1
      · cases h1
      · exact .kList h1 h2
  | tup h1 _ =>
    cases e
    rcases h1 with ⟨_, h1 | ⟨o, h1⟩⟩ | h1
    · exact .base (.tup h1)
    · exact .fTuple h1
    · rcases h1 with (h1 | ⟨o, h1⟩) | ⟨o, its, n, h1, h2, _⟩
      · cases h1
      · cases h1
      · exact .kTuple h1 h2
  | dct _ h1 _ =>
    cases e
    rcases h1 with h1 | ⟨o, h1⟩
    · exact .base (.dK h1)
    · exact .fDict h1
theorem cd_isi {K : PySem.W.Frag} : CallD K (rIsi K) gIsi := fun F H M vs ds k Q R hv hg L => by
  obtain ⟨d, n, rfl, h1, h2⟩ := hg
  cases hv with
  | cons v1 v2 =>
    cases v2 with
    | cons v2 v3 =>
      cases v3
      cases v2
      unfold isTok at h1
      cases e : typeD d with
      | none => rw [e] at h1; cases h1
      | some a =>
        rw [e] at h1
        obtain ⟨b, hb⟩ := Option.isSome_iff_exists.mp (show (kitB a n).isSome = true from h1)
        have eb : isT n d = b := by
          unfold isT
          rw [e]
          show (kitB a n == some true) = b
          rw [hb]
          cases b <;> rfl
        rw [eb] at h2
        exact ⟨_, _, .type a, .type n, b, rfl, .ty n, tyX_of v1 e, kit_ty hb, L.now R h2 (.bl b)⟩

/-! ### len, items, slices -/
def gLen : FN := fun ds M k => match ds with
  | [.str s] => s.length ≤ sizeLine ∧ k (.int s.length) M
  | [.lst xs] => k (.int xs.length) M
  | [.tup xs] => k (.int xs.length) M
  | [.scr ns] => k (.int ns.length) M
  | _ => False
theorem cd_len {K : PySem.W.Frag} : CallD K (fun xs H Q => ∃ x n, xs = [x] ∧ LenV K x H n ∧ Q (.int n) H) gLen := fun F H M vs ds k Q R hv hg L => by
  cases hv with
  | nil => exact hg.elim
  | cons v1 v2 =>
    cases v2 with
    | cons _ _ => cases v1 <;> exact hg.elim
    | nil =>
      cases v1 with
      | str s => exact ⟨_, _, rfl, ⟨hg.1, rfl⟩, L.now R hg.2 (.int _)⟩
      | lst h0 h1 h2 => exact ⟨_, _, rfl, .inl ⟨_, SqL.of h1, rfl⟩, by rw [h2.length]; exact L.now R hg (.int _)⟩
      | scr h1 => exact ⟨_, _, rfl, .inl ⟨_, h1.sq, rfl⟩, by rw [List.length_map]; exact L.now R hg (.int _)⟩
      | tup h1 h2 => exact ⟨_, _, rfl, .inr ⟨_, h1.sq, rfl⟩, by rw [h2.length]; exact L.now R hg (.int _)⟩
      | _ => exact hg.elim
theorem IsVs.atI {K : PySem.W.Frag} {P : Addr → Prop} {H : Hp} {vs : List V} {ds : List D} {i : Int} {d : D} (h : IsVs K P H vs ds) (e : L2.atI ds i = some d) : ∃ v, L2.atI vs i = some v ∧ IsV K P H v d := by
  unfold L2.atI at e ⊢
  rw [h.length]
  cases q : ixN ds.length i with
  | none => rw [q] at e; cases e
  | some j =>
    rw [q] at e
    exact h.get e
/-- x[i]: lists, tuples, texts, what draws -/
def oIx : F2 := fun x y M k => match x, y with
  | .lst ds, .int i => ∃ d, L2.atI ds i = some d ∧ k d M
  | .tup ds, .int i => ∃ d, L2.atI ds i = some d ∧ k d M
  | .scr ns, .int i => ∃ n, L2.atI ns i = some n ∧ k (.int n) M
  | .str s, .int i => s.length ≤ sizeLine ∧ ∃ c, L2.atI s.cps.toList i = some c ∧ k (.str ⟨#[c]⟩) M
  | .ref p, .int i => ∃ ns n, M p = some (.pen ns n) ∧ ((i = 0 ∧ k (.lst (ns.map .int)) M) ∨ (i = 1 ∧ ∀ t : Int, 0 ≤ t → t ≤ (n : Int) → k (.int t) M) ∨ (i = 2 ∧ ∀ r : Int, 0 ≤ r → k (.int r) M))
  | _, _ => False
theorem atI_map {α β : Type} (f : α → β) (xs : List α) (i : Int) : L2.atI (xs.map f) i = (L2.atI xs i).map f := by
  unfold L2.atI
  rw [List.length_map]
  cases ixN xs.length i with
  | none => rfl
  | some j =>
    show (xs.map f)[j]? = (xs[j]?).map f
    rw [List.getElem?_map]
section
variable {X : Cx} {E : XK} {pos p2 : Pos} {a b : Expr} {fa fb : FE}
theorem d_ix (ha : DE X E a fa) (hb : DE X E b fb) (hs : PlainIx b := by exact fun _ _ => rfl) : DE X E (.Subscript a b pos) (fOp oIx fa fb) := de_ix ix_seq (fun F H M v w x y k Q R hv hw hg L => by
  cases hv with
  | lst h0 h1 h2 =>
    cases hw with
    | int i =>
      obtain ⟨d, e, h⟩ := hg
      obtain ⟨v, e1, hd⟩ := h2.atI e
      exact .inl ⟨_, _, i, v, rfl, rfl, SqL.of h1, e1, L.now R h hd⟩
    | _ => exact hg.elim
  | tup h1 h2 =>
    cases hw with
    | int i =>
      obtain ⟨d, e, h⟩ := hg
      obtain ⟨v, e1, hd⟩ := h2.atI e
      exact .inr (.inl ⟨_, _, i, v, rfl, rfl, h1.sq, e1, L.now R h hd⟩)
    | _ => exact hg.elim
  | scr h1 =>
    cases hw with
    | int i =>
      obtain ⟨d, e, h⟩ := hg
      exact .inl ⟨_, _, i, .int d, rfl, rfl, h1.sq, by rw [atI_map, e]; rfl, L.now R h (.int _)⟩
    | _ => exact hg.elim
  | str s =>
    cases hw with
    | int i =>
      obtain ⟨hl, c, e, h⟩ := hg
      exact .inr (.inr ⟨s, i, c, rfl, rfl, hl, e, L.now R h (.str _)⟩)
    | _ => exact hg.elim
  | ref p =>
    cases hw with
    | int i =>
      obtain ⟨ns, n, hp, hg⟩ := hg
      obtain ⟨q, t, r, e1, n1, e2, t0, t1, r0⟩ : PenOk (dm F M) H p ns n := R.cel p _ hp
      rcases hg with ⟨rfl, h⟩ | ⟨rfl, h⟩ | ⟨rfl, h⟩
      · exact .inl ⟨p, _, 0, _, rfl, rfl, SqL.of e1, rfl, L.now R h (.lst n1 e2 (IsVs.ints ns))⟩
      · exact .inl ⟨p, _, 1, _, rfl, rfl, SqL.of e1, rfl, L.now R (h t t0 t1) (.int t)⟩
      · exact .inl ⟨p, _, 2, _, rfl, rfl, SqL.of e1, rfl, L.now R (h r r0) (.int r)⟩
    | _ => exact hg.elim
  | _ => exact hg.elim) ha hb hs
end
/-- cut, of any list -/
def cutD {α : Type} (xs : List α) (lo hi : Option Int) : List α := (xs.drop (HT.sIx xs.length 0 lo)).take (HT.sIx xs.length xs.length hi - HT.sIx xs.length 0 lo)
theorem IsVs.cut {K : PySem.W.Frag} {P : Addr → Prop} {H : Hp} {vs : List V} {ds : List D} {lo hi : Option Int} (h : IsVs K P H vs ds) : IsVs K P H (cutV vs lo hi) (cutD ds lo hi) := by
  unfold cutV cutD
  rw [h.length]
  exact (h.drop _).take _
/-- x[lo:hi]: lists, texts, tuples -/
def sCut (x : D) (lo hi : Option Int) (M : MS) (k : KD) : Prop := match x with
  | .lst ds => k (.lst (cutD ds lo hi)) M
  | .scr ns => k (.lst ((cutD ns lo hi).map .int)) M
  | .tup ds => ¬ (HT.sIx ds.length 0 lo = 0 ∧ HT.sIx ds.length ds.length hi = ds.length) ∧ k (.tup (cutD ds lo hi)) M
  | .str z => z.length ≤ sizeLine ∧ k (.str (cutS z lo hi)) M
  | _ => False
theorem cutV_ints (ns : List Int) (lo hi : Option Int) : cutV (ns.map V.int) lo hi = (cutD ns lo hi).map V.int := by
  unfold cutV cutD
  rw [List.length_map, ← List.map_drop, ← List.map_take]
theorem d_sl {X : Cx} {E : XK} {pos p2 : Pos} {e : Expr} {f : FE} {lo hi : Option Expr} {fl fh : FO} (he : DE X E e f) (hl : DO X E lo fl) (hu : DO X E hi fh) : DE X E (.Subscript e (.Slice lo hi none p2) pos) (fSl sCut f fl fh) := de_slice (SlR.or sl_list (SlR.or sl_str sl_tup)) (fun F H M v x lo hi k Q R hv hg L => by
  cases hv with
  | lst h0 h1 h2 => exact .inl ⟨_, _, rfl, SqL.of h1, new_lst L R hg h2.cut⟩
  | scr h1 => exact .inl ⟨_, _, rfl, h1.sq, new_lst L R hg (by rw [cutV_ints]; exact IsVs.ints _)⟩
  | str z => exact .inr (.inl ⟨z, rfl, hg.1, L.now R hg.2 (.str _)⟩)
  | tup h1 h2 => exact .inr (.inr ⟨_, _, rfl, h1.sq, by rw [h2.length]; exact hg.1, new_tup L R hg.2 h2.cut⟩)
  | _ => exact hg.elim) he hl hu

/-! ### texts, lists -/
def flatD : D → Bool
  | .non => true | .bl _ => true | .int _ => true | .str _ => true
  | _ => false
def flV : D → V
  | .non => .non | .bl b => .bl b | .int i => .int i | .str x => .str x
  | _ => .non
def inD (x : D) (xs : List D) : Bool := inV (flV x) (xs.map flV)
theorem flat_v {K : PySem.W.Frag} {P : Addr → Prop} {H : Hp} {v : V} {d : D} (h : IsV K P H v d) (hf : flatD d = true) : v = flV d ∧ flatV v = true := by
  cases h <;> first | exact ⟨rfl, rfl⟩ | cases hf
theorem flat_vs {K : PySem.W.Frag} {P : Addr → Prop} {H : Hp} : ∀ {vs : List V} {ds : List D}, IsVs K P H vs ds → ds.all flatD = true → vs = ds.map flV ∧ vs.all flatV = true
  | _, _, .nil, _ => ⟨rfl, rfl⟩
  | _, _, .cons h t, hf => by
    rw [List.all_cons, Bool.and_eq_true] at hf
    obtain ⟨e, f⟩ := flat_v h hf.1
    obtain ⟨e2, f2⟩ := flat_vs t hf.2
    refine ⟨by rw [e, e2]; rfl, ?_⟩
    rw [List.all_cons, f, f2]
    rfl
/-- x in y: a sign in a text, a flat value in a list or tuple of flat ones -/
def oIn (neg : Bool) : F2 := fun x y M k => match y with
  | .lst ds => flatD x = true ∧ ds.all flatD = true ∧ k (.bl (if neg then !inD x ds else inD x ds)) M
  | .tup ds => flatD x = true ∧ ds.all flatD = true ∧ k (.bl (if neg then !inD x ds else inD x ds)) M
  | .str z => ∃ c : Nat, x = .str ⟨#[c]⟩ ∧ k (.bl (if neg then !decide (c ∈ z.cps.toList) else decide (c ∈ z.cps.toList))) M
  | _ => False
theorem opd_in {K : PySem.W.Frag} {neg : Bool} {r : R2} (hr : ∀ (c : Nat) (z : Str) (H : Hp) (Q : VK), Q (.bl (if neg then !decide (c ∈ z.cps.toList) else decide (c ∈ z.cps.toList))) H → r (.str ⟨#[c]⟩) (.str z) H Q) : OpD K (fun x y H Q => rIn K neg x y H Q ∨ r x y H Q) (oIn neg) := fun F H M v w x y k Q R hv hw hg L => by
  cases hw with
  | lst h0 h1 h2 =>
    obtain ⟨ex, gx⟩ := flat_v hv hg.1
    obtain ⟨es, gs⟩ := flat_vs h2 hg.2.1
    refine .inl ⟨_, _, rfl, .inl (SqL.of h1), gx, gs, ?_⟩
    rw [ex, es]
    exact L.now R hg.2.2 (.bl _)
  | tup h1 h2 =>
    obtain ⟨ex, gx⟩ := flat_v hv hg.1
    obtain ⟨es, gs⟩ := flat_vs h2 hg.2.1
    refine .inl ⟨_, _, rfl, .inr h1.sq, gx, gs, ?_⟩
    rw [ex, es]
    exact L.now R hg.2.2 (.bl _)
  | str z =>
    obtain ⟨c, rfl, h⟩ := hg
    cases hv
    exact .inr (hr c z H Q (L.now R h (.bl _)))
  | _ => exact hg.elim
section
variable {X : Cx} {E : XK} {pos : Pos} {a b : Expr} {fa fb : FE}
theorem d_in (ha : DE X E a fa) (hb : DE X E b fb) (hm : behindInMarks .In b = false := by rfl) : DE X E (.Compare a [.In] [b] pos) (fOp (oIn false) fa fb) := de_cmp (OpR.or op_in_seq op_in_sign) (opd_in fun c z H Q h => ⟨c, z, rfl, rfl, h⟩) ha hb hm
theorem d_nin (ha : DE X E a fa) (hb : DE X E b fb) (hm : behindInMarks .NotIn b = false := by rfl) : DE X E (.Compare a [.NotIn] [b] pos) (fOp (oIn true) fa fb) := de_cmp (OpR.or op_notIn_seq op_notIn_sign) (opd_in fun c z H Q h => ⟨c, z, rfl, rfl, h⟩) ha hb hm
theorem t_in (ha : DE X E a fa) (hb : DE X E b fb) (hm : behindInMarks .In b = false := by rfl) : DT X E (.Compare a [.In] [b] pos) (fTest (fOp (oIn false) fa fb)) := dt_cmp (OpR.or op_in_seq op_in_sign) (opd_in fun c z H Q h => ⟨c, z, rfl, rfl, h⟩) ha hb hm
theorem t_nin (ha : DE X E a fa) (hb : DE X E b fb) (hm : behindInMarks .NotIn b = false := by rfl) : DT X E (.Compare a [.NotIn] [b] pos) (fTest (fOp (oIn true) fa fb)) := dt_cmp (OpR.or op_notIn_seq op_notIn_sign) (opd_in fun c z H Q h => ⟨c, z, rfl, rfl, h⟩) ha hb hm
end

/-! ### calls -/
def gAbs : FN := fun ds M k => match ds with
  | [.int i] => k (.int (if i < 0 then -i else i)) M
  | _ => False
def gInt : FN := fun ds M k => match ds with
  | [.int i] => k (.int i) M
  | [.bl b] => k (.int (if b then 1 else 0)) M
  | _ => False
def gAll : FN := fun ds M k => ∃ bs : List Bool, ds = [.lst (bs.map .bl)] ∧ k (.bl (bs.all id)) M
def gList : FN := fun ds M k => match ds with
  | [.lst xs] => k (.lst xs) M
  | [.tup xs] => k (.lst xs) M
  | [.scr ns] => k (.lst (ns.map .int)) M
  | [.str z] => z.length ≤ sizeLine ∧ k (.lst (z.cps.toList.map fun c => .str ⟨#[c]⟩)) M
  | _ => False
def gTuple : FN := fun ds M k => match ds with
  | [.lst xs] => k (.tup xs) M
  | [.tup xs] => k (.tup xs) M
  | _ => False
theorem cd_abs {K : PySem.W.Frag} : CallD K (fun xs H Q => ∃ i, xs = [.int i] ∧ Q (.int (if i < 0 then -i else i)) H) gAbs := fun F H M vs ds k Q R hv hg L => by
  cases hv with
  | nil => exact hg.elim
  | cons v1 v2 =>
    cases v2 with
    | cons _ _ => cases v1 <;> exact hg.elim
    | nil =>
      cases v1 with
      | int i => exact ⟨i, rfl, L.now R hg (.int _)⟩
      | _ => exact hg.elim
theorem cd_int {K : PySem.W.Frag} : CallD K (fun xs H Q => (∃ i, xs = [.int i] ∧ Q (.int i) H) ∨ ∃ k, xs = [.bl k] ∧ Q (.int (if k then 1 else 0)) H) gInt := fun F H M vs ds k Q R hv hg L => by
  cases hv with
  | nil => exact hg.elim
  | cons v1 v2 =>
    cases v2 with
    | cons _ _ => cases v1 <;> exact hg.elim
    | nil =>
      cases v1 with
      | int i => exact .inl ⟨i, rfl, L.now R hg (.int _)⟩
      | bl i => exact .inr ⟨i, rfl, L.now R hg (.int _)⟩
      | _ => exact hg.elim
theorem cd_all {K : PySem.W.Frag} : CallD K (rAll K) gAll := fun F H M vs ds k Q R hv hg L => by
  obtain ⟨bs, rfl, h⟩ := hg
  cases hv with
  | cons v1 v2 =>
    cases v2
    cases v1 with
    | lst h0 h1 h2 =>
      have e := h2.of_bls
      exact ⟨_, bs, rfl, SqL.of (by rw [← e]; exact h1), L.now R h (.bl _)⟩
theorem cd_tuple {K : PySem.W.Frag} : CallD K (fun xs H Q => ∃ p ys, xs = [.ref p] ∧ ((SqL K H p ys ∧ ∀ l, H l = none → Q (.ref l) (upd H l (.tup ys))) ∨ (SqT K H p ys ∧ Q (.ref p) H))) gTuple := fun F H M vs ds k Q R hv hg L => by
  cases hv with
  | nil => exact hg.elim
  | cons v1 v2 =>
    cases v2 with
    | cons _ _ => cases v1 <;> exact hg.elim
    | nil =>
      cases v1 with
      | lst h0 h1 h2 => exact ⟨_, _, rfl, .inl ⟨SqL.of h1, new_tup L R hg h2⟩⟩
      | tup h1 h2 => exact ⟨_, _, rfl, .inr ⟨h1.sq, L.now R hg (.tup h1 h2)⟩⟩
      | _ => exact hg.elim
/-- list(text) -/
theorem call_listS {X : Cx} (hc : X.calm = true) : CallR X (.type "list") (fun xs H Q => ∃ z : Str, xs = [.str z] ∧ z.length ≤ sizeLine ∧ ∀ l, H l = none → Q (.ref l) (upd H l (.lst (z.cps.toList.map fun c => V.str ⟨#[c]⟩)))) := by
  intro pins s σ H vs us Q I r h
  obtain ⟨z, rfl, hz, q⟩ := h
  obtain ⟨u, rfl, t, rfl⟩ := vals1 r
  refine PySem.call_list_str (I.ok.hd hc) z t (fun h' tk acc c hk hl hi => ?_) hz
  have rv : Vals (z.cps.toList.map fun c => V.str ⟨#[c]⟩) acc.toList := by
    obtain ⟨hs, hg⟩ := hi
    suffices hh : ∀ (xs : List V) (us : List Value), xs.length = us.length → (∀ i x u, xs[i]? = some x → us[i]? = some u → RelV x u) → Vals xs us by
      refine hh _ _ (by rw [List.length_map, Array.length_toList, Array.length_toList, hs]) fun i x u e1 e2 => ?_
      rw [List.getElem?_map, Array.getElem?_toList] at e1
      rw [Array.getElem?_toList] at e2
      obtain ⟨c, t', ec, eu⟩ := hg i u e2
      rw [ec] at e1
      cases e1
      exact ⟨t', eu⟩
    intro xs
    induction xs with
    | nil =>
      intro us e _
      cases us with
      | nil => exact .nil
      | cons _ _ => cases e
    | cons x xs ih =>
      intro us e h
      cases us with
      | nil => cases e
      | cons u us => exact .cons (h 0 x u rfl rfl) (ih us (Nat.succ.inj e) fun i a b e1 e2 => h (i + 1) a b (by rw [List.getElem?_cons_succ]; exact e1) (by rw [List.getElem?_cons_succ]; exact e2))
  have hlen : (z.cps.toList.map fun c => V.str ⟨#[c]⟩).length ≤ sizeLine := by
    rw [List.length_map, Array.length_toList]
    exact hz
  exact ⟨.ref s.heap.objs.size, upd H s.heap.objs.size (.lst (z.cps.toList.map fun c => V.str ⟨#[c]⟩)), I.laid (o := .lst (z.cps.toList.map fun c => V.str ⟨#[c]⟩)) hk (Nat.le_refl _) ⟨hlen, acc.toList, c, rv, hl⟩, rfl, q _ (I.hok.fresh (Nat.le_refl _))⟩
theorem IsVs.signs {K : PySem.W.Frag} {P : Addr → Prop} {H : Hp} : ∀ l : List Nat, IsVs K P H (l.map fun c => V.str ⟨#[c]⟩) (l.map fun c => D.str ⟨#[c]⟩)
  | [] => .nil
  | c :: l => .cons (.str _) (IsVs.signs l)
theorem cd_list {K : PySem.W.Frag} : CallD K (fun xs H Q => (∃ p ys, xs = [.ref p] ∧ (SqL K H p ys ∨ SqT K H p ys) ∧ ∀ l, H l = none → Q (.ref l) (upd H l (.lst ys))) ∨
    ∃ z : Str, xs = [.str z] ∧ z.length ≤ sizeLine ∧ ∀ l, H l = none → Q (.ref l) (upd H l (.lst (z.cps.toList.map fun c => V.str ⟨#[c]⟩)))) gList := fun F H M vs ds k Q R hv hg L => by
  cases hv with
  | nil => exact hg.elim
  | cons v1 v2 =>
    cases v2 with
    | cons _ _ => cases v1 <;> exact hg.elim
    | nil =>
      cases v1 with
      | lst h0 h1 h2 => exact .inl ⟨_, _, rfl, .inl (SqL.of h1), new_lst L R hg h2⟩
      | scr h1 => exact .inl ⟨_, _, rfl, .inl h1.sq, new_lst L R hg (IsVs.ints _)⟩
      | tup h1 h2 => exact .inl ⟨_, _, rfl, .inr h1.sq, new_lst L R hg h2⟩
      | str z => exact .inr ⟨z, rfl, hg.1, new_lst L R hg.2 (IsVs.signs _)⟩
      | _ => exact hg.elim
/-- sep.join(xs) -/
def gJoin (f g : FE) : FE := fun Γ M k kx => f Γ M (fun x M1 => ∃ a, x = .str a ∧ g Γ M1 (fun y M2 => ∃ ys : List Str, (y = .lst (ys.map .str) ∨ y = .tup (ys.map .str)) ∧ (ys.map (·.length)).sum + ys.length * a.length ≤ 16777216 ∧ k (.str (Txt.join a ys)) M2) kx) kx
theorem d_join {X : Cx} {E : XK} {o e : Expr} {f g : FE} {apos pos : Pos} (ho : DE X E o f) (he : DE X E e g) (hs : starEach [e] X.env = [(false, eval e X.env)] := by rfl) (hbase : attributeBase o "join" X.env (eval o X.env) = eval o X.env := by rfl) (hline : (apos.endLine == pos.line) = true := by rfl) :
    DE X E (.Call (.Attribute o "join" apos) [e] [] pos) (gJoin f g) := pe_w (pe_join ho he hs hbase hline) fun σ H Q hh => by
  obtain ⟨F, Γ, M, k, kx, R, q, LX, L⟩ := hh
  refine ⟨F, Γ, M, _, kx, R, q, LX, fun x M1 v H1 hx g1 R1 i1 => ?_⟩
  obtain ⟨a, rfl, hx⟩ := hx
  cases i1
  refine ⟨⟨a, rfl⟩, F, Γ, M1, _, kx, R.go g1 R1, hx, LX.go g1, fun y M2 w H2 hy g2 R2 i2 => ?_⟩
  obtain ⟨ys, ey, hz, h⟩ := hy
  rcases ey with rfl | rfl
  · cases i2 with
    | lst h0 h1 h2 => exact ⟨a, _, ys, rfl, rfl, .inl (SqL.of (by rw [← h2.of_strs]; exact h1)), hz, L _ _ _ _ h (g1.trans g2) R2 (.str _)⟩
  · cases i2 with
    | tup h1 h2 => exact ⟨a, _, ys, rfl, rfl, .inr (by rw [← h2.of_strs]; exact h1.sq), hz, L _ _ _ _ h (g1.trans g2) R2 (.str _)⟩

section
variable {X : Cx} {E : XK} {e : Expr} {es : List Expr} {g : FA} {p pos : Pos}
theorem c_len (hg : Gl X "len") (hm : X.mg "len" = none) (ha : DA X E [e] g) (he : starEach [e] X.env = (false, eval e X.env) :: starEach [] X.env := by rfl) : DE X E (.Call (.Name "len" p) [e] [] pos) (fCB gLen g) := de_callB call_len cd_len hg hm PySem.boot_len ha (by decide) (by decide) he
theorem c_abs (hg : Gl X "abs") (hm : X.mg "abs" = none) (ha : DA X E [e] g) (he : starEach [e] X.env = (false, eval e X.env) :: starEach [] X.env := by rfl) : DE X E (.Call (.Name "abs" p) [e] [] pos) (fCB gAbs g) := de_callB call_abs cd_abs hg hm (by decide +kernel) ha (by decide) (by decide) he
theorem c_int (hg : Gl X "int") (hm : X.mg "int" = none) (ha : DA X E [e] g) (he : starEach [e] X.env = (false, eval e X.env) :: starEach [] X.env := by rfl) : DE X E (.Call (.Name "int" p) [e] [] pos) (fCB gInt g) := de_callTy call_int1 cd_int hg hm (by decide +kernel) ha (by decide) (by decide) he
theorem c_all (hc : X.calm = true) (hg : Gl X "all") (hm : X.mg "all" = none) (ha : DA X E [e] g) (he : starEach [e] X.env = (false, eval e X.env) :: starEach [] X.env := by rfl) : DE X E (.Call (.Name "all" p) [e] [] pos) (fCB gAll g) := de_callB (cr_all hc) cd_all hg hm (by decide +kernel) ha (by decide) (by decide) he
theorem c_list (hc : X.calm = true) (hg : Gl X "list") (hm : X.mg "list" = none) (ha : DA X E [e] g) (he : starEach [e] X.env = (false, eval e X.env) :: starEach [] X.env := by rfl) : DE X E (.Call (.Name "list" p) [e] [] pos) (fCB gList g) := de_callTy (CallR.or call_list_of (call_listS hc)) cd_list hg hm (by decide +kernel) ha (by decide) (by decide) he
theorem c_tuple (hg : Gl X "tuple") (hm : X.mg "tuple" = none) (ha : DA X E [e] g) (he : starEach [e] X.env = (false, eval e X.env) :: starEach [] X.env := by rfl) : DE X E (.Call (.Name "tuple" p) [e] [] pos) (fCB gTuple g) := de_callTy call_tuple_of cd_tuple hg hm (by decide +kernel) ha (by decide) (by decide) he
theorem c_repr (hgd : X.A.guards = some []) (hu : X.A.units + 64 < cLine) (hg : Gl X "repr") (hm : X.mg "repr" = none) (ha : DA X E [e] g) (he : starEach [e] X.env = (false, eval e X.env) :: starEach [] X.env := by rfl) : DE X E (.Call (.Name "repr" p) [e] [] pos) (fCB gRepr g) := de_callB (cr_reprV hgd hu) cd_repr hg hm (by decide +kernel) ha (by decide) (by decide) he
theorem c_isi {e2 : Expr} (hg : Gl X "isinstance") (hm : X.mg "isinstance" = none) (ha : DA X E [e, e2] g) (he : starEach [e, e2] X.env = (false, eval e X.env) :: starEach [e2] X.env := by rfl) (hpl : (backTo pos (starEach [e2] X.env)).any (·.1) = false := by rfl) : DE X E (.Call (.Name "isinstance" p) [e, e2] [] pos) (fCB gIsi g) := de_callB call_isi cd_isi hg hm (by decide +kernel) ha (by decide) (by decide) he hpl
end

/-! ### what draws: made, changed -/
def fPen (g : FA) : FE := fun Γ M k kx => g Γ M (fun ds M1 => ∃ ns : List Int, ds = [.lst (ns.map .int), .int 0, .int 0] ∧ ∀ p, M1 p = none → k (.ref p) (upM M1 p (.pen ns 0))) kx
theorem de_pen {X : Cx} {E : XK} {pos : Pos} {es : List Expr} {g : FA} (h : DA X E es g) : DE X E (.List es pos) (fPen g) := pe_w (pe_lst h) fun σ H Q hh => by
  obtain ⟨F, Γ, M, k, kx, R, q, LX, L⟩ := hh
  refine ⟨F, Γ, M, _, kx, R, q, LX, fun ds M1 vs H1 hx g1 R1 i1 => ?_⟩
  obtain ⟨ns, rfl, hx⟩ := hx
  cases i1 with
  | cons v1 i1 =>
    cases i1 with
    | cons v2 i1 =>
      cases i1 with
      | cons v3 i1 =>
        cases i1
        cases v2
        cases v3
        cases v1 with
        | lst n1 e1 h2 =>
          have ev := h2.of_ints
          refine ⟨by show 3 ≤ sizeLine; decide, fun p hp => ?_⟩
          have ne : ∀ {a : Addr} {o : HO}, H1 a = some o → a ≠ p := fun e z => by rw [z, hp] at e; cases e
          refine L (.ref p) (upM M1 p (.pen ns 0)) _ _ (hx p (R1.freshM hp)) (g1.trans (Go.newM R1 hp)) (R1.newM hp ⟨_, 0, 0, upd_same, fun z => ?_, ?_, by omega, by omega, by omega⟩) (.ref p)
          · rcases z with z | z
            · exact n1 (.inl z)
            · rw [upM_ne (ne e1)] at z
              exact n1 (.inr z)
          · rw [upd_ne (ne e1), ← ev]
            exact e1
/-- pen[i] = x -/
def setP (o i x : D) (M : MS) (k : MS → Prop) : Prop := ∃ p ns n n', o = .ref p ∧ M p = some (.pen ns n) ∧ n ≤ n' ∧
  ((i = .int 1 ∧ ∃ t : Int, x = .int t ∧ 0 ≤ t ∧ t ≤ (n' : Int) ∧ k (upM M p (.pen ns n'))) ∨ (i = .int 2 ∧ ∃ r : Int, x = .int r ∧ 0 ≤ r ∧ k (upM M p (.pen ns n'))))
def fPenSet (fe fo fi : FE) : FS := fun N Γ M => fe Γ M (fun x M1 => fo Γ M1 (fun o M2 => fi Γ M2 (fun i M3 => setP o i x M3 fun M4 => N.nx Γ M4) N.ex) N.ex) N.ex
theorem ds_penSet {X : Cx} {E : XK} {o i e : Expr} {fe fo fi : FE} {pos spos : Pos} (he : DE X E e fe) (ho : DE X E o fo) (hi : DE X E i fi)
    (ha : ∀ v, assign (.Subscript o i spos) X.env v = (do
      let ov ← holding [v] (eval o X.env)
      let iv ← holding [v, ov] (eval i X.env)
      standAt spos
      holding [v, ov, iv] (setItem ov iv v)
      release [v, ov, iv] []) := by intro _; rfl)
    (hs : swapsWithSole [.Subscript o i spos] e pos.line X.env = pure false := by rfl) (hw : swappedStores [.Subscript o i spos] e X.env = pure none := by rfl)
    (h1 : (assignEach [.Subscript o i spos] X.env).map (·.2) = [assign (.Subscript o i spos) X.env] := by rfl) : DS X E (.Assign [.Subscript o i spos] e pos) (fPenSet fe fo fi) :=
  ps_w (ps_asg he (pg_sub ho hi set_list ha) hs hw h1) fun D σ H ⟨F, Γ, M, N, R, q, L⟩ => by
    refine ⟨F, Γ, M, _, N.ex, R, q, L.ex, fun x M1 v H1 hx g1 R1 i1 => ?_⟩
    refine ⟨F, Γ, M1, _, N.ex, R.go g1 R1, hx, L.ex.go g1, fun o M2 w H2 ho g2 R2 i2 => ?_⟩
    refine ⟨F, Γ, M2, _, N.ex, R.go (g1.trans g2) R2, ho, L.ex.go (g1.trans g2), fun i M3 u H3 hi g3 R3 i3 => ?_⟩
    obtain ⟨p, ns, n, n', rfl, hp, hn, hi⟩ := hi
    cases i2
    have G := (g1.trans g2).trans g3
    obtain ⟨q', t, r, e1, n1, e2, t0, t1, r0⟩ : PenOk (dm F M3) H3 p ns n := R3.cel p _ hp
    have hpn : M3 p ≠ none := by rw [hp]; exact nofun
    have ne : q' ≠ p := fun z => n1 (.inr (by rw [z]; exact hpn))
    have fin : ∀ (t' r' : Int), 0 ≤ t' → t' ≤ (n' : Int) → 0 ≤ r' → N.nx Γ (upM M3 p (.pen ns n')) → D.nx σ (upd H3 p (.lst [.ref q', .int t', .int r'])) := fun t' r' a0 a1 b0 hk => by
      have g4 : Go H3 M3 (upd H3 p (.lst [.ref q', .int t', .int r'])) (upM M3 p (.pen ns n')) := Go.chg hpn
      refine L.nx _ _ _ _ hk (G.trans g4) (R.go (G.trans g4) (R3.chg hpn ⟨q', t', r', upd_same, fun z => ?_, ?_, a0, a1, b0⟩))
      · rcases z with z | z
        · exact n1 (.inl z)
        · rw [upM_ne ne] at z
          exact n1 (.inr z)
      · rw [upd_ne ne]
        exact e2
    rcases hi with ⟨rfl, t', rfl, a0, a1, hk⟩ | ⟨rfl, r', rfl, b0, hk⟩
    · cases i1
      cases i3
      exact ⟨p, _, 1, 1, rfl, rfl, e1, rfl, fin t' r a0 a1 r0 hk⟩
    · cases i1
      cases i3
      exact ⟨p, _, 2, 2, rfl, rfl, e1, rfl, fin t r' t0 (by omega) b0 hk⟩
end Dl

set_option Elab.async false
set_option linter.all false
set_option maxRecDepth 100000
set_option maxHeartbeats 2000000
/-! D6: facts about data: types, what == tells, what draws. -/
namespace Dl
open PySem PySem.Spec PyProof.Rows L2

/-! ### types -/
def tyOk (d : D) : Bool := (typeD d).isSome
def isInt : D → Bool | .int _ => true | .bl _ => true | _ => false
def isBool : D → Bool | .bl _ => true | _ => false
def isStr : D → Bool | .str _ => true | _ => false
def isTup : D → Bool | .tup _ => true | _ => false
def isLst : D → Bool | .lst _ => true | .scr _ => true | _ => false
def isDct : D → Bool | .dct _ => true | _ => false
theorem kit_all (a : String) (h : a = "NoneType" ∨ a = "bool" ∨ a = "int" ∨ a = "str" ∨ a = "list" ∨ a = "tuple" ∨ a = "dict") (n : String) (hn : n = "int" ∨ n = "bool" ∨ n = "str" ∨ n = "tuple" ∨ n = "list" ∨ n = "dict") :
    kitB a n = some (decide (a = n) || (decide (a = "bool") && decide (n = "int"))) := by
  rcases h with rfl | rfl | rfl | rfl | rfl | rfl | rfl <;> rcases hn with rfl | rfl | rfl | rfl | rfl | rfl <;> decide +kernel
theorem typeD_in {d : D} {a : String} (h : typeD d = some a) : a = "NoneType" ∨ a = "bool" ∨ a = "int" ∨ a = "str" ∨ a = "list" ∨ a = "tuple" ∨ a = "dict" := by
  cases d <;> cases h <;> simp
theorem isT_eq {d : D} {n : String} (hn : n = "int" ∨ n = "bool" ∨ n = "str" ∨ n = "tuple" ∨ n = "list" ∨ n = "dict") : isT n d = (typeD d).elim false (fun a => decide (a = n) || (decide (a = "bool") && decide (n = "int"))) := by
  unfold isT
  cases e : typeD d with
  | none => rfl
  | some a =>
    show (kitB a n == some true) = _
    rw [kit_all a (typeD_in e) n hn]
    show (some _ == some true) = (decide (a = n) || (decide (a = "bool") && decide (n = "int")))
    cases (decide (a = n) || (decide (a = "bool") && decide (n = "int"))) <;> rfl
theorem isTok_eq {d : D} {n : String} (hn : n = "int" ∨ n = "bool" ∨ n = "str" ∨ n = "tuple" ∨ n = "list" ∨ n = "dict") (h : tyOk d = true) : isTok n d = true := by
  unfold isTok
  unfold tyOk at h
  cases e : typeD d with
  | none => rw [e] at h; cases h
  | some a =>
    show (kitB a n).isSome = true
    rw [kit_all a (typeD_in e) n hn]
    rfl
theorem isT_int (d : D) : isT "int" d = isInt d := by rw [isT_eq (by simp)]; cases d <;> rfl
theorem isT_bool (d : D) : isT "bool" d = isBool d := by rw [isT_eq (by simp)]; cases d <;> rfl
theorem isT_str (d : D) : isT "str" d = isStr d := by rw [isT_eq (by simp)]; cases d <;> rfl
theorem isT_tup (d : D) : isT "tuple" d = isTup d := by rw [isT_eq (by simp)]; cases d <;> rfl
theorem isT_lst (d : D) : isT "list" d = isLst d := by rw [isT_eq (by simp)]; cases d <;> rfl
theorem isT_dct (d : D) : isT "dict" d = isDct d := by rw [isT_eq (by simp)]; cases d <;> rfl
theorem isTok_int {d : D} (h : tyOk d = true) : isTok "int" d = true := isTok_eq (by simp) h
theorem isTok_bool {d : D} (h : tyOk d = true) : isTok "bool" d = true := isTok_eq (by simp) h
theorem isTok_str {d : D} (h : tyOk d = true) : isTok "str" d = true := isTok_eq (by simp) h
theorem isTok_tup {d : D} (h : tyOk d = true) : isTok "tuple" d = true := isTok_eq (by simp) h
theorem isTok_lst {d : D} (h : tyOk d = true) : isTok "list" d = true := isTok_eq (by simp) h
theorem isTok_dct {d : D} (h : tyOk d = true) : isTok "dict" d = true := isTok_eq (by simp) h

/-! ### lists of ints, truths, signs are fit for == and repr -/
theorem toPys_map {α : Type} (f : α → D) : ∀ xs : List α, toPys (xs.map f) = xs.map fun x => toPy (f x)
  | [] => rfl
  | x :: xs => by
    show toPy (f x) :: toPys (xs.map f) = _
    rw [toPys_map f xs]
    rfl
theorem plains_all : ∀ xs : List D, plains xs = xs.all plain
  | [] => rfl
  | x :: xs => by
    show (plain x && plains xs) = _
    rw [plains_all xs]
    rfl
theorem canLay_all : ∀ xs : List PyData, PyData.canLayAll0 xs = xs.all PyData.canLay0
  | [] => by simp [PyData.canLayAll0]
  | x :: xs => by simp [PyData.canLayAll0, canLay_all xs]
theorem eqOk_int (i : Int) : eqOk (.int i) = true := by simp [eqOk, plain, toPy, SeqAt.shaped, PyData.canLay0, PyData.depth]
theorem eqOk_bl (i : Bool) : eqOk (.bl i) = true := by simp [eqOk, plain, toPy, SeqAt.shaped, PyData.canLay0, PyData.depth]
theorem eqOk_non : eqOk .non = true := by simp [eqOk, plain, toPy, SeqAt.shaped, PyData.canLay0, PyData.depth]
theorem eqOk_str {x : Str} (h : PyData.strOk x = true) : eqOk (.str x) = true := by simp [eqOk, plain, toPy, SeqAt.shaped, PyData.canLay0, PyData.depth, h]
theorem depth_flat : ∀ xs : List PyData, (∀ x ∈ xs, x.depth = 0) → PyData.depthAll xs = 0
  | [], _ => by simp [PyData.depthAll]
  | x :: xs, h => by
    have h1 := h x List.mem_cons_self
    have h2 := depth_flat xs fun y hy => h y (List.mem_cons_of_mem _ hy)
    simp [PyData.depthAll, h1, h2]
/-- a list of flat data that may be compared -/
theorem eqOk_flats {xs : List D} (h : ∀ x ∈ xs, eqOk x = true ∧ (toPy x).depth = 0) : eqOk (.lst xs) = true := by
  have h1 : plains xs = true := by
    rw [plains_all, List.all_eq_true]
    intro x hx
    exact (Bool.and_eq_true_iff.mp (h x hx).1).1
  have h2 : PyData.canLayAll0 (toPys xs) = true := by
    rw [show toPys xs = xs.map toPy by rw [← List.map_id xs, toPys_map]; simp, canLay_all, List.all_eq_true]
    intro y hy
    obtain ⟨x, hx, rfl⟩ := List.mem_map.mp hy
    exact SeqAt.canLay_of_shaped (Bool.and_eq_true_iff.mp (h x hx).1).2
  have h3 : PyData.depthAll (toPys xs) = 0 := by
    rw [show toPys xs = xs.map toPy by rw [← List.map_id xs, toPys_map]; simp]
    refine depth_flat _ fun y hy => ?_
    obtain ⟨x, hx, rfl⟩ := List.mem_map.mp hy
    exact (h x hx).2
  unfold eqOk
  show (plains xs && (PyData.canLay0 (.list (toPys xs)) && decide (PyData.depth (.list (toPys xs)) ≤ 64))) = true
  rw [h1]
  simp [PyData.canLay0, PyData.depth, h2, h3]
theorem eqOk_ints (ns : List Int) : eqOk (.lst (ns.map .int)) = true := eqOk_flats fun x hx => by
  obtain ⟨i, _, rfl⟩ := List.mem_map.mp hx
  exact ⟨eqOk_int i, by simp [toPy, PyData.depth]⟩
theorem eqOk_bls (ns : List Bool) : eqOk (.lst (ns.map .bl)) = true := eqOk_flats fun x hx => by
  obtain ⟨i, _, rfl⟩ := List.mem_map.mp hx
  exact ⟨eqOk_bl i, by simp [toPy, PyData.depth]⟩
theorem eqOk_strs {ns : List Str} (h : ∀ x ∈ ns, PyData.strOk x = true) : eqOk (.lst (ns.map .str)) = true := eqOk_flats fun x hx => by
  obtain ⟨i, hi, rfl⟩ := List.mem_map.mp hx
  exact ⟨eqOk_str (h i hi), by simp [toPy, PyData.depth]⟩
theorem eqOk_nil : eqOk (.lst []) = true := eqOk_ints []
theorem eqD_int (i j : Int) : eqD (.int i) (.int j) = decide (i = j) := by
  simp only [eqD, toPy, PyData.eqv]
  exact Bool.eq_iff_iff.mpr (by simp)
theorem eqD_str (i j : Str) : eqD (.str i) (.str j) = decide (i = j) := by
  simp only [eqD, toPy, PyData.eqv]
  exact Bool.eq_iff_iff.mpr (by simp)
theorem eqD_bl (i j : Bool) : eqD (.bl i) (.bl j) = (i == j) := by simp only [eqD, toPy, PyData.eqv]
theorem eqD_nil (xs : List D) : eqD (.lst xs) (.lst []) = xs.isEmpty := by
  cases xs <;> simp [eqD, toPy, toPys, PyData.eqv, PyData.eqvAll]
theorem eqvAll_strs : ∀ xs ys : List Str, PyData.eqvAll (xs.map PyData.str) (ys.map PyData.str) = decide (xs = ys)
  | [], [] => by simp [PyData.eqvAll]
  | [], _ :: _ => by simp [PyData.eqvAll]
  | _ :: _, [] => by simp [PyData.eqvAll]
  | x :: xs, y :: ys => by
    have e := eqvAll_strs xs ys
    simp only [List.map_cons, PyData.eqvAll, PyData.eqv, e]
    exact Bool.eq_iff_iff.mpr (by simp)
theorem eqvAll_bls : ∀ xs ys : List Bool, PyData.eqvAll (xs.map PyData.bool) (ys.map PyData.bool) = decide (xs = ys)
  | [], [] => by simp [PyData.eqvAll]
  | [], _ :: _ => by simp [PyData.eqvAll]
  | _ :: _, [] => by simp [PyData.eqvAll]
  | x :: xs, y :: ys => by
    have e := eqvAll_bls xs ys
    simp only [List.map_cons, PyData.eqvAll, PyData.eqv, e]
    exact Bool.eq_iff_iff.mpr (by simp)
theorem toPys_strs (xs : List Str) : toPys (xs.map D.str) = xs.map PyData.str := by rw [toPys_map]; rfl
theorem toPys_bls (xs : List Bool) : toPys (xs.map D.bl) = xs.map PyData.bool := by rw [toPys_map]; rfl
theorem eqD_strs (xs ys : List Str) : eqD (.lst (xs.map .str)) (.lst (ys.map .str)) = decide (xs = ys) := by
  show PyData.eqv (.list (toPys (xs.map D.str))) (.list (toPys (ys.map D.str))) = _
  rw [toPys_strs, toPys_strs]
  simp only [PyData.eqv]
  exact eqvAll_strs xs ys
theorem eqD_bls (xs ys : List Bool) : eqD (.lst (xs.map .bl)) (.lst (ys.map .bl)) = decide (xs = ys) := by
  show PyData.eqv (.list (toPys (xs.map D.bl))) (.list (toPys (ys.map D.bl))) = _
  rw [toPys_bls, toPys_bls]
  simp only [PyData.eqv]
  exact eqvAll_bls xs ys

/-! ### walks by data -/
/-- a comprehension whose elements and tests are known: g the element, c the test -/
theorem LcD_pure {g : FG} {tt : FT} {te : FE} {Γ : GE} {M : MS} {k : List D → MS → Prop} {c : D → Bool} {v : D → D} : ∀ (xs acc : List D), acc.length + xs.length ≤ sizeLine →
    (∀ x ∈ xs, ∀ (k' : D → MS → Prop) (k2 : MS → Prop), (c x = true → k' (v x) M) → (c x = false → k2 M) → g x Γ fun Γ1 => tt Γ1 M (fun b M1 => if b = true then te Γ1 M1 k' noX else k2 M1) noX) →
    k (acc ++ (xs.filter c).map v) M → LcD g tt te Γ k xs acc M
  | [], acc, _, _, hk => by
    rw [List.filter_nil, List.map_nil, List.append_nil] at hk
    exact hk
  | x :: xs, acc, hl, h, hk => by
    rw [List.length_cons] at hl
    refine h x List.mem_cons_self _ (fun M1 => LcD g tt te Γ k xs acc M1) (fun hc => ⟨by omega, ?_⟩) (fun hc => ?_)
    · refine LcD_pure xs (acc ++ [v x]) (by rw [List.length_append]; show acc.length + 1 + xs.length ≤ _; omega) (fun y hy => h y (List.mem_cons_of_mem _ hy)) ?_
      rw [List.filter_cons, if_pos hc, List.map_cons] at hk
      rw [List.append_assoc]
      exact hk
    · refine LcD_pure xs acc (by omega) (fun y hy => h y (List.mem_cons_of_mem _ hy)) ?_
      rw [List.filter_cons, if_neg (by rw [hc]; exact Bool.false_ne_true)] at hk
      exact hk
/-- .. without a test -/
theorem LcD_map {g : FG} {te : FE} {Γ : GE} {M : MS} {k : List D → MS → Prop} {v : D → D} (xs : List D) (hl : xs.length ≤ sizeLine)
    (h : ∀ x ∈ xs, ∀ (k' : D → MS → Prop), k' (v x) M → g x Γ fun Γ1 => te Γ1 M k' noX) (hk : k (xs.map v) M) : LcD g fYes te Γ k xs [] M := by
  refine LcD_pure (c := fun _ => true) (v := v) xs [] (by rw [List.length_nil, Nat.zero_add]; exact hl) (fun x hx k' k2 h1 h2 => ?_) (by rw [List.filter_eq_self.mpr (fun _ _ => rfl), List.nil_append]; exact hk)
  exact h x hx _ (h1 rfl)
/-- a comprehension that draws: P the turn's number, J what holds of the pens behind so many turns -/
theorem LcD_rel {g : FG} {te : FE} {Γ : GE} {k : List D → MS → Prop} {R : D → Prop} {J : Nat → MS → Prop} : ∀ (xs acc : List D) (n : Nat) (M : MS), acc.length + xs.length ≤ sizeLine → J n M → (∀ y ∈ acc, R y) →
    (∀ x ∈ xs, ∀ (m : Nat) (M : MS) (k' : D → MS → Prop), J m M → (∀ y M1, R y → J (m + 1) M1 → k' y M1) → g x Γ fun Γ1 => te Γ1 M k' noX) →
    (∀ (ys : List D) (M1 : MS), ys.length = acc.length + xs.length → (∀ y ∈ ys, R y) → J (n + xs.length) M1 → k ys M1) → LcD g fYes te Γ k xs acc M
  | [], acc, n, M, _, hj, hr, _, hk => hk acc M rfl hr hj
  | x :: xs, acc, n, M, hl, hj, hr, h, hk => by
    rw [List.length_cons] at hl hk
    refine h x List.mem_cons_self n M _ hj fun y M1 hy h1 => ⟨by omega, ?_⟩
    refine LcD_rel xs (acc ++ [y]) (n + 1) M1 (by rw [List.length_append]; show acc.length + 1 + xs.length ≤ _; omega) h1 (fun z hz => ?_) (fun z hz => h z (List.mem_cons_of_mem _ hz)) fun ys M2 e hr2 h2 => ?_
    · rcases List.mem_append.mp hz with hz | hz
      · exact hr z hz
      · rw [List.mem_singleton.mp hz]; exact hy
    · refine hk ys M2 ?_ hr2 ?_
      · rw [e, List.length_append]
        show acc.length + 1 + xs.length = _
        omega
      · rw [show n + (xs.length + 1) = n + 1 + xs.length by omega]
        exact h2
/-- a for loop by a word J on the turn -/
theorem ForD_inv {g : FG} {fb : FS} {N : Nd} {J : Nat → GE → MS → Prop} : ∀ (xs : List D) (n : Nat) (Γ : GE) (M : MS), J n Γ M →
    (∀ (i : Nat) (x : D), xs[i]? = some x → ∀ (Γ : GE) (M : MS), J (n + i) Γ M → ∀ nx : GE → MS → Prop, (∀ Γ' M', J (n + i + 1) Γ' M' → nx Γ' M') → g x Γ fun Γ1 => fb { N with nx := nx, ct := nx, bk := N.nx } Γ1 M) →
    (∀ Γ M, J (n + xs.length) Γ M → N.nx Γ M) → ForD g fb N xs Γ M
  | [], n, Γ, M, hj, _, hd => hd Γ M hj
  | x :: xs, n, Γ, M, hj, hs, hd => by
    refine hs 0 x rfl Γ M hj _ fun Γ' M' h' => ?_
    refine ForD_inv xs (n + 1) Γ' M' h' (fun i y e Γ2 M2 h2 nx hn => ?_) fun Γ2 M2 h2 => hd Γ2 M2 (by rw [List.length_cons, show n + (xs.length + 1) = n + 1 + xs.length by omega]; exact h2)
    refine hs (i + 1) y (by rw [List.getElem?_cons_succ]; exact e) Γ2 M2 (by rw [show n + (i + 1) = n + 1 + i by omega]; exact h2) nx fun Γ' M' h' => hn Γ' M' (by rw [show n + 1 + i + 1 = n + (i + 1) + 1 by omega]; exact h')
end Dl

set_option Elab.async false
set_option linter.all false
set_option maxRecDepth 100000
set_option maxHeartbeats 4000000
/-! D7: sets of texts: set(a list of texts), sorted of it. -/
namespace Dl
open PySem PySem.Spec PyProof.Rows L2

/-- the text that an element holds -/
def txtOf (e : Int × Value) : Str := match e.2 with
  | .str x _ => x
  | _ => Str.empty
/-- a set of texts at a: S its members, at most n of them -/
def RS (P : Program) (w : World) (h : Heap) (a : Addr) (S : Str → Bool) (n : Nat) : Prop :=
  ∃ o es ep t, h.get? a = some o ∧ o.ExactSet ∧ o.data = .set es ep t ∧ ElemsOf (PySem.strKind P w) es.toList ∧ (es.toList.map txtOf).Nodup ∧ (∀ k, S k = true ↔ k ∈ es.toList.map txtOf) ∧
    es.size < scanBound ∧ t.fits es.size = true ∧ es.size ≤ n ∧ Ris t.place.toList ∧ (w.params.followText "set-order" = true ∨ t.led = true)
section
variable {P : Program} {w : World} {h h' : Heap} {a : Addr} {S : Str → Bool} {n : Nat}
theorem RS.moved (R : RS P w h a S n) (k : ∀ o, h.get? a = some o → h'.get? a = some o) : RS P w h' a S n := R.imp fun o z => z.imp fun es z => z.imp fun ep z => z.imp fun t z => ⟨k o z.1, z.2⟩
theorem RS.congr {S' : Str → Bool} {m : Nat} (R : RS P w h a S n) (e : ∀ k, S' k = S k) (hm : n ≤ m) : RS P w h a S' m := by
  obtain ⟨o, es, ep, t, h1, h2, h3, h4, h5, h6, h7, h8, h9, h10⟩ := R
  exact ⟨o, es, ep, t, h1, h2, h3, h4, h5, fun k => by rw [e k]; exact h6 k, h7, h8, Nat.le_trans h9 hm, h10⟩
theorem el_shape {l : List (Int × Value)} (g : ElemsOf (PySem.strKind P w) l) {e : Int × Value} (he : e ∈ l) : ∃ t, e.2 = .str (txtOf e) t := by
  obtain ⟨⟨k, h1, _⟩, _⟩ := g e he
  obtain ⟨t, h2⟩ := Value.isStrOf_shape h1
  refine ⟨t, ?_⟩
  unfold txtOf
  rw [h2]
theorem el_is {l : List (Int × Value)} (g : ElemsOf (PySem.strKind P w) l) {e : Int × Value} (he : e ∈ l) (k : Str) : (PySem.strKind P w).is k e.2 = true ↔ txtOf e = k := by
  obtain ⟨t, h⟩ := el_shape g he
  rw [h]
  constructor
  · intro q
    have q1 : Value.isStrOf k (.str (txtOf e) t) = true := q
    obtain ⟨t', q2⟩ := Value.isStrOf_shape q1
    injection q2
  · intro q
    rw [q]
    exact PySem.strKind_is P w k t
end
section
variable {P : Program} {w : World} {A : Around} {E : Value → Shared → Prop} {s : Shared} {a : Addr} {S : Str → Bool} {n : Nat}
/-- the end of an adding: the new table stored, perhaps laid anew -/
theorem rs_tail {g : Bool → Sem Unit} (hg : ∀ (b : Bool) (s₁ : Shared) (Q' : Unit → Shared → Prop), Q' () s₁ → wpAny (model P w) A (g b) Q' E s₁)
    {o : Obj} {es : Array (Int × Value)} {ep : Nat} {t : SetTable} (ho : s.heap.get? a = some o) (hex : o.ExactSet) (hd : o.data = .set es ep t)
    {es1 : Array (Int × Value)} {t2 : SetTable} {S' : Str → Bool} (g1 : ElemsOf (PySem.strKind P w) es1.toList) (nd1 : (es1.toList.map txtOf).Nodup) (m1 : ∀ k, S' k = true ↔ k ∈ es1.toList.map txtOf)
    (hb1 : es1.size < scanBound) (hn1 : es1.size ≤ n) (hf2 : t2.fits es1.size = true) (hr : Ris t2.place.toList) (hl : w.params.followText "set-order" = true ∨ t2.led = true) {wasDummy : Bool} {R : Option Bool → Shared → Prop}
    (hR : ∀ h', Heap.SameBut a s.heap h' → RS P w h' a S' n → R (some true) { s with heap := h' }) :
    wpAny (model P w) A (do
        storeSet a es1 t2
        if (!wasDummy && t2.tooFull) = true then do
            g (relayAll t2 es1 (SetTable.grown es1.size)).2.2
            storeSet a (relayAll t2 es1 (SetTable.grown es1.size)).1 (relayAll t2 es1 (SetTable.grown es1.size)).2.1
            pure (some true)
          else pure (some true)) R E s := by
  refine wpAny_bind (wpAny_storeSet_of ho hd ?_ (fits_of_scanBound hb1))
  have ho1 := store_at (es' := es1) (t' := t2) ho hd
  have sb1 := Heap.SameBut.update s.heap a (Obj.putSet es1 t2)
  by_cases hc : (!wasDummy && t2.tooFull) = true
  · rw [if_pos hc]
    have pm := relayAll_perm t2 es1 (SetTable.grown es1.size)
    have hsz : (relayAll t2 es1 (SetTable.grown es1.size)).1.size = es1.size := by
      rw [← Array.length_toList, pm.length_eq, Array.length_toList]
    have hb2 : (relayAll t2 es1 (SetTable.grown es1.size)).1.size < scanBound := by rw [hsz]; exact hb1
    refine wpAny_bind (hg _ _ _ (wpAny_bind (wpAny_storeSet_of ho1 rfl ?_ (fits_of_scanBound hb2))))
    have ho2 := store_at (es' := (relayAll t2 es1 (SetTable.grown es1.size)).1) (t' := (relayAll t2 es1 (SetTable.grown es1.size)).2.1) ho1 rfl
    refine wpAny_pure (hR _ (sb1.trans (Heap.SameBut.update _ a _)) ⟨_, _, _, _, ho2, hex, rfl, g1.perm pm, (pm.map txtOf).nodup_iff.mpr nd1, fun k => (m1 k).trans (pm.map txtOf).mem_iff.symm, hb2, relayAll_fits t2 es1 _, by rw [hsz]; exact hn1, relayAll_ris t2 es1 _, ?_⟩)
    rcases hl with z | z
    · exact .inl z
    · exact .inr ((relayAll_led t2 es1 _).trans z)
  · rw [if_neg hc]
    exact wpAny_pure (hR _ sb1 ⟨_, es1, _, t2, ho1, hex, rfl, g1, nd1, m1, hb1, hf2, hn1, hr, hl⟩)

/-- a text is added -/
theorem rs_add {k : Str} {tk : Tok} {Q : Bool → Shared → Prop} (R : RS P w s.heap a S n) (room : n + 1 < scanBound)
    (hQ : ∀ h' b, Heap.SameBut a s.heap h' → RS P w h' a (fun j => S j || decide (j = k)) (n + 1) → Q b { s with heap := h' }) :
    wpAny (model P w) A (setAddHashed a (.str k tk) ((PySem.strKind P w).hash k)) Q E s := by
  obtain ⟨o, es, ep, t, ho, hex, hd, hel, nd, hm, hb, hf, hn, hr, hl⟩ := R
  have hkey : (PySem.strKind P w).is k (.str k tk) = true := PySem.strKind_is P w k tk
  have hsc : (Value.str k tk).scannable = true := rfl
  unfold setAddHashed setAddHashedIn
  refine wpAny_holding (wpAny_bind (wpAny_setState_of ho hd hf ?_))
  dsimp only
  rw [byScan_of hsc hb hel, if_pos rfl]
  unfold setAddByScan
  refine wpAny_bind (wpAny_bind (wpAny_rule (wpAny_bind (wpAny_setScan_of hkey ho hd hf hel ?_))))
  cases hfi : List.findIdx? (fun e => (PySem.strKind P w).is k e.2) es.toList with
  | some j =>
    dsimp only
    obtain ⟨hj, pj, _⟩ := List.findIdx?_eq_some_iff_getElem.mp hfi
    have hin : k ∈ es.toList.map txtOf := List.mem_map.mpr ⟨es.toList[j], List.getElem_mem hj, (el_is hel (List.getElem_mem hj) k).mp pj⟩
    refine wpAny_pure (wpAny_pure (hQ s.heap false (Heap.SameBut.refl a s.heap) ⟨o, es, ep, t, ho, hex, hd, hel, nd, fun i => ?_, hb, hf, Nat.le_succ_of_le hn, hr, hl⟩))
    rw [Bool.or_eq_true, decide_eq_true_eq, hm i]
    exact ⟨fun z => z.elim id fun e => e ▸ hin, .inl⟩
  | none =>
    dsimp only
    have hnk : k ∉ es.toList.map txtOf := fun z => by
      obtain ⟨e, he, q⟩ := List.mem_map.mp z
      have c := List.findIdx?_eq_none_iff.mp hfi e he
      rw [(el_is hel he k).mpr q] at c
      cases c
    have hgw : ∀ (b : Bool) {s₁ : Shared} {Q' : Unit → Shared → Prop}, Q' () s₁ → wpAny (model P w) A (match b with | true => rule "set.scan.the-table-gave-way" | false => pure ()) Q' E s₁ := by
      intro b s₁ Q' q
      cases b
      · exact wpAny_pure q
      · exact wpAny_rule q
    have pm := layNew_perm t es ((PySem.strKind P w).hash k) (.str k tk)
    have hf1 := layNew_fits t es ((PySem.strKind P w).hash k) (.str k tk)
    have hr1 := layNew_ris t es ((PySem.strKind P w).hash k) (.str k tk) hr
    have hl1 := layNew_led t es ((PySem.strKind P w).hash k) (.str k tk)
    generalize layNew t es ((PySem.strKind P w).hash k) (.str k tk) = Z at pm hf1 hr1 hl1 ⊢
    obtain ⟨es1, t1, wasDummy, gave⟩ := Z
    dsimp only at pm hf1 hr1 hl1 ⊢
    rw [Array.toList_push] at pm
    have g1 : ElemsOf (PySem.strKind P w) es1.toList := (hel.push hkey hsc).perm pm
    have pk : (es1.toList.map txtOf).Perm (k :: es.toList.map txtOf) := (pm.trans (List.perm_append_singleton _ _)).map txtOf
    have nd1 : (es1.toList.map txtOf).Nodup := pk.nodup_iff.mpr (List.nodup_cons.mpr ⟨hnk, nd⟩)
    have m1 : ∀ i, (S i || decide (i = k)) = true ↔ i ∈ es1.toList.map txtOf := fun i => by
      rw [Bool.or_eq_true, decide_eq_true_eq, hm i, pk.mem_iff, List.mem_cons]
      exact Or.comm
    have hsz : es1.size ≤ n + 1 := by
      have e := pm.length_eq
      rw [List.length_append, Array.length_toList, Array.length_toList] at e
      show es1.size ≤ _
      rw [e]
      exact Nat.succ_le_succ hn
    have hb1 : es1.size < scanBound := Nat.lt_of_le_of_lt hsz room
    have hled : w.params.followText "set-order" = true ∨ t1.led = true := hl.imp id fun z => hl1.trans z
    refine wpAny_bind (hgw _ ?_)
    split
    · refine wpAny_bind ?_
      rw [hashByValue_scannable 8 hsc]
      refine wpAny_pure (rs_tail ?_ ho hex hd g1 nd1 m1 hb1 hsz ?_ ?_ ?_ ?_)
      · intro b s₁ Q' q
        cases b
        · exact wpAny_pure q
        · exact wpAny_rule q
      · first | (split <;> first | exact hf1 | exact SetTable.fits_plain_off hf1) | exact hf1
      · first | (split <;> exact hr1) | exact hr1
      · first | (split <;> exact hled) | exact hled
      · intro h' sb r
        exact wpAny_pure (hQ h' true sb r)
    · refine wpAny_bind (wpAny_pure ?_)
      rw [if_pos rfl]
      refine rs_tail ?_ ho hex hd g1 nd1 m1 hb1 hsz hf1 hr1 hled ?_
      · intro b s₁ Q' q
        cases b
        · exact wpAny_pure q
        · exact wpAny_rule q
      · intro h' sb r
        exact wpAny_pure (hQ h' true sb r)
end
section
variable {prog : Program} {w : World} {A : Around} {R : Result → Shared → Prop} {I : Addr} {fp wr : List Addr} {G : Array GenState → Array GenState → Prop} {n : Nat} {Pv : Nat → Value → Prop} {St : Nat → Shared → Prop}
def memB (xs : List Str) : Str → Bool := fun k => decide (k ∈ xs)
/-- a set is filled from what an iterator yields -/
theorem rs_loop (W : WalksS prog w A.in1 I fp wr G n Pv St) (S : Addr) (hSf : S ∉ fp) (xs : List Str) (hval : ∀ i v, Pv i v → ∃ x t, xs[i]? = some x ∧ v = .str x t) (hb : n + 1 < scanBound) :
    ∀ (k i : Nat) (s : Shared), n - i = k → i ≤ n → St i s → RS prog w s.heap S (memB (xs.take i)) i →
      (∀ s', Moved (S :: wr) G s s' → RS prog w s'.heap S (memB (xs.take n)) n → R (.ok (.ret .none)) s') → codeAny (model prog w) A (.builtin "set.update.loop" ⟨[.ref S, .ref I], []⟩) R s := by
  have hSw : S ∉ wr := fun h => hSf (W.sub _ h)
  have hsub : ∀ b ∈ wr, b ∈ S :: wr := fun b hb => List.mem_cons_of_mem _ hb
  intro k
  induction k with
  | zero =>
    intro i s hk hi hst hS hR
    obtain rfl : i = n := by omega
    refine codeAny_builtin PyProof.Rows.F.entry_set_update_loop ?_
    rw [Around.under_plainId PyProof.Rows.F.plain_set_update_loop _]
    show wpAny _ A.in1 (pyNext (.ref I) >>= _) _ _ s
    refine wpAny_bind (W.done s _ _ hst fun s' hm => ?_)
    exact wpAny_pure (hR s' (hm.mono hsub) (hS.moved fun o e => hm.heap S _ hSw e))
  | succ k ih =>
    intro i s hk hi hst hS hR
    have hlt : i < n := by omega
    refine codeAny_builtin PyProof.Rows.F.entry_set_update_loop ?_
    rw [Around.under_plainId PyProof.Rows.F.plain_set_update_loop _]
    show wpAny _ A.in1 (pyNext (.ref I) >>= _) _ _ s
    refine wpAny_bind (W.item i s _ _ hlt hst fun v s' hP hst' hm => ?_)
    obtain ⟨x, t, hx, rfl⟩ := hval i v hP
    have hS' : RS prog w s'.heap S (memB (xs.take i)) i := hS.moved fun o e => hm.heap S _ hSw e
    show wpAny _ A.in1 (holding [Value.str x t] (setAdd S (.str x t)) >>= _) _ _ s'
    refine wpAny_bind (wpAny_holding ?_)
    unfold setAdd
    refine wpAny_holding (wpAny_bind ((PySem.strKind prog w).pyHash (k := x) (PySem.strKind_is _ _ _ _) ?_))
    refine rs_add (s := { s' with toks := s'.toks + 1 }) hS' (by omega) fun h' b hsb hS2 => ?_
    have hS3 : RS prog w h' S (memB (xs.take (i + 1))) (i + 1) := hS2.congr (fun j => by
      unfold memB
      rw [List.take_add_one, hx]
      exact Bool.eq_iff_iff.mpr (by simp)) (Nat.le_refl _)
    refine wpAny_pure ⟨plainId_quiet PyProof.Rows.F.plain_set_update_loop _, ih (i + 1) _ (by omega) hlt (W.frame _ s' _ _ hst' (Nat.le_succ _) fun b hb o e => ?_) hS3 fun s'' hm'' hS'' => ?_⟩
    · rw [hsb.2 b (fun z => hSf (z ▸ hb))]
      exact e
    · refine hR s'' (Moved.trans W.gtrans ((hm.mono hsub).then_heap (Nat.le_succ _) fun b o hb e => ?_) hm'') hS''
      rw [hsb.2 b (fun z => hb (by rw [z]; exact List.mem_cons_self))]
      exact e
end
end Dl

set_option Elab.async false
set_option linter.all false
set_option maxRecDepth 100000
set_option maxHeartbeats 4000000
/-! D8: set(a list of texts), sorted of it. -/
namespace Dl
open PySem PySem.Spec PyProof.Rows L2

/-- a set just made -/
abbrev nuSet (w : World) : Obj := { cls := .type "set", dict := none, data := .set #[] 0 (.fresh 0 0 (!w.params.followText "set-order")) }
section
variable {P : Program} {w : World} {A : Around} {E : Value → Shared → Prop} {s : Shared}
theorem mk_set (a : Value) {R : Value → Shared → Prop} (h : R (.ref s.heap.objs.size) { s with heap := s.heap.push (nuSet w) }) :
    codeAny (model P w) A (.call (.builtin "set.__new__") ⟨[.type "set", a], []⟩) (wants R E) s := by
  refine codeAny_of_tree ?_
  show wpAny _ A.in1 (checkBuiltinCall "set.__new__" ⟨[.type "set", a], []⟩ >>= fun _ => again (.builtin "set.__new__" ⟨[.type "set", a], []⟩)) _ _ s
  refine wpAny_bind (wpAny_of_eq (PySem.F.newCall_set_1 a) (wpAny_pure ⟨plainId_quiet PySem.F.plain_set_new _, codeAny_builtin PySem.F.entry_set_new ?_⟩))
  rw [Around.under_plainId PySem.F.plain_set_new _]
  unfold Builtin.«set.__new__» Builtin.Frozenset.newClass
  have q := sub_set_self
  obtain ⟨hp, g, d, tk, os⟩ := s
  dsimp only
  wp_walk
  refine wpAny_askSetting (wpAny_pure ?_)
  dsimp only
  simp only [newObj]
  exact wpAny_bind (wpAny_alloc (wpAny_pure (wpAny_pure h)))
theorem rs_nu {h : Heap} : RS P w (h.push (nuSet w)) h.objs.size (memB []) 0 :=
  ⟨_, #[], 0, _, Heap.get?_push_size _ rfl, ⟨rfl, rfl, rfl⟩, rfl, fun e he => by simp at he, by simp, fun k => by simp [memB], by decide, by rfl, Nat.le_refl _, List.Pairwise.nil, by
    show _ ∨ (!w.params.followText "set-order") = true
    cases w.params.followText "set-order" <;> simp⟩
theorem str_at : ∀ {vs : List Value} {xs : List Str}, StrsAre vs xs → ∀ (i : Nat) (v : Value), vs[i]? = some v → ∃ x t, xs[i]? = some x ∧ v = .str x t
  | _, _, .nil, i, v, h => by simp at h
  | _, _, .cons n t r, 0, v, h => ⟨n, t, rfl, (Option.some.inj h).symm⟩
  | _, _, .cons n t r, i + 1, v, h => by
    rw [List.getElem?_cons_succ] at h
    obtain ⟨x, t', e1, e2⟩ := str_at r i v h
    exact ⟨x, t', by rw [List.getElem?_cons_succ]; exact e1, e2⟩
/-- set(a list of texts) -/
theorem set_of_list {l : Addr} {items : Array Value} {xs : List Str} {Q : Value → Shared → Prop} (hh : A.handled = none) (hl : s.heap.IsList l items) (hi : StrsAre items.toList xs) (hb : items.size + 1 < scanBound)
    (h : ∀ (h' : Heap) (tk : Nat), RS P w h' s.heap.objs.size (memB xs) items.size → (∀ b o, b < s.heap.objs.size → s.heap.get? b = some o → h'.get? b = some o) → Q (.ref s.heap.objs.size) { s with heap := h', toks := tk }) :
    wpAny (model P w) A (call (.type "set") [.ref l]) Q E s := by
  obtain ⟨c, tl, m1⟩ := PySem.F.called_set.mro
  have m2 := PySem.F.called_set.made
  have m3 := PySem.F.called_set.sub
  refine wpAny_call (codeAny_of_tree ?_)
  show wpAny _ _ (callAny (.type "set") _) _ _ _
  refine wpAny_pure ⟨Code.quiet_builtin _ (by decide +kernel), codeAny_builtin PySem.F.entry_type_call ?_⟩
  rw [Around.under_plain (weight_type_call_type "set" [.ref l] []) rfl]
  have m4 := PySem.F.called_set.notType
  have m5 := PySem.F.called_set.canCreate
  have m6 := PySem.F.typeCall_set_1 (.ref l)
  repeat (any_goals (first | assumption | wp_step))
  refine codeAny_mono (mk_set (.ref l) (E := E) (R := fun obj s₁ => obj = .ref s.heap.objs.size ∧ s₁ = { s with heap := s.heap.push (nuSet w) }) ⟨rfl, rfl⟩) fun r s₁ hr => ?_
  match r, hr with
  | .error e, hr => exact hr
  | .ok (.ret obj), ⟨e1, e2⟩ =>
    subst e1
    subst e2
    have hS : (s.heap.push (nuSet w)).get? s.heap.objs.size = some (nuSet w) := Heap.get?_push_size _ rfl
    have hT : Shared.TypeIs { s with heap := s.heap.push (nuSet w) } (.ref s.heap.objs.size) "set" := ⟨_, hS, rfl⟩
    have n1 := PySem.F.called_set.init.lookup
    have n2 := PySem.F.called_set.init.bind (.ref s.heap.objs.size)
    repeat (any_goals (first | assumption | wp_step))
    refine codeAny_mono (codeAny_call_builtin (R := wants (fun r s₂ => r = .none ∧ ∃ h' tk, s₂ = { s with heap := h', toks := tk } ∧ RS P w h' s.heap.objs.size (memB xs) items.size ∧
        (∀ b o, b < s.heap.objs.size → s.heap.get? b = some o → h'.get? b = some o)) E) PySem.F.called_set.init.plain PySem.F.entry_set_init (check_set_init_1 hT ?_)) fun r₂ s₂ hr₂ => ?_
    · obtain ⟨ol, hol, hcl, nl, hdl⟩ := hl
      obtain ⟨oc, od, odata, os⟩ := ol
      simp only at hcl hdl
      subst hcl
      subst hdl
      have hol' : (s.heap.push (nuSet w)).get? l = some { cls := .type "list", dict := od, data := .seq items nl, slots := os } := Heap.get?_push_of_some _ hol
      have k1 := PySem.F.sub_list_set
      have k2 := PySem.F.sub_list_frozenset
      have k3 : (Value.type "list" == Value.type "dict") = false := by decide
      have hl1 : (s.heap.push (nuSet w)).IsList l items := ⟨_, hol', rfl, nl, rfl⟩
      unfold Builtin.«set.__init__» noKeywords Builtin.Frozenset.updateFrom
      generalize hPI : pyIter = PI
      wp_walk
      subst hPI
      refine wpAny_pyIter_list hl1 (wpAny_bind (wpAny_runValue ?_))
      have hlS : l < s.heap.objs.size := Heap.lt_size hol
      have h3 : A.in1.in1.in1.handled = none := by simp [hh]
      have hsz : (s.heap.push (nuSet w)).objs.size = s.heap.objs.size + 1 := Heap.size_push _ _
      have hneI : l ≠ (s.heap.push (nuSet w)).objs.size := by rw [hsz]; exact Nat.ne_of_lt (Nat.lt_succ_of_lt hlS)
      have hSf : s.heap.objs.size ∉ [(s.heap.push (nuSet w)).objs.size, l] := by
        rw [hsz]
        simp only [List.mem_cons, List.not_mem_nil, or_false, not_or]
        exact ⟨Nat.ne_of_lt (Nat.lt_succ_self _), Nat.ne_of_gt hlS⟩
      have hR0 : RS P w ((s.heap.push (nuSet w)).push { cls := .type "list_iterator", data := .fields #[.ref l, .int 0 0] }) s.heap.objs.size (memB (xs.take 0)) 0 := rs_nu.moved fun o e => Heap.get?_push_of_some _ e
      have hxl : xs.length = items.size := by
        have := hi.length
        rw [Array.length_toList] at this
        omega
      refine rs_loop (Walks.list h3 _ l hneI items).toS s.heap.objs.size hSf xs (fun i v hv => str_at hi i v (by rw [Array.getElem?_toList]; exact hv)) hb (items.size - 0) 0 _ rfl (Nat.zero_le _) ⟨⟨_, Heap.get?_push_size _ rfl, rfl, rfl⟩, hl1.push _⟩ hR0 fun s' hm hS' => ?_
      obtain ⟨h', g', d', tk', os'⟩ := s'
      have eg : g' = s.gens := hm.gens
      have ed : d' = s.drawn := hm.drawn
      have eo : os' = s.os := hm.os
      subst eg
      subst ed
      subst eo
      show wpAny _ _ _ _ _ _
      refine wpAny_pure ?_
      show wpAny _ _ (ret Value.none) _ _ _
      refine wpAny_pure ⟨rfl, h', tk', rfl, ?_, fun b o hb e => ?_⟩
      · rw [← hxl, List.take_length] at hS'
        rw [← hxl]
        exact hS'
      · refine hm.heap b o ?_ (Heap.get?_push_of_some _ (Heap.get?_push_of_some _ e))
        rw [hsz]
        simp only [List.mem_cons, List.not_mem_nil, or_false, not_or]
        exact ⟨Nat.ne_of_lt hb, Nat.ne_of_lt (Nat.lt_succ_of_lt hb)⟩
    · match r₂, hr₂ with
      | .error e, hr₂ => exact hr₂
      | .ok (.ret r), hr₂ =>
        obtain ⟨e1, h', tk, e2, hS', hk'⟩ := hr₂
        subst e1
        subst e2
        repeat (any_goals (first | assumption | wp_step))
        exact h _ _ hS' hk'
end
end Dl

set_option Elab.async false
set_option linter.all false
set_option maxRecDepth 100000
set_option maxHeartbeats 4000000
/-! D9: sorted(set(a list of texts)), zip of two lists, an empty dict. -/
namespace Dl
open PySem PySem.Spec PyProof.Rows L2

/-! ### the order of texts -/
def ltS (a b : Str) : Bool := ltCps a.cps.toList b.cps.toList
theorem ltC_irr : ∀ a : List Nat, ltCps a a = false
  | [] => rfl
  | a :: r => by simp [ltCps, ltC_irr r]
theorem ltC_trans : ∀ a b c : List Nat, ltCps a b = true → ltCps b c = true → ltCps a c = true
  | [], [], _, h, _ => by simp [ltCps] at h
  | _ :: _, [], _, h, _ => by simp [ltCps] at h
  | _, _ :: _, [], _, h => by simp [ltCps] at h
  | [], _ :: _, _ :: _, _, _ => rfl
  | a :: r, b :: t, c :: u, h1, h2 => by
    simp only [ltCps, Bool.or_eq_true, decide_eq_true_eq, Bool.and_eq_true, beq_iff_eq] at h1 h2 ⊢
    rcases h1 with h1 | ⟨h1, h1'⟩
    · rcases h2 with h2 | ⟨h2, _⟩
      · exact .inl (Nat.lt_trans h1 h2)
      · exact .inl (h2 ▸ h1)
    · rcases h2 with h2 | ⟨h2, h2'⟩
      · exact .inl (h1 ▸ h2)
      · exact .inr ⟨h1.trans h2, ltC_trans r t u h1' h2'⟩
theorem ltC_tri : ∀ a b : List Nat, ltCps a b = false → ltCps b a = false → a = b
  | [], [], _, _ => rfl
  | [], _ :: _, h, _ => by simp [ltCps] at h
  | _ :: _, [], _, h => by simp [ltCps] at h
  | a :: r, b :: t, h1, h2 => by
    simp only [ltCps, Bool.or_eq_false_iff, decide_eq_false_iff_not, Bool.and_eq_false_imp, beq_iff_eq] at h1 h2
    have e : a = b := by omega
    subst e
    rw [ltC_tri r t (h1.2 rfl) (h2.2 rfl)]
theorem ltC_lex : ∀ a b : List Nat, ltCps a b = decide (a < b)
  | [], [] => by simp [ltCps]
  | [], b :: t => by simp [ltCps]
  | a :: r, [] => by simp [ltCps]
  | a :: r, b :: t => by
    rw [ltCps, ltC_lex r t]
    apply Bool.eq_iff_iff.mpr
    simp only [Bool.or_eq_true, decide_eq_true_eq, Bool.and_eq_true, beq_iff_eq]
    exact List.cons_lt_cons_iff.symm
theorem ltS_irr (a : Str) : ltS a a = false := ltC_irr _
theorem ltS_trans {a b c : Str} (h1 : ltS a b = true) (h2 : ltS b c = true) : ltS a c = true := ltC_trans _ _ _ h1 h2
theorem str_ext {a b : Str} (h : a.cps.toList = b.cps.toList) : a = b := by
  obtain ⟨⟨x⟩⟩ := a
  obtain ⟨⟨y⟩⟩ := b
  cases h
  rfl
theorem ltS_tri {a b : Str} (h1 : ltS a b = false) (h2 : ltS b a = false) : a = b := str_ext (ltC_tri _ _ h1 h2)
theorem ltS_dec (a b : Str) : decide (a.cps.toList < b.cps.toList) = ltS a b := (ltC_lex _ _).symm
/-- texts in their order, none twice -/
abbrev Asc (l : List Str) : Prop := l.Pairwise fun a b => ltS a b = true
theorem rising_pw : ∀ (l : List Str) (p : Str), risingS p l = true → (∀ x ∈ l, ltS x p = false) ∧ l.Pairwise fun a b => ltS b a = false
  | [], _, _ => ⟨fun _ h => by simp at h, List.Pairwise.nil⟩
  | x :: r, p, h => by
    have h' : (!ltS x p && risingS x r) = true := h
    obtain ⟨h1, h2⟩ := Bool.and_eq_true_iff.mp h'
    have h1 : ltS x p = false := by simpa using h1
    obtain ⟨a, b⟩ := rising_pw r x h2
    refine ⟨fun y hy => ?_, List.pairwise_cons.mpr ⟨a, b⟩⟩
    rcases List.mem_cons.mp hy with e | hy
    · rw [e]; exact h1
    · cases hc : ltS y p with
      | false => rfl
      | true =>
        cases hx : ltS p x with
        | true =>
          have := a y hy
          rw [ltS_trans hc hx] at this
          cases this
        | false =>
          have e := ltS_tri h1 hx
          subst e
          rw [a y hy] at hc
          cases hc
theorem sorted_asc {l : List Str} (h : sortedS l = true) (nd : l.Nodup) : Asc l := by
  have pw : l.Pairwise fun a b => ltS b a = false := by
    cases l with
    | nil => exact List.Pairwise.nil
    | cons x r => exact List.pairwise_cons.mpr (rising_pw r x h)
  refine List.Pairwise.imp₂ (fun a b (h1 : ltS b a = false) (h2 : a ≠ b) => ?_) pw nd
  cases h3 : ltS a b with
  | true => rfl
  | false => exact absurd (ltS_tri h3 h1) h2
theorem asc_unique : ∀ {l l' : List Str}, Asc l → Asc l' → (∀ x, x ∈ l ↔ x ∈ l') → l = l'
  | [], [], _, _, _ => rfl
  | [], y :: t, _, _, h => absurd ((h y).mpr List.mem_cons_self) (by simp)
  | x :: r, [], _, _, h => absurd ((h x).mp List.mem_cons_self) (by simp)
  | x :: r, y :: t, h1, h2, h => by
    obtain ⟨a1, a2⟩ := List.pairwise_cons.mp h1
    obtain ⟨b1, b2⟩ := List.pairwise_cons.mp h2
    have e : x = y := by
      rcases List.mem_cons.mp ((h x).mp List.mem_cons_self) with q | q
      · exact q
      · rcases List.mem_cons.mp ((h y).mpr List.mem_cons_self) with p | p
        · exact p.symm
        · have := ltS_trans (a1 y p) (b1 x q)
          rw [ltS_irr] at this
          cases this
    subst e
    refine congrArg _ (asc_unique a2 b2 fun z => ⟨fun hz => ?_, fun hz => ?_⟩)
    · rcases List.mem_cons.mp ((h z).mp (List.mem_cons_of_mem _ hz)) with q | q
      · have := a1 z hz
        rw [q, ltS_irr] at this
        cases this
      · exact q
    · rcases List.mem_cons.mp ((h z).mpr (List.mem_cons_of_mem _ hz)) with q | q
      · have := b1 z hz
        rw [q, ltS_irr] at this
        cases this
      · exact q

/-! ### sorted(a set of texts) -/
section
variable {P : Program} {w : World} {A : Around} {E : Value → Shared → Prop} {s : Shared}
theorem texts_of : ∀ (l : List Value), (∀ v ∈ l, ∃ x t, v = Value.str x t) → StrsAre l (l.map fun v => txtOf (0, v))
  | [], _ => .nil
  | v :: l, h => by
    obtain ⟨x, t, rfl⟩ := h v List.mem_cons_self
    exact .cons x t (texts_of l fun u hu => h u (List.mem_cons_of_mem _ hu))
theorem rs_sorted {a : Addr} {S : Str → Bool} {n : Nat} {Q : Value → Shared → Prop} (R : RS P w s.heap a S n) (hh : A.handled = none) (h64 : n < 64)
    (hQ : ∀ s' p (out : Array Value) (c : Nat) (ys : List Str), (∀ b o, s.heap.get? b = some o → s'.heap.get? b = some o) → s'.gens = s.gens → s'.os = s.os → s.heap.objs.size ≤ p →
      s'.heap.get? p = some (seqObj "list" out c) → StrsAre out.toList ys → Asc ys → (∀ k, k ∈ ys ↔ S k = true) → ys.length ≤ n → Q (.ref p) s') :
    wpAny (model P w) A (call (.builtin "sorted") [.ref a]) Q E s := by
  obtain ⟨o, es, ep, t, ho, hex, hd, g, nd, hm, hb, hf, hn, hr, hl⟩ := R
  refine Calls.call_function_entry kind_sorted plain_sorted entry_sorted (args_sorted1 _) ?_
  unfold Builtin.«sorted»
  refine wpAny_bind (m := checkCount "sorted" 1 1 _) (wpAny_pure (wpAny_bind (collect_set (A := A.in1) hh ⟨o, ho, hex.1, hd⟩ hf hb hr hl fun s1 vs k1 hz g1 o1 pm => ?_)))
  have hvl : vs.length ≤ n := by rw [pm.length_eq, List.length_map, Array.length_toList]; exact hn
  have hv64 : vs.length < 64 := Nat.lt_of_le_of_lt hvl h64
  have hS : StrsAre vs (vs.map fun v => txtOf (0, v)) := texts_of vs fun v hv => by
    obtain ⟨e, he, q⟩ := List.mem_map.mp (pm.mem_iff.mp hv)
    obtain ⟨t, h1⟩ := el_shape g he
    exact ⟨_, t, q ▸ h1⟩
  have pk : (vs.map fun v => txtOf (0, v)).Perm (es.toList.map txtOf) := by
    have q := pm.map fun v => txtOf (0, v)
    rw [List.map_map] at q
    exact q
  refine wpAny_bind (wpAny_newList ?_ (by rw [sizeLine_eq]; omega))
  have hoL : (s1.heap.push (seqObj "list" vs.toArray 0)).get? s1.heap.objs.size = some (seqObj "list" vs.toArray 0) := Heap.get?_push_size _ rfl
  show wpAny _ _ _ _ _ { s1 with heap := s1.heap.push (seqObj "list" vs.toArray 0) }
  refine wpAny_bind (wpAny_holding (wpAny_call_entry slot_list_sort ⟨_, hoL, rfl⟩ entry_list_sort
    (list_sort_treeK strKind_oneLt (s := { s1 with heap := s1.heap.push (seqObj "list" vs.toArray 0) }) hoL hS.keysOf (fun v₁ v₂ rest e => keyKind_strs (by rw [← e]; exact hS)) hv64 fun st' hp hs => ⟨_, rfl, ?_⟩) (args_list_sort _)))
  obtain ⟨ys, q1, q2, q3⟩ := sorted_out_str hS hp hs
  obtain ⟨c, hc⟩ := sortedHeap_at (vs := vs) (out := (arrOf st').map (·.2)) hoL
  have pn : ys.Perm (es.toList.map txtOf) := q2.trans pk
  refine wpAny_pure ⟨_, rfl, hQ _ s1.heap.objs.size _ c ys (fun b u e => ?_) g1 o1 hz hc q1 (sorted_asc q3 (pn.nodup_iff.mpr nd)) (fun k => by rw [pn.mem_iff, ← hm k]) ?_⟩
  · have q := k1 b u e
    have hlt := Heap.lt_size q
    show (sortedHeap (s1.heap.push (seqObj "list" vs.toArray 0)) s1.heap.objs.size vs _).get? b = some u
    rw [sortedHeap_old (Nat.ne_of_lt hlt) (by rw [size_push']; exact Nat.lt_succ_of_lt hlt)]
    exact Heap.get?_push_of_some _ q
  · rw [pn.length_eq, List.length_map, Array.length_toList]; exact hn
end

/-! ### the two by the abstract heap -/
def TsO (P : Program) (w : World) (a : Addr) (S : Str → Bool) (n : Nat) : HO := .ext fun h => RS P w h a S n
theorem tsO_new {w : World} {P : Program} {H : Hp} {h : Heap} {a : Addr} {S : Str → Bool} {n : Nat} (R : RS P w h a S n) : ObjOk P w H h a (TsO P w a S n) :=
  ⟨R, let ⟨o, _, _, _, ho, _⟩ := R; ⟨o, ho⟩, fun _ _ p k => RS.moved p k⟩
section
variable {X : Cx}
theorem tsO_get {pins : List (Addr × Obj)} {σ : L2.St} {H : Hp} {s : Shared} {a : Addr} {S : Str → Bool} {n : Nat} (I : Inv X pins σ H s) (ha : H a = some (TsO X.prog X.w a S n)) : RS X.prog X.w s.heap a S n := (I.hok a _ ha).1
def rSetT (K : PySem.W.Frag) (P : Program) (w : World) : List V → Hp → VK → Prop := fun xs H Q => ∃ (a : Addr) (zs : List Str), xs = [.ref a] ∧ SqL K H a (zs.map V.str) ∧ zs.length + 1 < scanBound ∧ ∀ p, H p = none → Q (.ref p) (upd H p (TsO P w p (memB zs) zs.length))
theorem cr_setT (hc : X.calm = true) : CallR X (.type "set") (rSetT X.K X.prog X.w) := by
  intro pins s σ H xs us Q I r h
  obtain ⟨a, zs, rfl, hq, hz, q⟩ := h
  rw [Vals.ref1 r]
  obtain ⟨its, rv, pl, _⟩ := I.list hq
  have hS : StrsAre its zs := rv.strs
  have hl : its.length = zs.length := by
    have e := rv.length
    rw [List.length_map] at e
    exact e.symm
  refine set_of_list (I.ok.hd hc) pl.isList (by simpa using hS) (by rw [List.size_toArray, hl]; exact hz) fun h' tk R hk => ?_
  have ez : its.toArray.size = zs.length := (List.size_toArray ..).trans hl
  rw [ez] at R
  exact ⟨.ref _, upd H s.heap.objs.size (TsO X.prog X.w s.heap.objs.size (memB zs) zs.length), I.laid (t' := tk) (fun b u e => hk b u (Heap.lt_size e) e) (Nat.le_refl _) (tsO_new R), rfl, q _ (I.hok.fresh (Nat.le_refl _))⟩
def rSrtT (P : Program) (w : World) : List V → Hp → VK → Prop := fun vs H Q => ∃ (a : Addr) (S : Str → Bool) (n : Nat), vs = [.ref a] ∧ H a = some (TsO P w a S n) ∧ n < 64 ∧
  ∀ (ys : List Str) (p : Addr), Asc ys → (∀ k, k ∈ ys ↔ S k = true) → ys.length ≤ n → H p = none → Q (.ref p) (upd H p (.lst (ys.map V.str)))
theorem cr_srtT (hc : X.calm = true) : CallR X (.builtin "sorted") (rSrtT X.prog X.w) := by
  intro pins s σ H vs us Q I r h
  obtain ⟨a, S, n, rfl, ha, h64, q⟩ := h
  rw [Vals.ref1 r]
  refine rs_sorted (tsO_get I ha) (I.ok.hd hc) h64 fun s' p out c ys k g o hp hg hi hs hm hl => ?_
  have hlen : (ys.map V.str).length ≤ sizeLine := by rw [List.length_map, sizeLine_eq]; omega
  have hn : H p = none := I.hok.fresh hp
  have J : Inv X pins σ (upd H p (.lst (ys.map V.str))) { s with heap := s'.heap, gens := s'.gens, drawn := s'.drawn, toks := s'.toks } :=
    I.call (ch := []) (Un.laid k hp hn) (I.hok.laid k hp ⟨hlen, out.toList, c, vals_of_strs hi, by rw [Array.toArray_toList]; exact hg⟩) (by rw [g]; exact I.bare) (fun _ z => nomatch z)
  have e : s' = { s with heap := s'.heap, gens := s'.gens, drawn := s'.drawn, toks := s'.toks } := by
    cases s'
    cases s
    cases o
    rfl
  rw [e]
  exact ⟨.ref p, _, J, rfl, q ys p hs hm hl hn⟩
end
/-- sorted(set(xs)), xs texts -/
def fSortSet (g : FA) : FE := fun Γ M k kx => g Γ M (fun ds M1 => ∃ xs : List Str, ds = [.lst (xs.map .str)] ∧ xs.length < 64 ∧ ∀ ys, Asc ys → (∀ x, x ∈ ys ↔ x ∈ xs) → k (.lst (ys.map .str)) M1) kx
section
variable {X : Cx} {E : XK} {e : Expr} {g : FA} {p p2 pos pos2 : Pos}
theorem c_sortedSet (hc : X.calm = true) (hg : Gl X "sorted") (hg2 : Gl X "set") (hm : X.mg "sorted" = none) (hm2 : X.mg "set" = none) (ha : DA X E [e] g)
    (he : starEach [e] X.env = (false, eval e X.env) :: starEach [] X.env := by rfl) (he2 : starEach [.Call (.Name "set" p2) [e] [] pos2] X.env = (false, eval (.Call (.Name "set" p2) [e] [] pos2) X.env) :: starEach [] X.env := by rfl) :
    DE X E (.Call (.Name "sorted" p) [.Call (.Name "set" p2) [e] [] pos2] [] pos) (fSortSet g) :=
  pe_w (pe_callB (cr_srtT hc) hg hm (by decide +kernel) (pa_cons (pe_callTy (cr_setT hc) hg2 hm2 (by decide +kernel) ha (by decide) (by decide) he) pa_nil he2) (by decide) (by decide) he2) fun σ H Q h => by
    obtain ⟨F, Γ, M, k, kx, R, q, LX, L⟩ := h
    refine ⟨F, Γ, M, _, kx, R, q, LX, fun ds M1 vs H1 hx g1 R1 i1 => ?_⟩
    obtain ⟨xs, rfl, h64, hx⟩ := hx
    cases i1 with
    | cons v1 i1 =>
      cases i1
      obtain ⟨a, us, rfl, n, ha, hv⟩ := v1.to_lst
      obtain rfl := IsVs.of_strs hv
      have hsb : xs.length + 1 < scanBound := by have : (64 : Nat) < scanBound := by decide
                                                 omega
      refine ⟨a, xs, rfl, SqL.of ha, hsb, fun p hp => ?_⟩
      refine ⟨p, memB xs, xs.length, rfl, upd_same, h64, fun ys p' hs hm hl hp' => ?_⟩
      have R2 : RepM X.K F (upd H1 p (TsO X.prog X.w p (memB xs) xs.length)) M1 := R1.new hp
      have G := g1.trans (Go.new (K := X.K) (F := F) (M := M1) (o := TsO X.prog X.w p (memB xs) xs.length) hp)
      exact new_lst (L.go G) R2 (hx ys hs fun x => (hm x).trans (by simp [memB])) (IsVs.strs ys) p' hp'
/-- {} -/
theorem de_dct0 : DE X E (.Dict [] [] pos) (fC (.dct [])) := pe_w pe_dnewK fun σ H Q h => by
  obtain ⟨F, Γ, M, k, kx, R, q, LX, L⟩ := h
  exact fun p hp => L.new R.mem q hp fun n kp => .dct n (.inl upd_same) .nil
/-- zip(xs, ys), two lists -/
def fZip (g : FA) : FA := fun Γ M k kx => g Γ M (fun ds M1 => ∃ xs ys, ds = [.lst xs, .lst ys] ∧ k ((xs.zip ys).map fun p => .tup [p.1, p.2]) M1) kx
theorem itD_zip {K : PySem.W.Frag} {F : Addr → Prop} {H0 : Hp} {M0 : MS} {a b : Addr} {vs ws : List V} {ds es : List D} (ha : ¬ dm F M0 a) (ha1 : H0 a = some (.lst vs)) (hv : IsVs K (dm F M0) H0 vs ds) (hb : ¬ dm F M0 b) (hb1 : H0 b = some (.lst ws)) (hw : IsVs K (dm F M0) H0 ws es) :
    ItD K F H0 M0 (Itz K a b) ((ds.zip es).map fun p => .tup [p.1, p.2]) := by
  have at1 : ∀ (F' : Addr → Prop) H M, (∀ a, F' a → F a ∨ H0 a = none) → Go H0 M0 H M → SqL K H a vs ∧ SqL K H b ws := fun F' H M hF g => ⟨SqL.of (kpF g hF a _ ha ha1).2, SqL.of (kpF g hF b _ hb hb1).2⟩
  have hlen : ((ds.zip es).map fun p => D.tup [p.1, p.2]).length = min ds.length es.length := by rw [List.length_map, List.length_zip]
  refine ⟨fun F' i H M hF g R hi => ?_, fun F' i H M x H' hF g R hi y => ?_, fun F' H M hF g R => ?_⟩
  · rw [hlen] at hi
    obtain ⟨v, e, _⟩ := hv.get (List.getElem?_eq_getElem (show i < ds.length by omega))
    obtain ⟨u, e2, _⟩ := hw.get (List.getElem?_eq_getElem (show i < es.length by omega))
    exact ⟨vs, ws, v, u, (at1 F' H M hF g).1, (at1 F' H M hF g).2, e, e2⟩
  · obtain ⟨T, v, u, rfl, hT, rfl, q1, q2⟩ := y
    obtain ⟨d, e1, h1⟩ := hv.getV (q1 vs (at1 F' _ M hF g).1)
    obtain ⟨d2, e2, h2⟩ := hw.getV (q2 ws (at1 F' _ M hF g).2)
    have kp := kpF g hF
    have g2 : Go H M (upd H T (.tup [v, u])) M := Go.new (K := K) (F := F') hT
    have n := R.fresh hT
    have kp2 : Kp (dm F' M) (dm F' M) H (upd H T (.tup [v, u])) := g2.to_kp
    refine ⟨.tup [d, d2], ?_, g2, R.new hT, .tup (.inl ⟨n, .inl upd_same⟩) (.cons (IsV.kp kp2 _ _ (IsV.kp kp _ _ h1)) (.cons (IsV.kp kp2 _ _ (IsV.kp kp _ _ h2)) .nil))⟩
    rw [List.getElem?_map, (List.getElem?_zip_eq_some (z := (d, d2))).mpr ⟨e1, e2⟩]
    rfl
  · refine ⟨vs, ws, (at1 F' H M hF g).1, (at1 F' H M hF g).2, ?_⟩
    rw [hlen, hv.length, hw.length]
    omega
theorem di_zip {elts : List Expr} {kk : Nat} {tpos : Pos} {e2 : Expr} (hg : Gl X "zip") (hm : X.mg "zip" = none) (ha : DA X E [e, e2] g)
    (hs : starEach [e, e2] X.env = (false, eval e X.env) :: starEach [e2] X.env := by rfl) (hpl : (backTo pos (starEach [e2] X.env)).any (·.1) = false := by rfl) :
    DI X E (.Tuple elts kk tpos) (.Call (.Name "zip" p) [e, e2] [] pos) (fZip g) :=
  pi_w (pi_zip hg hm ha hs hpl) fun σ H R hh => by
    obtain ⟨F, Γ, M, k, kx, Rp, q, LX, L⟩ := hh
    refine ⟨F, Γ, M, _, kx, Rp, q, LX, fun x M1 v H1 hx g1 R1 i1 => ?_⟩
    obtain ⟨xs, ys, rfl, hx⟩ := hx
    cases i1 with
    | cons v1 i1 =>
      cases i1 with
      | cons v2 i1 =>
        cases i1
        obtain ⟨a, vs, rfl, n, ha, hv⟩ := v1.to_lst
        obtain ⟨b, ws, rfl, m, hb, hw⟩ := v2.to_lst
        exact ⟨a, b, vs, ws, rfl, SqL.of ha, SqL.of hb, L _ M1 _ H1 hx g1 R1 (itD_zip n ha hv m hb hw)⟩
end
end Dl

set_option Elab.async false
set_option linter.all false
set_option maxRecDepth 100000
set_option maxHeartbeats 4000000
/-! D10: the cell of what draws, by a bound; the transformers, applied (for simp). -/
namespace Dl
open PySem PySem.Spec PyProof.Rows L2

theorem ite_b {b : Bool} {c a : Prop} (h1 : b = true → c) (h2 : b = false → a) : (if b = true then c else a) := by
  cases b with
  | true => rw [if_pos rfl]; exact h1 rfl
  | false => rw [if_neg (by decide)]; exact h2 rfl
/-- behind B, what draws at p has begun at most b cells -/
def Dr (B : MS) (p : Addr) (ns : List Int) (b : Nat) (M : MS) : Prop := ∃ n, n ≤ b ∧ M = upM B p (.pen ns n)
section
variable {B : MS} {p : Addr} {ns : List Int} {b c : Nat} {M : MS}
theorem Dr.le (h : Dr B p ns b M) (hc : b ≤ c) : Dr B p ns c M := h.imp fun n z => ⟨Nat.le_trans z.1 hc, z.2⟩
theorem Dr.at (h : Dr B p ns b M) : ∃ n, n ≤ b ∧ M p = some (.pen ns n) ∧ ∀ m, upM M p (.pen ns m) = upM B p (.pen ns m) := by
  obtain ⟨n, h1, rfl⟩ := h
  exact ⟨n, h1, upM_same, fun m => upM_upM⟩
end
theorem len2 {α : Type} : ∀ {xs : List α}, xs.length = 2 → ∃ x y, xs = [x, y]
  | [x, y], _ => ⟨x, y, rfl⟩
theorem atI_at {α : Type} {xs : List α} {i : Int} (h0 : 0 ≤ i) (h1 : i < xs.length) : L2.atI xs i = some (xs[i.toNat]'(by omega)) := by
  unfold L2.atI ixN
  rw [if_pos h0, if_pos h1]
  exact List.getElem?_eq_getElem _

theorem atI_mem {α : Type} {xs : List α} {i : Int} (h0 : 0 ≤ i) (h1 : i < xs.length) : ∃ d, L2.atI xs i = some d ∧ d ∈ xs := ⟨_, atI_at h0 h1, List.getElem_mem _⟩
/-- LcD_rel, with the number of turns known -/
theorem LcD_relN {g : FG} {te : FE} {Γ : GE} {k : List D → MS → Prop} {R : D → Prop} {J : Nat → MS → Prop} {N : Nat} : ∀ (xs acc : List D) (n : Nat) (M : MS), acc.length + xs.length ≤ sizeLine → n + xs.length = N → J n M → (∀ y ∈ acc, R y) →
    (∀ x ∈ xs, ∀ (m : Nat) (M : MS) (k' : D → MS → Prop), m < N → J m M → (∀ y M1, R y → J (m + 1) M1 → k' y M1) → g x Γ fun Γ1 => te Γ1 M k' noX) →
    (∀ (ys : List D) (M1 : MS), ys.length = acc.length + xs.length → (∀ y ∈ ys, R y) → J N M1 → k ys M1) → LcD g fYes te Γ k xs acc M
  | [], acc, n, M, _, hN, hj, hr, _, hk => hk acc M rfl hr ((show n = N from hN) ▸ hj)
  | x :: xs, acc, n, M, hl, hN, hj, hr, h, hk => by
    rw [List.length_cons] at hl hk hN
    refine h x List.mem_cons_self n M _ (by omega) hj fun y M1 hy h1 => ⟨by omega, ?_⟩
    refine LcD_relN xs (acc ++ [y]) (n + 1) M1 (by rw [List.length_append]; show acc.length + 1 + xs.length ≤ _; omega) (by omega) h1 (fun z hz => ?_) (fun z hz => h z (List.mem_cons_of_mem _ hz)) fun ys M2 e hr2 h2 => ?_
    · rcases List.mem_append.mp hz with hz | hz
      · exact hr z hz
      · rw [List.mem_singleton.mp hz]; exact hy
    · refine hk ys M2 ?_ hr2 h2
      rw [e, List.length_append]
      show acc.length + 1 + xs.length = _
      omega
section
variable {Γ : GE} {M : MS} {k : KD} {kx : KX} {N : Nd} {kt : Bool → MS → Prop} {ka : List D → MS → Prop} {ko : Option Int → MS → Prop}
theorem ap_var {i : Nat} : fVar i Γ M k kx = ∃ d, Γ[i]? = some (some d) ∧ k d M := rfl
theorem ap_C {d : D} : fC d Γ M k kx = k d M := rfl
theorem ap_op {g : F2} {fa fb : FE} : fOp g fa fb Γ M k kx = fa Γ M (fun x M1 => fb Γ M1 (fun y M2 => g x y M2 k) kx) kx := rfl
theorem ap_un {g : F1} {fa : FE} : fUn g fa Γ M k kx = fa Γ M (fun x M1 => g x M1 k) kx := rfl
theorem ap_cb {g : FN} {fa : FA} : fCB g fa Γ M k kx = fa Γ M (fun ds M1 => g ds M1 k) kx := rfl
theorem ap_test {f : FE} : fTest f Γ M kt kx = f Γ M (fun d M1 => ∃ b, d = .bl b ∧ kt b M1) kx := rfl
theorem ap_chain {g g' : F2} {fa fb fc : FE} : fChain g g' fa fb fc Γ M k kx = fa Γ M (fun x M1 => fb Γ M1 (fun y M2 => g x y M2 fun z M3 => ∃ b, z = .bl b ∧ if b = true then fc Γ M3 (fun w M4 => g' y w M4 k) kx else k (.bl false) M3) kx) kx := rfl
theorem ap_and {f g : FT} : fAnd f g Γ M kt kx = f Γ M (fun b M1 => if b = true then g Γ M1 kt kx else kt false M1) kx := rfl
theorem ap_or {f g : FT} : fOr f g Γ M kt kx = f Γ M (fun b M1 => if b = true then kt true M1 else g Γ M1 kt kx) kx := rfl
theorem ap_not {f : FT} : fNot f Γ M kt kx = f Γ M (fun b M1 => kt (!b) M1) kx := rfl
theorem ap_andV {f g : FE} : fAndV f g Γ M k kx = f Γ M (fun x M1 => ∃ b, x = .bl b ∧ if b = true then g Γ M1 k kx else k (.bl false) M1) kx := rfl
theorem ap_orV {f g : FE} : fOrV f g Γ M k kx = f Γ M (fun x M1 => ∃ b, x = .bl b ∧ if b = true then k (.bl true) M1 else g Γ M1 k kx) kx := rfl
theorem ap_notV {f : FE} : fNotV f Γ M k kx = f Γ M (fun x M1 => ∃ b, x = .bl b ∧ k (.bl (!b)) M1) kx := rfl
theorem ap_if {f : FT} {g h : FE} : fIf f g h Γ M k kx = f Γ M (fun b M1 => if b = true then g Γ M1 k kx else h Γ M1 k kx) kx := rfl
theorem ap_nil : fNil Γ M ka kx = ka [] M := rfl
theorem ap_cons {f : FE} {g : FA} : fCons f g Γ M ka kx = f Γ M (fun x M1 => g Γ M1 (fun xs M2 => ka (x :: xs) M2) kx) kx := rfl
theorem ap_lst {g : FA} : fLst g Γ M k kx = g Γ M (fun ds M1 => ds.length ≤ sizeLine ∧ k (.lst ds) M1) kx := rfl
theorem ap_tup {g : FA} : fTup g Γ M k kx = g Γ M (fun ds M1 => ds.length ≤ sizeLine ∧ k (.tup ds) M1) kx := rfl
theorem ap_noP : fNoP Γ M ko kx = ko none M := rfl
theorem ap_part {f : FE} : fPart f Γ M ko kx = f Γ M (fun x M1 => ∃ i, x = .int i ∧ ko (some i) M1) kx := rfl
theorem ap_sl {g : D → Option Int → Option Int → MS → KD → Prop} {f : FE} {l h : FO} : fSl g f l h Γ M k kx = f Γ M (fun x M1 => l Γ M1 (fun lo M2 => h Γ M2 (fun hi M3 => g x lo hi M3 k) kx) kx) kx := rfl
theorem ap_next : fNext N Γ M = N.nx Γ M := rfl
theorem ap_seq {f g : FS} : fSeq f g N Γ M = f { N with nx := g N } Γ M := rfl
theorem ap_ret {f : FE} : fRet f N Γ M = f Γ M N.rt N.ex := rfl
theorem ap_set {i : Nat} {f : FE} : fSet i f N Γ M = f Γ M (fun d M1 => N.nx (Γ.set i (some d)) M1) N.ex := rfl
theorem ap_drop {f : FE} : fDrop f N Γ M = f Γ M (fun _ M1 => N.nx Γ M1) N.ex := rfl
theorem ap_asg {g : FG} {f : FE} : fAsg g f N Γ M = f Γ M (fun d M1 => g d Γ fun Γ1 => N.nx Γ1 M1) N.ex := rfl
theorem ap_par {i j : Nat} {g : FA} : fPar i j g N Γ M = g Γ M (fun ds M1 => ∃ c d, ds = [c, d] ∧ N.nx ((Γ.set i (some c)).set j (some d)) M1) N.ex := rfl
theorem ap_nm {i : Nat} {d : D} {kg : GE → Prop} : gNm i d Γ kg = kg (Γ.set i (some d)) := rfl
theorem ap_no {kg : GE → Prop} : gNo [] Γ kg = kg Γ := propext ⟨fun h => h.2, fun h => ⟨rfl, h⟩⟩
theorem ap_cn {g : FG} {gs : FGs} {d : D} {ds : List D} {kg : GE → Prop} : gCn g gs (d :: ds) Γ kg = g d Γ fun Γ1 => gs ds Γ1 kg := propext ⟨fun ⟨_, _, e, h⟩ => by cases e; exact h, fun h => ⟨_, _, rfl, h⟩⟩
theorem ap_tp {n : Nat} {gs : FGs} {ds : List D} {kg : GE → Prop} : gTp n gs (.tup ds) Γ kg = (ds.length = n ∧ gs ds Γ kg) := propext ⟨fun ⟨_, e, h⟩ => by cases e; exact h, fun h => ⟨_, rfl, h⟩⟩
theorem ap_itL {f : FE} : fItL f Γ M ka kx = f Γ M (fun x M1 => ∃ ds, x = .lst ds ∧ ka ds M1) kx := rfl
theorem ap_itZ {f : FE} : fItZ f Γ M ka kx = f Γ M (fun x M1 => ∃ ns : List Int, x = .scr ns ∧ ka (ns.map .int) M1) kx := rfl
theorem ap_itT {f : FE} : fItT f Γ M ka kx = f Γ M (fun x M1 => ∃ ds, x = .tup ds ∧ ka ds M1) kx := rfl
theorem ap_itS {f : FE} : fItS f Γ M ka kx = f Γ M (fun x M1 => ∃ z : Str, x = .str z ∧ ka (z.cps.toList.map fun c => .str ⟨#[c]⟩) M1) kx := rfl
theorem ap_rng1 {g : FA} : fRng1 g Γ M ka kx = g Γ M (fun ds M1 => ∃ j : Int, ds = [.int j] ∧ -(2 ^ 62) ≤ j ∧ j < 2 ^ 62 ∧ ka (rngD 0 j.toNat) M1) kx := rfl
theorem ap_zip {g : FA} : fZip g Γ M ka kx = g Γ M (fun ds M1 => ∃ xs ys, ds = [.lst xs, .lst ys] ∧ ka ((xs.zip ys).map fun p => .tup [p.1, p.2]) M1) kx := rfl
theorem ap_lc {fi : FA} {g : FG} {tt : FT} {te : FE} {vs : List Nat} : fLc fi g tt te vs Γ M k kx = fi Γ M (fun xs M1 => LcD g tt te (wipeG Γ vs) (fun ds M2 => k (.lst ds) M2) xs [] M1) kx := rfl
theorem ap_for {fi : FA} {g : FG} {fb : FS} : fFor fi g fb N Γ M = fi Γ M (fun xs M1 => ForD g fb N xs Γ M1) N.ex := rfl
theorem ap_yes : fYes Γ M kt kx = kt true M := rfl
theorem ap_call {pf : FN} {dds : List D} {g : FA} : fCall pf dds g Γ M k kx = g Γ M (fun ds M1 => pf (ds ++ dds) M1 k) kx := rfl
theorem ap_callK {pf : FN} {gD : List D → List D} {g : FA} : fCallK0 pf gD g Γ M k kx = g Γ M (fun ds M1 => pf (gD ds) M1 k) kx := rfl
theorem ap_join {f g : FE} : gJoin f g Γ M k kx = f Γ M (fun x M1 => ∃ a, x = .str a ∧ g Γ M1 (fun y M2 => ∃ ys : List Str, (y = .lst (ys.map .str) ∨ y = .tup (ys.map .str)) ∧ (ys.map (·.length)).sum + ys.length * a.length ≤ 16777216 ∧ k (.str (Txt.join a ys)) M2) kx) kx := rfl
theorem ap_pen {g : FA} : fPen g Γ M k kx = g Γ M (fun ds M1 => ∃ ns : List Int, ds = [.lst (ns.map .int), .int 0, .int 0] ∧ ∀ p, M1 p = none → k (.ref p) (upM M1 p (.pen ns 0))) kx := rfl
theorem ap_penSet {fe fo fi : FE} : fPenSet fe fo fi N Γ M = fe Γ M (fun x M1 => fo Γ M1 (fun o M2 => fi Γ M2 (fun i M3 => setP o i x M3 fun M4 => N.nx Γ M4) N.ex) N.ex) N.ex := rfl
theorem ap_sortSet {g : FA} : fSortSet g Γ M k kx = g Γ M (fun ds M1 => ∃ xs : List Str, ds = [.lst (xs.map .str)] ∧ xs.length < 64 ∧ ∀ ys, Asc ys → (∀ x, x ∈ ys ↔ x ∈ xs) → k (.lst (ys.map .str)) M1) kx := rfl
-- the operations
theorem ap_eq {x y : D} : oEq x y M k = (eqOk x = true ∧ eqOk y = true ∧ k (.bl (eqD x y)) M) := rfl
theorem ap_ne {x y : D} : oNe x y M k = (eqOk x = true ∧ eqOk y = true ∧ k (.bl (!eqD x y)) M) := rfl
theorem ap_isi {d : D} {n : String} : gIsi [d, .ty n] M k = (isTok n d = true ∧ k (.bl (isT n d)) M) := by
  apply propext
  constructor
  · rintro ⟨_, _, e, h⟩
    cases e
    exact h
  · exact fun h => ⟨_, _, rfl, h⟩
theorem ap_repr {d : D} : gRepr [d] M k = (shownOk d ∧ k (.str (toPy d).shown) M) := by
  apply propext
  constructor
  · rintro ⟨_, e, h⟩
    cases e
    exact h
  · exact fun h => ⟨_, rfl, h⟩
theorem ap_all {ds : List D} : gAll ds M k = ∃ bs : List Bool, ds = [.lst (bs.map .bl)] ∧ k (.bl (bs.all id)) M := rfl
theorem ap_I {C : Int → Int → Prop} {r : Int → Int → D} {i j : Int} : o2I C r (.int i) (.int j) M k = (C i j ∧ k (r i j) M) := rfl
theorem ap_1I {r : Int → D} {i : Int} : o1I r (.int i) M k = k (r i) M := rfl
theorem ap_addI {i j : Int} : oAdd (.int i) (.int j) M k = k (.int (i + j)) M := rfl
theorem ap_addS {i j : Str} : oAdd (.str i) (.str j) M k = (i.length + j.length ≤ sizeLine ∧ k (.str (i ++ j)) M) := rfl
theorem ap_addL {a b : List D} : oAdd (.lst a) (.lst b) M k = (a.length + b.length ≤ sizeLine ∧ k (.lst (a ++ b)) M) := rfl
theorem ap_ltI {i j : Int} : oLt (.int i) (.int j) M k = k (.bl (decide (i < j))) M := rfl
theorem ap_ltS {i j : Str} : oLt (.str i) (.str j) M k = k (.bl (ltS i j)) M := by
  rw [← ltS_dec]
  rfl
theorem ap_lenS {s : Str} : gLen [.str s] M k = (s.length ≤ sizeLine ∧ k (.int s.length) M) := rfl
theorem ap_lenL {xs : List D} : gLen [.lst xs] M k = k (.int xs.length) M := rfl
theorem ap_lenT {xs : List D} : gLen [.tup xs] M k = k (.int xs.length) M := rfl
theorem ap_lenZ {ns : List Int} : gLen [.scr ns] M k = k (.int ns.length) M := rfl
theorem ap_ixL {ds : List D} {i : Int} : oIx (.lst ds) (.int i) M k = ∃ d, L2.atI ds i = some d ∧ k d M := rfl
theorem ap_ixT {ds : List D} {i : Int} : oIx (.tup ds) (.int i) M k = ∃ d, L2.atI ds i = some d ∧ k d M := rfl
theorem ap_ixS {s : Str} {i : Int} : oIx (.str s) (.int i) M k = (s.length ≤ sizeLine ∧ ∃ c, L2.atI s.cps.toList i = some c ∧ k (.str ⟨#[c]⟩) M) := rfl
theorem ap_slL {ds : List D} {lo hi : Option Int} : sCut (.lst ds) lo hi M k = k (.lst (cutD ds lo hi)) M := rfl
theorem ap_slZ {ns : List Int} {lo hi : Option Int} : sCut (.scr ns) lo hi M k = k (.lst ((cutD ns lo hi).map .int)) M := rfl
theorem ap_slS {z : Str} {lo hi : Option Int} : sCut (.str z) lo hi M k = (z.length ≤ sizeLine ∧ k (.str (cutS z lo hi)) M) := rfl
theorem ap_abs {i : Int} : gAbs [.int i] M k = k (.int (if i < 0 then -i else i)) M := rfl
theorem ap_int {i : Int} : gInt [.int i] M k = k (.int i) M := rfl
theorem ap_listL {xs : List D} : gList [.lst xs] M k = k (.lst xs) M := rfl
theorem ap_listT {xs : List D} : gList [.tup xs] M k = k (.lst xs) M := rfl
theorem ap_listZ {ns : List Int} : gList [.scr ns] M k = k (.lst (ns.map .int)) M := rfl
theorem ap_listS {z : Str} : gList [.str z] M k = (z.length ≤ sizeLine ∧ k (.lst (z.cps.toList.map fun c => .str ⟨#[c]⟩)) M) := rfl
theorem ap_tupL {xs : List D} : gTuple [.lst xs] M k = k (.tup xs) M := rfl
theorem ap_tupT {xs : List D} : gTuple [.tup xs] M k = k (.tup xs) M := rfl
theorem ap_inL {neg : Bool} {x : D} {ds : List D} : oIn neg x (.lst ds) M k = (flatD x = true ∧ ds.all flatD = true ∧ k (.bl (if neg then !inD x ds else inD x ds)) M) := rfl
theorem ap_inS {neg : Bool} {z : Str} {c : Nat} : oIn neg (.str ⟨#[c]⟩) (.str z) M k = k (.bl (if neg then !decide (c ∈ z.cps.toList) else decide (c ∈ z.cps.toList))) M := by
  apply propext
  constructor
  · rintro ⟨_, e, h⟩
    cases e
    exact h
  · exact fun h => ⟨_, rfl, h⟩
section
variable {p : Addr} {ns : List Int} {n : Nat}
theorem rd_ix0 (hp : M p = some (.pen ns n)) : oIx (.ref p) (.int 0) M k = k (.lst (ns.map .int)) M := by
  apply propext
  constructor
  · rintro ⟨ns', n', e, h⟩
    rw [hp] at e
    cases e
    rcases h with ⟨_, h⟩ | ⟨e, _⟩ | ⟨e, _⟩
    · exact h
    · exact absurd e (by decide)
    · exact absurd e (by decide)
  · exact fun h => ⟨ns, n, hp, .inl ⟨rfl, h⟩⟩
theorem rd_ix1 (hp : M p = some (.pen ns n)) : oIx (.ref p) (.int 1) M k = ∀ t : Int, 0 ≤ t → t ≤ (n : Int) → k (.int t) M := by
  apply propext
  constructor
  · rintro ⟨ns', n', e, h⟩
    rw [hp] at e
    cases e
    rcases h with ⟨e, _⟩ | ⟨_, h⟩ | ⟨e, _⟩
    · exact absurd e (by decide)
    · exact h
    · exact absurd e (by decide)
  · exact fun h => ⟨ns, n, hp, .inr (.inl ⟨rfl, h⟩)⟩
theorem rd_ix2 (hp : M p = some (.pen ns n)) : oIx (.ref p) (.int 2) M k = ∀ r : Int, 0 ≤ r → k (.int r) M := by
  apply propext
  constructor
  · rintro ⟨ns', n', e, h⟩
    rw [hp] at e
    cases e
    rcases h with ⟨e, _⟩ | ⟨e, _⟩ | ⟨_, h⟩
    · exact absurd e (by decide)
    · exact absurd e (by decide)
    · exact h
  · exact fun h => ⟨ns, n, hp, .inr (.inr ⟨rfl, h⟩)⟩
theorem wr_1 {n' : Nat} {t : Int} {km : MS → Prop} (hp : M p = some (.pen ns n)) (hn : n ≤ n') (h0 : 0 ≤ t) (h1 : t ≤ (n' : Int)) (h : km (upM M p (.pen ns n'))) : setP (.ref p) (.int 1) (.int t) M km :=
  ⟨p, ns, n, n', rfl, hp, hn, .inl ⟨rfl, t, rfl, h0, h1, h⟩⟩
theorem wr_2 {n' : Nat} {t : Int} {km : MS → Prop} (hp : M p = some (.pen ns n)) (hn : n ≤ n') (h0 : 0 ≤ t) (h : km (upM M p (.pen ns n'))) : setP (.ref p) (.int 2) (.int t) M km :=
  ⟨p, ns, n, n', rfl, hp, hn, .inr ⟨rfl, t, rfl, h0, h⟩⟩
end
-- statements whose parts change nothing
variable {c : FT} {a b : FS} {f : FE} {g : FS} {i : Nat} {d : D} {v : Bool}
theorem do_next {nx : GE → MS → Prop} {rt : KD} {bk ct : GE → MS → Prop} {ex : KX} (h : nx Γ M) : fNext ⟨nx, rt, bk, ct, ex⟩ Γ M := h
theorem do_ret (hf : ∀ (k : KD) (kx : KX), k d M → f Γ M k kx) (h : N.rt d M) : fRet f N Γ M := hf _ _ h
theorem do_set (hf : ∀ (k : KD) (kx : KX), k d M → f Γ M k kx) (h : N.nx (Γ.set i (some d)) M) : fSet i f N Γ M := hf _ _ h
theorem do_setQ (Q : D → Prop) (hf : ∃ d, Q d ∧ ∀ (k : KD) (kx : KX), k d M → f Γ M k kx) (h : ∀ d, Q d → N.nx (Γ.set i (some d)) M) : fSet i f N Γ M :=
  let ⟨d, hd, hf⟩ := hf; hf _ _ (h d hd)
theorem do_seqQ {f' : FS} (Q : GE → MS → Prop) (h1 : ∀ nx : GE → MS → Prop, (∀ Γ' M', Q Γ' M' → nx Γ' M') → f' { N with nx := nx } Γ M) (h2 : ∀ Γ' M', Q Γ' M' → g N Γ' M') : fSeq f' g N Γ M := h1 _ h2
theorem do_if (hc : ∀ (k : Bool → MS → Prop) (kx : KX), k v M → c Γ M k kx) (h1 : v = true → a N Γ M) (h2 : v = false → b N Γ M) : fIfS c a b N Γ M := by
  refine hc _ _ ?_
  exact ite_b h1 h2
end
end Dl

set_option Elab.async false
set_option linter.all false
set_option maxRecDepth 100000
set_option maxHeartbeats 4000000
/-! D11: a def of one parameter, called by its name. -/
namespace Dl
open PySem PySem.Spec PyProof.Rows L2
section
variable {K : PySem.W.Frag} {x qual p : Str} {params : Arguments} {body : List Stmt} {scope : Scope} {kws : List (Str × V)} {f : Addr} {fd : FuncData}
theorem bindsW (F : FunD K x qual params body scope [] kws f fd) {args : Args} {l : List (Str × Value)} (h : ∀ (kV doc pm : Value) (an : Option Addr) (cdv ct : Value), bindArgs (PySem.W.fnOf x qual params body scope .none kV doc pm an cdv ct) args = pure l) (s : Shared) : BindsTo s fd args l := by
  obtain ⟨oc, od, dV, kV, doc, pm, an, cdv, ct, osl, rfl, lk, hcd, hD, hK⟩ := F.ex
  rcases hD with ⟨_, rfl⟩ | ⟨e, _⟩
  · exact .of_eq (h kV doc pm an cdv ct)
  · exact absurd rfl e
theorem kb1 (F : FunD K x qual params body scope [] kws f fd) (h1 : ∀ (kV doc pm : Value) (an : Option Addr) (cdv ct u : Value), bindArgs (PySem.W.fnOf x qual params body scope .none kV doc pm an cdv ct) ⟨[u], []⟩ = pure [(p, u)])
    (h2 : ∀ (kV doc pm : Value) (an : Option Addr) (cdv ct u : Value), bindArgs (PySem.W.fnOf x qual params body scope .none kV doc pm an cdv ct) ⟨[], [(p, u)]⟩ = pure [(p, u)]) : KBinds K fd [p] [p] (fun us ws => us ++ ws) (fun vs zs => vs ++ zs) := by
  refine ⟨fun s us ws _ hl => ?_, fun r1 r2 => r1.append r2⟩
  match us, ws, hl with
  | [], [u], _ => exact bindsW F (fun a b c d e g => h2 a b c d e g u) s
  | [u], [], _ => exact bindsW F (fun a b c d e g => h1 a b c d e g u) s
  | [], [], hl => cases hl
  | [], _ :: _ :: _, hl => cases hl
  | [_], _ :: _, hl => cases hl
  | _ :: _ :: _, _, hl => cases hl
end
end Dl

set_option Elab.async false
set_option linter.all false
set_option maxRecDepth 100000
set_option maxHeartbeats 4000000
namespace Loneboard_k01_checks_of_any_values
open PySem PySem.Spec PyProof.Rows L2 Dl
def topS (i : Nat) : Stmt := PySem.Challenge.pw_oneboard_k01_checks_of_any_values.main.body.getD i (.Pass ⟨0, 0, 0, 0⟩)
abbrev s_is_integer : Stmt := topS 3
abbrev N_is_integer : List Str := ["value"]
theorem sc_is_integer : FnScope N_is_integer ["value"] (defScope s_is_integer) := ⟨rfl, rfl, rfl, by decide +kernel, rfl, by decide +kernel, by decide +kernel⟩
abbrev s_is_name : Stmt := topS 4
abbrev N_is_name : List Str := ["value", "letter"]
theorem sc_is_name : FnScope N_is_name ["value"] (defScope s_is_name) := ⟨rfl, rfl, rfl, by decide +kernel, rfl, by decide +kernel, by decide +kernel⟩
abbrev s_is_letter : Stmt := topS 5
abbrev N_is_letter : List Str := ["value"]
theorem sc_is_letter : FnScope N_is_letter ["value"] (defScope s_is_letter) := ⟨rfl, rfl, rfl, by decide +kernel, rfl, by decide +kernel, by decide +kernel⟩
abbrev s_is_ascending : Stmt := topS 6
abbrev N_is_ascending : List Str := ["values", "one", "other"]
theorem sc_is_ascending : FnScope N_is_ascending ["values"] (defScope s_is_ascending) := ⟨rfl, rfl, rfl, by decide +kernel, rfl, by decide +kernel, by decide +kernel⟩
abbrev s_is_stamp : Stmt := topS 7
abbrev N_is_stamp : List Str := ["value"]
theorem sc_is_stamp : FnScope N_is_stamp ["value"] (defScope s_is_stamp) := ⟨rfl, rfl, rfl, by decide +kernel, rfl, by decide +kernel, by decide +kernel⟩
abbrev s_is_part : Stmt := topS 8
abbrev N_is_part : List Str := ["value", "pair", "hand", "many"]
theorem sc_is_part : FnScope N_is_part ["value"] (defScope s_is_part) := ⟨rfl, rfl, rfl, by decide +kernel, rfl, by decide +kernel, by decide +kernel⟩
abbrev s__law_pen : Stmt := topS 10
abbrev N__law_pen : List Str := ["script"]
theorem sc__law_pen : FnScope N__law_pen ["script"] (defScope s__law_pen) := ⟨rfl, rfl, rfl, by decide +kernel, rfl, by decide +kernel, by decide +kernel⟩
abbrev s__law_draw : Stmt := topS 11
abbrev N__law_draw : List Str := ["pen", "many", "digit", "at", "cell", "great", "mixed"]
theorem sc__law_draw : FnScope N__law_draw ["pen", "many"] (defScope s__law_draw) := ⟨rfl, rfl, rfl, by decide +kernel, rfl, by decide +kernel, by decide +kernel⟩
abbrev s__law_pick : Stmt := topS 12
abbrev N__law_pick : List Str := ["pen", "some"]
theorem sc__law_pick : FnScope N__law_pick ["pen", "some"] (defScope s__law_pick) := ⟨rfl, rfl, rfl, by decide +kernel, rfl, by decide +kernel, by decide +kernel⟩
abbrev s__law_is_name : Stmt := topS 13
abbrev N__law_is_name : List Str := ["value", "sign"]
theorem sc__law_is_name : FnScope N__law_is_name ["value"] (defScope s__law_is_name) := ⟨rfl, rfl, rfl, by decide +kernel, rfl, by decide +kernel, by decide +kernel⟩
abbrev s__law_is_letter : Stmt := topS 14
abbrev N__law_is_letter : List Str := ["value"]
theorem sc__law_is_letter : FnScope N__law_is_letter ["value"] (defScope s__law_is_letter) := ⟨rfl, rfl, rfl, by decide +kernel, rfl, by decide +kernel, by decide +kernel⟩
abbrev s__law_is_count : Stmt := topS 15
abbrev N__law_is_count : List Str := ["value"]
theorem sc__law_is_count : FnScope N__law_is_count ["value"] (defScope s__law_is_count) := ⟨rfl, rfl, rfl, by decide +kernel, rfl, by decide +kernel, by decide +kernel⟩
abbrev s__law_is_stamp : Stmt := topS 16
abbrev N__law_is_stamp : List Str := ["value"]
theorem sc__law_is_stamp : FnScope N__law_is_stamp ["value"] (defScope s__law_is_stamp) := ⟨rfl, rfl, rfl, by decide +kernel, rfl, by decide +kernel, by decide +kernel⟩
abbrev s__law_is_part : Stmt := topS 17
abbrev N__law_is_part : List Str := ["value", "pair", "hands"]
theorem sc__law_is_part : FnScope N__law_is_part ["value"] (defScope s__law_is_part) := ⟨rfl, rfl, rfl, by decide +kernel, rfl, by decide +kernel, by decide +kernel⟩
abbrev s__law_text : Stmt := topS 18
abbrev N__law_text : List Str := ["pen", "signs", "long", "many", "text", "turn"]
theorem sc__law_text : FnScope N__law_text ["pen"] (defScope s__law_text) := ⟨rfl, rfl, rfl, by decide +kernel, rfl, by decide +kernel, by decide +kernel⟩
abbrev s__law_value : Stmt := topS 19
abbrev N__law_value : List Str := ["pen", "deep", "way", "hands", "rows", "turn", "hand"]
theorem sc__law_value : FnScope N__law_value ["pen", "deep"] (defScope s__law_value) := ⟨rfl, rfl, rfl, by decide +kernel, rfl, by decide +kernel, by decide +kernel⟩
abbrev s_law : Stmt := topS 20
abbrev N_law : List Str := ["script", "pen", "turn", "value", "text", "due", "told"]
theorem sc_law : FnScope N_law ["script"] (defScope s_law) := ⟨rfl, rfl, rfl, by decide +kernel, rfl, by decide +kernel, by decide +kernel⟩
abbrev FnP (K : PySem.W.Frag) (x : Str) (st : Stmt) (f : Addr) (fd : FuncData) : Prop := FunD K x x (defArgs st) (defBody st) (defScope st) [] [] f fd
/-- what the top has left -/
structure Txt (K : PySem.W.Frag) (mg : Str → Option Value) (a : Nat → Addr) (fd : Nat → FuncData) : Prop where
  b_all : mg "all" = none
  b_range : mg "range" = none
  b_isinstance : mg "isinstance" = none
  b_int : mg "int" = none
  b_str : mg "str" = none
  b_list : mg "list" = none
  b_tuple : mg "tuple" = none
  b_sorted : mg "sorted" = none
  b_bool : mg "bool" = none
  b_len : mg "len" = none
  b_abs : mg "abs" = none
  b_set : mg "set" = none
  b_repr : mg "repr" = none
  b_zip : mg "zip" = none
  c_MOST_SIGNS : ∃ t, mg "MOST_SIGNS" = some (.int 8 t)
  c_LETTERS : ∃ t, mg "LETTERS" = some (.str "abcdefghijklmnopqrstuvwxyz" t)
  F_is_integer : FnP K "is_integer" s_is_integer (a 3) (fd 3)
  g_is_integer : mg "is_integer" = some (.ref (a 3))
  k_is_integer : PySem.W.keepIn K (.ref (a 3)) = true
  bb_is_integer : Binds K (fd 3) ["value"] []
  bk_is_integer : KBinds K (fd 3) ["value"] ["value"] (fun us ws => us ++ ws) (fun vs zs => vs ++ zs)
  F_is_name : FnP K "is_name" s_is_name (a 4) (fd 4)
  g_is_name : mg "is_name" = some (.ref (a 4))
  k_is_name : PySem.W.keepIn K (.ref (a 4)) = true
  bb_is_name : Binds K (fd 4) ["value"] []
  bk_is_name : KBinds K (fd 4) ["value"] ["value"] (fun us ws => us ++ ws) (fun vs zs => vs ++ zs)
  F_is_letter : FnP K "is_letter" s_is_letter (a 5) (fd 5)
  g_is_letter : mg "is_letter" = some (.ref (a 5))
  k_is_letter : PySem.W.keepIn K (.ref (a 5)) = true
  bb_is_letter : Binds K (fd 5) ["value"] []
  bk_is_letter : KBinds K (fd 5) ["value"] ["value"] (fun us ws => us ++ ws) (fun vs zs => vs ++ zs)
  F_is_ascending : FnP K "is_ascending" s_is_ascending (a 6) (fd 6)
  g_is_ascending : mg "is_ascending" = some (.ref (a 6))
  k_is_ascending : PySem.W.keepIn K (.ref (a 6)) = true
  bb_is_ascending : Binds K (fd 6) ["values"] []
  F_is_stamp : FnP K "is_stamp" s_is_stamp (a 7) (fd 7)
  g_is_stamp : mg "is_stamp" = some (.ref (a 7))
  k_is_stamp : PySem.W.keepIn K (.ref (a 7)) = true
  bb_is_stamp : Binds K (fd 7) ["value"] []
  bk_is_stamp : KBinds K (fd 7) ["value"] ["value"] (fun us ws => us ++ ws) (fun vs zs => vs ++ zs)
  F_is_part : FnP K "is_part" s_is_part (a 8) (fd 8)
  g_is_part : mg "is_part" = some (.ref (a 8))
  k_is_part : PySem.W.keepIn K (.ref (a 8)) = true
  bb_is_part : Binds K (fd 8) ["value"] []
  bk_is_part : KBinds K (fd 8) ["value"] ["value"] (fun us ws => us ++ ws) (fun vs zs => vs ++ zs)
  F__law_pen : FnP K "_law_pen" s__law_pen (a 10) (fd 10)
  g__law_pen : mg "_law_pen" = some (.ref (a 10))
  k__law_pen : PySem.W.keepIn K (.ref (a 10)) = true
  bb__law_pen : Binds K (fd 10) ["script"] []
  F__law_draw : FnP K "_law_draw" s__law_draw (a 11) (fd 11)
  g__law_draw : mg "_law_draw" = some (.ref (a 11))
  k__law_draw : PySem.W.keepIn K (.ref (a 11)) = true
  bb__law_draw : Binds K (fd 11) ["pen", "many"] []
  F__law_pick : FnP K "_law_pick" s__law_pick (a 12) (fd 12)
  g__law_pick : mg "_law_pick" = some (.ref (a 12))
  k__law_pick : PySem.W.keepIn K (.ref (a 12)) = true
  bb__law_pick : Binds K (fd 12) ["pen", "some"] []
  F__law_is_name : FnP K "_law_is_name" s__law_is_name (a 13) (fd 13)
  g__law_is_name : mg "_law_is_name" = some (.ref (a 13))
  k__law_is_name : PySem.W.keepIn K (.ref (a 13)) = true
  bb__law_is_name : Binds K (fd 13) ["value"] []
  F__law_is_letter : FnP K "_law_is_letter" s__law_is_letter (a 14) (fd 14)
  g__law_is_letter : mg "_law_is_letter" = some (.ref (a 14))
  k__law_is_letter : PySem.W.keepIn K (.ref (a 14)) = true
  bb__law_is_letter : Binds K (fd 14) ["value"] []
  F__law_is_count : FnP K "_law_is_count" s__law_is_count (a 15) (fd 15)
  g__law_is_count : mg "_law_is_count" = some (.ref (a 15))
  k__law_is_count : PySem.W.keepIn K (.ref (a 15)) = true
  bb__law_is_count : Binds K (fd 15) ["value"] []
  F__law_is_stamp : FnP K "_law_is_stamp" s__law_is_stamp (a 16) (fd 16)
  g__law_is_stamp : mg "_law_is_stamp" = some (.ref (a 16))
  k__law_is_stamp : PySem.W.keepIn K (.ref (a 16)) = true
  bb__law_is_stamp : Binds K (fd 16) ["value"] []
  F__law_is_part : FnP K "_law_is_part" s__law_is_part (a 17) (fd 17)
  g__law_is_part : mg "_law_is_part" = some (.ref (a 17))
  k__law_is_part : PySem.W.keepIn K (.ref (a 17)) = true
  bb__law_is_part : Binds K (fd 17) ["value"] []
  F__law_text : FnP K "_law_text" s__law_text (a 18) (fd 18)
  g__law_text : mg "_law_text" = some (.ref (a 18))
  k__law_text : PySem.W.keepIn K (.ref (a 18)) = true
  bb__law_text : Binds K (fd 18) ["pen"] []
  F__law_value : FnP K "_law_value" s__law_value (a 19) (fd 19)
  g__law_value : mg "_law_value" = some (.ref (a 19))
  k__law_value : PySem.W.keepIn K (.ref (a 19)) = true
  bb__law_value : Binds K (fd 19) ["pen", "deep"] []
  F_law : FnP K "law" s_law (a 20) (fd 20)
  g_law : mg "law" = some (.ref (a 20))
  k_law : PySem.W.keepIn K (.ref (a 20)) = true
  bb_law : Binds K (fd 20) ["script"] []
end Loneboard_k01_checks_of_any_values

set_option Elab.async false
set_option linter.all false
set_option maxRecDepth 100000
set_option maxHeartbeats 4000000
namespace Loneboard_k01_checks_of_any_values
open PySem PySem.Spec PyProof.Rows L2 Dl
/-! ### what is asked, by data -/
mutual
def good : D → Bool
  | .non => true | .bl _ => true | .int _ => true | .str x => decide (x.length ≤ 100) && PyData.strOk x
  | .lst _ => true | .dct _ => true | .tup xs => decide (xs.length < 40) && goods xs
  | .scr _ => false | .ty _ => false | .ref _ => false
def goods : List D → Bool
  | [] => true
  | x :: xs => good x && goods xs
end
theorem good_ty {d : D} (h : good d = true) : tyOk d = true := by cases d <;> first | rfl | cases h
theorem goods_mem {xs : List D} (h : goods xs = true) : ∀ x ∈ xs, good x = true := by
  induction xs with
  | nil => intro x hx; simp at hx
  | cons y ys ih =>
    obtain ⟨h1, h2⟩ := Bool.and_eq_true_iff.mp (show (good y && goods ys) = true from h)
    intro x hx
    rcases List.mem_cons.mp hx with rfl | hx
    · exact h1
    · exact ih h2 x hx
def low (c : Nat) : Bool := decide (c ∈ ("abcdefghijklmnopqrstuvwxyz" : Str).cps.toList)
def nameB : D → Bool
  | .str z => decide (1 ≤ z.length) && decide (z.length ≤ 8) && z.cps.toList.all low
  | _ => false
def intB : D → Bool | .int _ => true | _ => false
def cntB : D → Bool | .int i => decide (1 ≤ i) | _ => false
def letB : D → Bool
  | .str z => nameB (.str (if cutS z (some (-1)) none = ">" then cutS z none (some (-1)) else z))
  | _ => false
def stampB : D → Bool
  | .tup [x, y] => cntB x && nameB y
  | _ => false
def pairB : D → Bool
  | .tup [x, y] => nameB x && cntB y
  | _ => false
def handD : D → Str
  | .tup (.str x :: _) => x
  | _ => Str.empty
def ascB : List Str → Bool
  | x :: y :: r => ltS x y && ascB (y :: r)
  | _ => true
def partB : D → Bool
  | .tup xs => xs.all pairB && ascB (xs.map handD)
  | _ => false
section
variable {P : Program} {w : World} {K : PySem.W.Frag} {mg : Str → Option Value} {base : Heap} {a : Nat → Addr} {fd : Nat → FuncData}
/-! ### is_integer -/
def pf1 (f : D → Bool) : FN := fun ds M k => ∃ d, ds = [d] ∧ good d = true ∧ k (.bl (f d)) M
theorem ok_is_integer (T : Txt K mg a fd) : FnG P w K mg base CX0 1 (a 3) (fd 3) ["value"] (spD K (pf1 intB)) := by
  refine okD T.F_is_integer sc_is_integer (fun ds M k ⟨d, e, _⟩ => by rw [e]; rfl) fun cdv A outer s H E hg hr => ⟨_, (ds_one (ds_ret (de_and (c_isi rfl T.b_isinstance (da_cons (de_var 0) (da_cons (de_ty (n := "int") rfl T.b_int (by decide +kernel)) da_nil))) (de_one (de_not (c_isi rfl T.b_isinstance (da_cons (de_var 0) (da_cons (de_ty (n := "bool") rfl T.b_bool (by decide +kernel)) da_nil)))))))), fun ds M k h => ?_⟩
  obtain ⟨d, rfl, hd, hk⟩ := h
  have hd := good_ty hd
  refine ⟨d, rfl, d, "int", rfl, isTok_int hd, _, rfl, ?_⟩
  rw [isT_int]
  cases d with
  | int i => refine iteT ⟨_, rfl, _, "bool", rfl, isTok_bool hd, _, rfl, ?_⟩; rw [isT_bool]; exact hk
  | bl i => refine iteT ⟨_, rfl, _, "bool", rfl, isTok_bool hd, _, rfl, ?_⟩; rw [isT_bool]; exact hk
  | _ => exact iteF hk
/-! ### is_name -/
def lowText : Str := "abcdefghijklmnopqrstuvwxyz"
theorem ok_is_name (T : Txt K mg a fd) : FnG P w K mg base CX0 1 (a 4) (fd 4) ["value"] (spD K (pf1 nameB)) := by
  refine okD T.F_is_name sc_is_name (fun ds M k ⟨d, e, _⟩ => by rw [e]; rfl) fun cdv A outer s H E hg hr => ⟨_, (ds_cons (ds_if (dt_w (dw_or (dt_not (dt_val (c_isi rfl T.b_isinstance (da_cons (de_var 0) (da_cons (de_ty (n := "str") rfl T.b_str (by decide +kernel)) da_nil))))) (dw_or1 (dt_not (t_leLe de_int (c_len rfl T.b_len (da_cons (de_var 0) da_nil)) (de_gintE rfl T.c_MOST_SIGNS))))))
  (ds_one (ds_ret de_bl))
  ds_nil)
  (ds_one (ds_ret (c_all rfl rfl T.b_all (da_cons (de_lc (own := [("letter", 1)]) rfl sc_is_name.nd (di_str (de_var 0)) (blkOk_by (N := N_is_name) (sc := defScope s_is_name) (by decide +kernel)) (fun _ _ _ _ _ => (dg_name 1 sc_is_name.nd rfl (by first | exact .inl rfl | exact .inr rfl))) (fun _ _ _ _ _ => dts_nil) (fun _ _ _ _ _ => (d_in (de_var 1) (de_gstrE rfl T.c_LETTERS)))) da_nil))))), fun ds M k h => ?_⟩
  obtain ⟨d, rfl, hd, hk⟩ := h
  have ht := good_ty hd
  rw [show startG N_is_name [d] = [some d, none] from rfl]
  cases d with
  | str z =>
    have hz : z.length ≤ 100 ∧ PyData.strOk z = true := by simpa [good] using hd
    have hs : z.length ≤ sizeLine := Nat.le_trans hz.1 (by decide)
    refine do_if (v := !(decide (1 ≤ z.length) && decide (z.length ≤ 8))) (fun k kx h => ?_) (fun hv => ?_) (fun hv => ?_)
    · simp only [ap_var, ap_C, ap_op, ap_un, ap_cb, ap_test, ap_chain, ap_and, ap_or, ap_not, ap_andV, ap_orV, ap_notV, ap_if, ap_nil, ap_cons, ap_lst, ap_tup, ap_noP, ap_part, ap_sl, ap_next, ap_ret, ap_set, ap_drop, ap_asg, ap_par, ap_nm, ap_no, ap_cn, ap_tp, ap_itL, ap_itZ, ap_itT, ap_itS, ap_rng1, ap_zip, ap_lc, ap_yes, ap_call, ap_callK, ap_join, ap_pen, ap_penSet, ap_sortSet, ap_eq, ap_ne, ap_isi, ap_repr, ap_all, ap_I, ap_1I, ap_addI, ap_addS, ap_addL, ap_ltI, ap_ltS, ap_lenS, ap_lenL, ap_lenT, ap_lenZ, ap_ixL, ap_ixT, ap_ixS, ap_slL, ap_slZ, ap_slS, ap_abs, ap_int, ap_listL, ap_listT, ap_listZ, ap_listS, ap_tupL, ap_tupT, ap_inL, ap_inS, exists_eq_left', exists_eq_left, and_assoc, exists_and_left, D.bl.injEq, D.int.injEq, D.str.injEq, D.lst.injEq, D.tup.injEq, D.scr.injEq, Option.some.injEq, List.getElem?_cons_zero, List.getElem?_cons_succ, List.set_cons_zero, List.set_cons_succ, true_and, and_true, List.cons.injEq, List.nil_append, List.append_nil, List.map_cons, List.map_nil, wipeG, ndOf, List.length_cons, List.length_nil, isT_str, isTok_str ht, isStr, hs]
      by_cases h1 : 1 ≤ z.length
      · have h1' : (1 : Int) ≤ (z.length : Int) := by omega
        simp only [h1, h1', decide_true, if_true, Bool.not_true, Bool.true_and, Bool.false_eq_true, if_false] at h ⊢
        have e : decide ((z.length : Int) ≤ 8) = decide (z.length ≤ 8) := by apply Bool.eq_iff_iff.mpr; simp; omega
        rw [e]
        exact h
      · have h1' : ¬ (1 : Int) ≤ (z.length : Int) := by omega
        simpa [h1, h1'] using h
    · rw [show nameB (.str z) = false from by simp only [nameB]; rw [show (decide (1 ≤ z.length) && decide (z.length ≤ 8)) = false from by cases q : (decide (1 ≤ z.length) && decide (z.length ≤ 8)) with | false => rfl | true => (rw [q] at hv; cases hv)]; rfl] at hk
      exact hk
    · have hv' : (decide (1 ≤ z.length) && decide (z.length ≤ 8)) = true := by simpa using hv
      have e : nameB (.str z) = z.cps.toList.all low := by simp only [nameB]; rw [hv']; rfl
      rw [e] at hk
      rw [Bool.and_eq_true, decide_eq_true_eq, decide_eq_true_eq] at hv'
      refine ⟨.str z, rfl, z, rfl, ?_⟩
      refine LcD_map (v := fun d => match d with | .str y => .bl (y.cps.toList.all low) | _ => .non) _ (by rw [List.length_map, Array.length_toList]; exact hs) (fun x hx k' h' => ?_) ?_
      · obtain ⟨c, hc, rfl⟩ := List.mem_map.mp hx
        simp only [ap_var, ap_C, ap_op, ap_un, ap_cb, ap_test, ap_chain, ap_and, ap_or, ap_not, ap_andV, ap_orV, ap_notV, ap_if, ap_nil, ap_cons, ap_lst, ap_tup, ap_noP, ap_part, ap_sl, ap_next, ap_ret, ap_set, ap_drop, ap_asg, ap_par, ap_nm, ap_no, ap_cn, ap_tp, ap_itL, ap_itZ, ap_itT, ap_itS, ap_rng1, ap_zip, ap_lc, ap_yes, ap_call, ap_callK, ap_join, ap_pen, ap_penSet, ap_sortSet, ap_eq, ap_ne, ap_isi, ap_repr, ap_all, ap_I, ap_1I, ap_addI, ap_addS, ap_addL, ap_ltI, ap_ltS, ap_lenS, ap_lenL, ap_lenT, ap_lenZ, ap_ixL, ap_ixT, ap_ixS, ap_slL, ap_slZ, ap_slS, ap_abs, ap_int, ap_listL, ap_listT, ap_listZ, ap_listS, ap_tupL, ap_tupT, ap_inL, ap_inS, exists_eq_left', exists_eq_left, and_assoc, exists_and_left, D.bl.injEq, D.int.injEq, D.str.injEq, D.lst.injEq, D.tup.injEq, D.scr.injEq, Option.some.injEq, List.getElem?_cons_zero, List.getElem?_cons_succ, List.set_cons_zero, List.set_cons_succ, true_and, and_true, List.cons.injEq, List.nil_append, List.append_nil, List.map_cons, List.map_nil, wipeG, ndOf, List.length_cons, List.length_nil]
        simp only [List.all_cons, List.all_nil, Bool.and_true, low] at h'
        exact h'
      · refine ⟨z.cps.toList.map low, ?_, ?_⟩
        · rw [List.map_map, List.map_map]
          refine congrArg (fun l => [D.lst l]) (List.map_congr_left fun c _ => ?_)
          simp
        · rw [List.all_map]
          exact hk
  | _ =>
    refine do_if (v := true) (fun k kx h => ?_) (fun hv => ?_) (fun hv => ?_)
    · simp only [ap_var, ap_C, ap_op, ap_un, ap_cb, ap_test, ap_chain, ap_and, ap_or, ap_not, ap_andV, ap_orV, ap_notV, ap_if, ap_nil, ap_cons, ap_lst, ap_tup, ap_noP, ap_part, ap_sl, ap_next, ap_ret, ap_set, ap_drop, ap_asg, ap_par, ap_nm, ap_no, ap_cn, ap_tp, ap_itL, ap_itZ, ap_itT, ap_itS, ap_rng1, ap_zip, ap_lc, ap_yes, ap_call, ap_callK, ap_join, ap_pen, ap_penSet, ap_sortSet, ap_eq, ap_ne, ap_isi, ap_repr, ap_all, ap_I, ap_1I, ap_addI, ap_addS, ap_addL, ap_ltI, ap_ltS, ap_lenS, ap_lenL, ap_lenT, ap_lenZ, ap_ixL, ap_ixT, ap_ixS, ap_slL, ap_slZ, ap_slS, ap_abs, ap_int, ap_listL, ap_listT, ap_listZ, ap_listS, ap_tupL, ap_tupT, ap_inL, ap_inS, exists_eq_left', exists_eq_left, and_assoc, exists_and_left, D.bl.injEq, D.int.injEq, D.str.injEq, D.lst.injEq, D.tup.injEq, D.scr.injEq, Option.some.injEq, List.getElem?_cons_zero, List.getElem?_cons_succ, List.set_cons_zero, List.set_cons_succ, true_and, and_true, List.cons.injEq, List.nil_append, List.append_nil, List.map_cons, List.map_nil, wipeG, ndOf, List.length_cons, List.length_nil, isT_str, isTok_str ht, isStr]
      simpa using h
    · exact hk
    · cases hv
/-! ### is_letter -/
theorem good_cut {z : Str} {lo hi : Option Int} (h : good (.str z) = true) : good (.str (cutS z lo hi)) = true := by
  simp only [good, Bool.and_eq_true, decide_eq_true_eq] at h ⊢
  refine ⟨Nat.le_trans ?_ h.1, ?_⟩
  · show (Array.size _) ≤ _
    unfold cutS
    simp only [List.size_toArray, List.length_take, List.length_drop, Array.length_toList]
    show _ ≤ z.cps.size
    omega
  · have h2 := h.2
    unfold PyData.strOk at h2 ⊢
    rw [← Array.all_toList, List.all_eq_true] at h2 ⊢
    unfold cutS
    intro x hx
    exact h2 x (List.mem_of_mem_drop (List.mem_of_mem_take (by simpa using hx)))
theorem good_len {z : Str} (h : good (.str z) = true) : z.length ≤ sizeLine := by
  simp only [good, Bool.and_eq_true, decide_eq_true_eq] at h
  exact Nat.le_trans h.1 (by decide)
theorem good_eq {z : Str} (h : good (.str z) = true) : eqOk (.str z) = true := by
  simp only [good, Bool.and_eq_true, decide_eq_true_eq] at h
  exact eqOk_str h.2
theorem ok_is_letter (T : Txt K mg a fd) : FnG P w K mg base CX0 2 (a 5) (fd 5) ["value"] (spD K (pf1 letB)) := by
  have G_is_name := ok_is_name (P := P) (w := w) (base := base) T
  refine okD T.F_is_letter sc_is_letter (fun ds M k ⟨d, e, _⟩ => by rw [e]; rfl) fun cdv A outer s H E hg hr => ⟨_, (ds_one (ds_ret (de_and (c_isi rfl T.b_isinstance (da_cons (de_var 0) (da_cons (de_ty (n := "str") rfl T.b_str (by decide +kernel)) da_nil))) (de_one (de_call G_is_name hg (hr.mono (by omega)) rfl T.g_is_name T.k_is_name T.bb_is_name .nil (fun _ _ => .nil) (da_cons (de_if (t_eq hr.units (d_sl (de_var 0) (do_some (d_neg de_int)) do_none) de_str) (d_sl (de_var 0) do_none (do_some (d_neg de_int))) (de_var 0)) da_nil)))))), fun ds M k h => ?_⟩
  obtain ⟨d, rfl, hd, hk⟩ := h
  have ht := good_ty hd
  rw [show startG N_is_letter [d] = [some d] from rfl]
  cases d with
  | str z =>
    have hs := good_len hd
    have e1 : eqOk (.str (">" : Str)) = true := eqOk_str (by decide +kernel)
    simp only [ap_var, ap_C, ap_op, ap_un, ap_cb, ap_test, ap_chain, ap_and, ap_or, ap_not, ap_andV, ap_orV, ap_notV, ap_if, ap_nil, ap_cons, ap_lst, ap_tup, ap_noP, ap_part, ap_sl, ap_next, ap_ret, ap_set, ap_drop, ap_asg, ap_par, ap_nm, ap_no, ap_cn, ap_tp, ap_itL, ap_itZ, ap_itT, ap_itS, ap_rng1, ap_zip, ap_lc, ap_yes, ap_call, ap_callK, ap_join, ap_pen, ap_penSet, ap_sortSet, ap_eq, ap_ne, ap_isi, ap_repr, ap_all, ap_I, ap_1I, ap_addI, ap_addS, ap_addL, ap_ltI, ap_ltS, ap_lenS, ap_lenL, ap_lenT, ap_lenZ, ap_ixL, ap_ixT, ap_ixS, ap_slL, ap_slZ, ap_slS, ap_abs, ap_int, ap_listL, ap_listT, ap_listZ, ap_listS, ap_tupL, ap_tupT, ap_inL, ap_inS, exists_eq_left', exists_eq_left, and_assoc, exists_and_left, D.bl.injEq, D.int.injEq, D.str.injEq, D.lst.injEq, D.tup.injEq, D.scr.injEq, Option.some.injEq, List.getElem?_cons_zero, List.getElem?_cons_succ, List.set_cons_zero, List.set_cons_succ, true_and, and_true, List.cons.injEq, List.nil_append, List.append_nil, List.map_cons, List.map_nil, wipeG, ndOf, List.length_cons, List.length_nil, isT_str, isTok_str ht, isStr, hs, good_eq (good_cut hd), e1, eqD_str, pf1, if_true]
    refine ite_b (fun h => ⟨good_cut hd, ?_⟩) (fun h => ⟨hd, ?_⟩)
    · simp only [letB, if_pos (of_decide_eq_true h)] at hk
      exact hk
    · simp only [letB, if_neg (of_decide_eq_false h)] at hk
      exact hk
  | _ =>
    simp only [ap_var, ap_C, ap_op, ap_un, ap_cb, ap_test, ap_chain, ap_and, ap_or, ap_not, ap_andV, ap_orV, ap_notV, ap_if, ap_nil, ap_cons, ap_lst, ap_tup, ap_noP, ap_part, ap_sl, ap_next, ap_ret, ap_set, ap_drop, ap_asg, ap_par, ap_nm, ap_no, ap_cn, ap_tp, ap_itL, ap_itZ, ap_itT, ap_itS, ap_rng1, ap_zip, ap_lc, ap_yes, ap_call, ap_callK, ap_join, ap_pen, ap_penSet, ap_sortSet, ap_eq, ap_ne, ap_isi, ap_repr, ap_all, ap_I, ap_1I, ap_addI, ap_addS, ap_addL, ap_ltI, ap_ltS, ap_lenS, ap_lenL, ap_lenT, ap_lenZ, ap_ixL, ap_ixT, ap_ixS, ap_slL, ap_slZ, ap_slS, ap_abs, ap_int, ap_listL, ap_listT, ap_listZ, ap_listS, ap_tupL, ap_tupT, ap_inL, ap_inS, exists_eq_left', exists_eq_left, and_assoc, exists_and_left, D.bl.injEq, D.int.injEq, D.str.injEq, D.lst.injEq, D.tup.injEq, D.scr.injEq, Option.some.injEq, List.getElem?_cons_zero, List.getElem?_cons_succ, List.set_cons_zero, List.set_cons_succ, true_and, and_true, List.cons.injEq, List.nil_append, List.append_nil, List.map_cons, List.map_nil, wipeG, ndOf, List.length_cons, List.length_nil, isT_str, isTok_str ht, isStr]
    simpa [letB] using hk
/-! ### is_ascending -/
theorem cut_from1 {α : Type} (xs : List α) : Dl.cutD xs (some 1) none = xs.drop 1 := by
  unfold Dl.cutD HT.sIx
  cases xs with
  | nil => rfl
  | cons x r =>
    simp only [List.length_cons]
    rw [if_neg (by decide), show min (Int.toNat 1) (r.length + 1) = 1 by show min 1 _ = 1; omega, Nat.add_sub_cancel]
    exact List.take_length
theorem asc_zip : ∀ xs : List Str, ((xs.zip (xs.drop 1)).map fun p => ltS p.1 p.2).all id = ascB xs
  | [] => rfl
  | [_] => rfl
  | x :: y :: r => by
    have ih := asc_zip (y :: r)
    show (ltS x y && (((y :: r).zip ((y :: r).drop 1)).map fun p => ltS p.1 p.2).all id) = _
    rw [ih]
    rfl
def pfAsc : FN := fun ds M k => ∃ xs : List Str, ds = [.lst (xs.map .str)] ∧ xs.length ≤ 100 ∧ k (.bl (ascB xs)) M
theorem ok_is_ascending (T : Txt K mg a fd) : FnG P w K mg base CX0 1 (a 6) (fd 6) ["values"] (spD K pfAsc) := by
  refine okD T.F_is_ascending sc_is_ascending (fun ds M k ⟨d, e, _⟩ => by rw [e]; rfl) fun cdv A outer s H E hg hr => ⟨_, (ds_one (ds_ret (c_all rfl rfl T.b_all (da_cons (de_lc (own := [("one", 1), ("other", 2)]) rfl sc_is_ascending.nd (di_zip rfl T.b_zip (da_cons (de_var 0) (da_cons (d_sl (de_var 0) (do_some de_int) do_none) da_nil))) (blkOk_by (N := N_is_ascending) (sc := defScope s_is_ascending) (by decide +kernel)) (fun _ _ _ _ _ => (dg_tup (n := 2) rfl (dgs_cons (dg_name 1 sc_is_ascending.nd rfl (by first | exact .inl rfl | exact .inr rfl)) (dgs_cons (dg_name 2 sc_is_ascending.nd rfl (by first | exact .inl rfl | exact .inr rfl)) dgs_nil)))) (fun _ _ _ _ _ => dts_nil) (fun _ _ _ _ _ => (d_lt (de_var 1) (de_var 2)))) da_nil)))), fun ds M k h => ?_⟩
  obtain ⟨xs, rfl, hx, hk⟩ := h
  rw [show startG N_is_ascending [.lst (xs.map .str)] = [some (.lst (xs.map .str)), none, none] from rfl]
  simp only [ap_var, ap_C, ap_op, ap_un, ap_cb, ap_test, ap_chain, ap_and, ap_or, ap_not, ap_andV, ap_orV, ap_notV, ap_if, ap_nil, ap_cons, ap_lst, ap_tup, ap_noP, ap_part, ap_sl, ap_next, ap_ret, ap_set, ap_drop, ap_asg, ap_par, ap_nm, ap_no, ap_cn, ap_tp, ap_itL, ap_itZ, ap_itT, ap_itS, ap_rng1, ap_zip, ap_lc, ap_yes, ap_call, ap_callK, ap_join, ap_pen, ap_penSet, ap_sortSet, ap_eq, ap_ne, ap_isi, ap_repr, ap_all, ap_I, ap_1I, ap_addI, ap_addS, ap_addL, ap_ltI, ap_ltS, ap_lenS, ap_lenL, ap_lenT, ap_lenZ, ap_ixL, ap_ixT, ap_ixS, ap_slL, ap_slZ, ap_slS, ap_abs, ap_int, ap_listL, ap_listT, ap_listZ, ap_listS, ap_tupL, ap_tupT, ap_inL, ap_inS, exists_eq_left', exists_eq_left, and_assoc, exists_and_left, D.bl.injEq, D.int.injEq, D.str.injEq, D.lst.injEq, D.tup.injEq, D.scr.injEq, Option.some.injEq, List.getElem?_cons_zero, List.getElem?_cons_succ, List.set_cons_zero, List.set_cons_succ, true_and, and_true, List.cons.injEq, List.nil_append, List.append_nil, List.map_cons, List.map_nil, wipeG, ndOf, List.length_cons, List.length_nil]
  have e : ((xs.map D.str).zip (Dl.cutD (xs.map D.str) (some 1) none)).map (fun p => D.tup [p.1, p.2]) = (xs.zip (xs.drop 1)).map fun p => D.tup [.str p.1, .str p.2] := by
    rw [cut_from1, ← List.map_drop, List.zip_map, List.map_map]
    rfl
  rw [e]
  refine LcD_map (v := fun d => match d with | .tup [.str x, .str y] => .bl (ltS x y) | _ => .non) _ (by rw [List.length_map, List.length_zip]; exact Nat.le_trans (Nat.min_le_left _ _) (Nat.le_trans hx (by decide))) (fun x hx k' h' => ?_) ?_
  · obtain ⟨c, hc, rfl⟩ := List.mem_map.mp hx
    simp only [ap_var, ap_C, ap_op, ap_un, ap_cb, ap_test, ap_chain, ap_and, ap_or, ap_not, ap_andV, ap_orV, ap_notV, ap_if, ap_nil, ap_cons, ap_lst, ap_tup, ap_noP, ap_part, ap_sl, ap_next, ap_ret, ap_set, ap_drop, ap_asg, ap_par, ap_nm, ap_no, ap_cn, ap_tp, ap_itL, ap_itZ, ap_itT, ap_itS, ap_rng1, ap_zip, ap_lc, ap_yes, ap_call, ap_callK, ap_join, ap_pen, ap_penSet, ap_sortSet, ap_eq, ap_ne, ap_isi, ap_repr, ap_all, ap_I, ap_1I, ap_addI, ap_addS, ap_addL, ap_ltI, ap_ltS, ap_lenS, ap_lenL, ap_lenT, ap_lenZ, ap_ixL, ap_ixT, ap_ixS, ap_slL, ap_slZ, ap_slS, ap_abs, ap_int, ap_listL, ap_listT, ap_listZ, ap_listS, ap_tupL, ap_tupT, ap_inL, ap_inS, exists_eq_left', exists_eq_left, and_assoc, exists_and_left, D.bl.injEq, D.int.injEq, D.str.injEq, D.lst.injEq, D.tup.injEq, D.scr.injEq, Option.some.injEq, List.getElem?_cons_zero, List.getElem?_cons_succ, List.set_cons_zero, List.set_cons_succ, true_and, and_true, List.cons.injEq, List.nil_append, List.append_nil, List.map_cons, List.map_nil, wipeG, ndOf, List.length_cons, List.length_nil]
    exact h'
  · refine ⟨(xs.zip (xs.drop 1)).map fun p => ltS p.1 p.2, ?_, ?_⟩
    · rw [List.map_map, List.map_map]
      rfl
    · rw [asc_zip]
      exact hk
/-! ### is_stamp -/
theorem good_tup {x : D} {xs : List D} (h : good (.tup xs) = true) (hx : x ∈ xs) : good x = true := by
  simp only [good, Bool.and_eq_true] at h
  exact goods_mem h.2 x hx
theorem ok_is_stamp (T : Txt K mg a fd) : FnG P w K mg base CX0 2 (a 7) (fd 7) ["value"] (spD K (pf1 stampB)) := by
  have G_is_name := ok_is_name (P := P) (w := w) (base := base) T
  have G_is_integer := ok_is_integer (P := P) (w := w) (base := base) T
  refine okD T.F_is_stamp sc_is_stamp (fun ds M k ⟨d, e, _⟩ => by rw [e]; rfl) fun cdv A outer s H E hg hr => ⟨_, (ds_cons (ds_if (dt_w (dw_or (dt_not (dt_val (c_isi rfl T.b_isinstance (da_cons (de_var 0) (da_cons (de_ty (n := "tuple") rfl T.b_tuple (by decide +kernel)) da_nil))))) (dw_or1 (t_ne hr.units (c_len rfl T.b_len (da_cons (de_var 0) da_nil)) de_int))))
  (ds_one (ds_ret de_bl))
  ds_nil)
  (ds_one (ds_ret (de_and (de_call G_is_integer hg (hr.mono (by omega)) rfl T.g_is_integer T.k_is_integer T.bb_is_integer .nil (fun _ _ => .nil) (da_cons (d_ix (de_var 0) de_int) da_nil)) (de_and (d_ge (d_ix (de_var 0) de_int) de_int) (de_one (de_call G_is_name hg (hr.mono (by omega)) rfl T.g_is_name T.k_is_name T.bb_is_name .nil (fun _ _ => .nil) (da_cons (d_ix (de_var 0) de_int) da_nil)))))))), fun ds M k h => ?_⟩
  obtain ⟨d, rfl, hd, hk⟩ := h
  have ht := good_ty hd
  rw [show startG N_is_stamp [d] = [some d] from rfl]
  cases d with
  | tup xs =>
    refine do_if (v := !decide (xs.length = 2)) (fun k kx h => ?_) (fun hv => ?_) (fun hv => ?_)
    · simp only [ap_var, ap_C, ap_op, ap_un, ap_cb, ap_test, ap_chain, ap_and, ap_or, ap_not, ap_andV, ap_orV, ap_notV, ap_if, ap_nil, ap_cons, ap_lst, ap_tup, ap_noP, ap_part, ap_sl, ap_next, ap_ret, ap_set, ap_drop, ap_asg, ap_par, ap_nm, ap_no, ap_cn, ap_tp, ap_itL, ap_itZ, ap_itT, ap_itS, ap_rng1, ap_zip, ap_lc, ap_yes, ap_call, ap_callK, ap_join, ap_pen, ap_penSet, ap_sortSet, ap_eq, ap_ne, ap_isi, ap_repr, ap_all, ap_I, ap_1I, ap_addI, ap_addS, ap_addL, ap_ltI, ap_ltS, ap_lenS, ap_lenL, ap_lenT, ap_lenZ, ap_ixL, ap_ixT, ap_ixS, ap_slL, ap_slZ, ap_slS, ap_abs, ap_int, ap_listL, ap_listT, ap_listZ, ap_listS, ap_tupL, ap_tupT, ap_inL, ap_inS, exists_eq_left', exists_eq_left, and_assoc, exists_and_left, D.bl.injEq, D.int.injEq, D.str.injEq, D.lst.injEq, D.tup.injEq, D.scr.injEq, Option.some.injEq, List.getElem?_cons_zero, List.getElem?_cons_succ, List.set_cons_zero, List.set_cons_succ, true_and, and_true, List.cons.injEq, List.nil_append, List.append_nil, List.map_cons, List.map_nil, wipeG, ndOf, List.length_cons, List.length_nil, isT_tup, isTok_tup ht, isTup, eqOk_int, eqD_int, Bool.not_true, Bool.false_eq_true, if_false]
      rw [show decide ((xs.length : Int) = 2) = decide (xs.length = 2) by apply Bool.eq_iff_iff.mpr; simp; omega]
      exact h
    · have hne : xs.length ≠ 2 := by simpa using hv
      have e : stampB (.tup xs) = false := by
        rcases xs with _ | ⟨x, _ | ⟨y, _ | ⟨z, r⟩⟩⟩ <;> first | rfl | exact absurd rfl hne
      rw [e] at hk
      exact hk
    · have he : xs.length = 2 := by simpa using hv
      obtain ⟨x, y, rfl⟩ := len2 he
      have gx := good_tup (x := x) hd (by simp)
      have gy := good_tup (x := y) hd (by simp)
      simp only [stampB] at hk
      simp only [ap_var, ap_C, ap_op, ap_un, ap_cb, ap_test, ap_chain, ap_and, ap_or, ap_not, ap_andV, ap_orV, ap_notV, ap_if, ap_nil, ap_cons, ap_lst, ap_tup, ap_noP, ap_part, ap_sl, ap_next, ap_ret, ap_set, ap_drop, ap_asg, ap_par, ap_nm, ap_no, ap_cn, ap_tp, ap_itL, ap_itZ, ap_itT, ap_itS, ap_rng1, ap_zip, ap_lc, ap_yes, ap_call, ap_callK, ap_join, ap_pen, ap_penSet, ap_sortSet, ap_eq, ap_ne, ap_isi, ap_repr, ap_all, ap_I, ap_1I, ap_addI, ap_addS, ap_addL, ap_ltI, ap_ltS, ap_lenS, ap_lenL, ap_lenT, ap_lenZ, ap_ixL, ap_ixT, ap_ixS, ap_slL, ap_slZ, ap_slS, ap_abs, ap_int, ap_listL, ap_listT, ap_listZ, ap_listS, ap_tupL, ap_tupT, ap_inL, ap_inS, exists_eq_left', exists_eq_left, and_assoc, exists_and_left, D.bl.injEq, D.int.injEq, D.str.injEq, D.lst.injEq, D.tup.injEq, D.scr.injEq, Option.some.injEq, List.getElem?_cons_zero, List.getElem?_cons_succ, List.set_cons_zero, List.set_cons_succ, true_and, and_true, List.cons.injEq, List.nil_append, List.append_nil, List.map_cons, List.map_nil, wipeG, ndOf, List.length_cons, List.length_nil, pf1, show L2.atI [x, y] 0 = some x from rfl, show L2.atI [x, y] 1 = some y from rfl, gx, gy]
      cases x with
      | int i =>
        simp only [ap_var, ap_C, ap_op, ap_un, ap_cb, ap_test, ap_chain, ap_and, ap_or, ap_not, ap_andV, ap_orV, ap_notV, ap_if, ap_nil, ap_cons, ap_lst, ap_tup, ap_noP, ap_part, ap_sl, ap_next, ap_ret, ap_set, ap_drop, ap_asg, ap_par, ap_nm, ap_no, ap_cn, ap_tp, ap_itL, ap_itZ, ap_itT, ap_itS, ap_rng1, ap_zip, ap_lc, ap_yes, ap_call, ap_callK, ap_join, ap_pen, ap_penSet, ap_sortSet, ap_eq, ap_ne, ap_isi, ap_repr, ap_all, ap_I, ap_1I, ap_addI, ap_addS, ap_addL, ap_ltI, ap_ltS, ap_lenS, ap_lenL, ap_lenT, ap_lenZ, ap_ixL, ap_ixT, ap_ixS, ap_slL, ap_slZ, ap_slS, ap_abs, ap_int, ap_listL, ap_listT, ap_listZ, ap_listS, ap_tupL, ap_tupT, ap_inL, ap_inS, exists_eq_left', exists_eq_left, and_assoc, exists_and_left, D.bl.injEq, D.int.injEq, D.str.injEq, D.lst.injEq, D.tup.injEq, D.scr.injEq, Option.some.injEq, List.getElem?_cons_zero, List.getElem?_cons_succ, List.set_cons_zero, List.set_cons_succ, true_and, and_true, List.cons.injEq, List.nil_append, List.append_nil, List.map_cons, List.map_nil, wipeG, ndOf, List.length_cons, List.length_nil, intB, if_true]
        refine ite_b (fun h => ?_) (fun h => ?_)
        · rw [show cntB (.int i) = true from h, Bool.true_and] at hk
          exact hk
        · rw [show cntB (.int i) = false from h, Bool.false_and] at hk
          exact hk
      | _ => simpa [intB, cntB] using hk
  | _ =>
    refine do_if (v := true) (fun k kx h => ?_) (fun hv => ?_) (fun hv => ?_)
    · simp only [ap_var, ap_C, ap_op, ap_un, ap_cb, ap_test, ap_chain, ap_and, ap_or, ap_not, ap_andV, ap_orV, ap_notV, ap_if, ap_nil, ap_cons, ap_lst, ap_tup, ap_noP, ap_part, ap_sl, ap_next, ap_ret, ap_set, ap_drop, ap_asg, ap_par, ap_nm, ap_no, ap_cn, ap_tp, ap_itL, ap_itZ, ap_itT, ap_itS, ap_rng1, ap_zip, ap_lc, ap_yes, ap_call, ap_callK, ap_join, ap_pen, ap_penSet, ap_sortSet, ap_eq, ap_ne, ap_isi, ap_repr, ap_all, ap_I, ap_1I, ap_addI, ap_addS, ap_addL, ap_ltI, ap_ltS, ap_lenS, ap_lenL, ap_lenT, ap_lenZ, ap_ixL, ap_ixT, ap_ixS, ap_slL, ap_slZ, ap_slS, ap_abs, ap_int, ap_listL, ap_listT, ap_listZ, ap_listS, ap_tupL, ap_tupT, ap_inL, ap_inS, exists_eq_left', exists_eq_left, and_assoc, exists_and_left, D.bl.injEq, D.int.injEq, D.str.injEq, D.lst.injEq, D.tup.injEq, D.scr.injEq, Option.some.injEq, List.getElem?_cons_zero, List.getElem?_cons_succ, List.set_cons_zero, List.set_cons_succ, true_and, and_true, List.cons.injEq, List.nil_append, List.append_nil, List.map_cons, List.map_nil, wipeG, ndOf, List.length_cons, List.length_nil, isT_tup, isTok_tup ht, isTup]
      simpa using h
    · exact hk
    · cases hv
end
end Loneboard_k01_checks_of_any_values

set_option Elab.async false
set_option linter.all false
set_option maxRecDepth 100000
set_option maxHeartbeats 4000000
namespace Loneboard_k01_checks_of_any_values
open PySem PySem.Spec PyProof.Rows L2 Dl
section
variable {P : Program} {w : World} {K : PySem.W.Frag} {mg : Str → Option Value} {base : Heap} {a : Nat → Addr} {fd : Nat → FuncData}
/-! ### is_part -/
def twoB : D → Bool | .tup [_, _] => true | _ => false
theorem pair_two {d : D} (h : pairB d = true) : twoB d = true := by
  unfold pairB at h
  split at h
  · rfl
  · cases h
theorem two_at {d : D} (h : twoB d = true) : ∃ x y, d = .tup [x, y] := by
  unfold twoB at h
  split at h
  · exact ⟨_, _, rfl⟩
  · cases h
theorem name_str {d : D} (h : nameB d = true) : ∃ z, d = .str z := by
  cases d <;> first | exact ⟨_, rfl⟩ | cases h
theorem pair_hand {d : D} (h : pairB d = true) : ∃ z y, d = .tup [.str z, y] ∧ handD d = z := by
  obtain ⟨x, y, rfl⟩ := two_at (pair_two h)
  obtain ⟨h1, _⟩ := Bool.and_eq_true_iff.mp (show (nameB x && cntB y) = true from h)
  obtain ⟨z, rfl⟩ := name_str h1
  exact ⟨z, y, rfl, rfl⟩
theorem ok_is_part (T : Txt K mg a fd) : FnG P w K mg base CX0 3 (a 8) (fd 8) ["value"] (spD K (pf1 partB)) := by
  have G_is_name := ok_is_name (P := P) (w := w) (base := base) T
  have G_is_integer := ok_is_integer (P := P) (w := w) (base := base) T
  have G_is_ascending := ok_is_ascending (P := P) (w := w) (base := base) T
  refine okD T.F_is_part sc_is_part (fun ds M k ⟨d, e, _⟩ => by rw [e]; rfl) fun cdv A outer s H E hg hr => ⟨_, (ds_cons (ds_if (dt_w (dw_or (dt_not (dt_val (c_isi rfl T.b_isinstance (da_cons (de_var 0) (da_cons (de_ty (n := "tuple") rfl T.b_tuple (by decide +kernel)) da_nil))))) (dw_or1 (dt_not (dt_val (c_all rfl rfl T.b_all (da_cons (de_lc (own := [("pair", 1)]) rfl sc_is_part.nd (di_tup (de_var 0)) (blkOk_by (N := N_is_part) (sc := defScope s_is_part) (by decide +kernel)) (fun _ _ _ _ _ => (dg_name 1 sc_is_part.nd rfl (by first | exact .inl rfl | exact .inr rfl))) (fun _ _ _ _ _ => dts_nil) (fun _ _ _ _ _ => (de_and (c_isi rfl T.b_isinstance (da_cons (de_var 1) (da_cons (de_ty (n := "tuple") rfl T.b_tuple (by decide +kernel)) da_nil))) (de_one (d_eq hr.units (c_len rfl T.b_len (da_cons (de_var 1) da_nil)) de_int))))) da_nil)))))))
  (ds_one (ds_ret de_bl))
  ds_nil)
  (ds_cons (ds_if (dt_not (dt_val (c_all rfl rfl T.b_all (da_cons (de_lc (own := [("hand", 2), ("many", 3)]) rfl sc_is_part.nd (di_tup (de_var 0)) (blkOk_by (N := N_is_part) (sc := defScope s_is_part) (by decide +kernel)) (fun _ _ _ _ _ => (dg_tup (n := 2) rfl (dgs_cons (dg_name 2 sc_is_part.nd rfl (by first | exact .inl rfl | exact .inr rfl)) (dgs_cons (dg_name 3 sc_is_part.nd rfl (by first | exact .inl rfl | exact .inr rfl)) dgs_nil)))) (fun _ _ _ _ _ => dts_nil) (fun _ _ _ _ _ => (de_and (de_call G_is_name hg (hr.mono (by omega)) rfl T.g_is_name T.k_is_name T.bb_is_name .nil (fun _ _ => .nil) (da_cons (de_var 2) da_nil)) (de_and (de_call G_is_integer hg (hr.mono (by omega)) rfl T.g_is_integer T.k_is_integer T.bb_is_integer .nil (fun _ _ => .nil) (da_cons (de_var 3) da_nil)) (de_one (d_ge (de_var 3) de_int)))))) da_nil))))
  (ds_one (ds_ret de_bl))
  ds_nil)
  (ds_one (ds_ret (de_call G_is_ascending hg (hr.mono (by omega)) rfl T.g_is_ascending T.k_is_ascending T.bb_is_ascending .nil (fun _ _ => .nil) (da_cons (de_lc (own := [("hand", 2), ("many", 3)]) rfl sc_is_part.nd (di_tup (de_var 0)) (blkOk_by (N := N_is_part) (sc := defScope s_is_part) (by decide +kernel)) (fun _ _ _ _ _ => (dg_tup (n := 2) rfl (dgs_cons (dg_name 2 sc_is_part.nd rfl (by first | exact .inl rfl | exact .inr rfl)) (dgs_cons (dg_name 3 sc_is_part.nd rfl (by first | exact .inl rfl | exact .inr rfl)) dgs_nil)))) (fun _ _ _ _ _ => dts_nil) (fun _ _ _ _ _ => (de_var 2))) da_nil)))))), fun ds M k h => ?_⟩
  obtain ⟨d, rfl, hd, hk⟩ := h
  have ht := good_ty hd
  rw [show startG N_is_part [d] = [some d, none, none, none] from rfl]
  cases d with
  | tup xs =>
    have hx : xs.length < 40 := by
      simp only [good, Bool.and_eq_true, decide_eq_true_eq] at hd
      exact hd.1
    have hl : xs.length ≤ sizeLine := Nat.le_trans (Nat.le_of_lt hx) (by decide)
    refine do_if (v := !xs.all twoB) (fun k kx h => ?_) (fun hv => ?_) (fun hv => ?_)
    · simp only [ap_var, ap_C, ap_op, ap_un, ap_cb, ap_test, ap_chain, ap_and, ap_or, ap_not, ap_andV, ap_orV, ap_notV, ap_if, ap_nil, ap_cons, ap_lst, ap_tup, ap_noP, ap_part, ap_sl, ap_next, ap_ret, ap_set, ap_drop, ap_asg, ap_par, ap_nm, ap_no, ap_cn, ap_tp, ap_itL, ap_itZ, ap_itT, ap_itS, ap_rng1, ap_zip, ap_lc, ap_yes, ap_call, ap_callK, ap_join, ap_pen, ap_penSet, ap_sortSet, ap_eq, ap_ne, ap_isi, ap_repr, ap_all, ap_I, ap_1I, ap_addI, ap_addS, ap_addL, ap_ltI, ap_ltS, ap_lenS, ap_lenL, ap_lenT, ap_lenZ, ap_ixL, ap_ixT, ap_ixS, ap_slL, ap_slZ, ap_slS, ap_abs, ap_int, ap_listL, ap_listT, ap_listZ, ap_listS, ap_tupL, ap_tupT, ap_inL, ap_inS, exists_eq_left', exists_eq_left, and_assoc, exists_and_left, D.bl.injEq, D.int.injEq, D.str.injEq, D.lst.injEq, D.tup.injEq, D.scr.injEq, Option.some.injEq, List.getElem?_cons_zero, List.getElem?_cons_succ, List.set_cons_zero, List.set_cons_succ, true_and, and_true, List.cons.injEq, List.nil_append, List.append_nil, List.map_cons, List.map_nil, wipeG, ndOf, List.length_cons, List.length_nil, isT_tup, isTok_tup ht, isTup, Bool.not_true, Bool.false_eq_true, if_false]
      refine LcD_map (v := fun d => .bl (twoB d)) xs hl (fun x hx k' h' => ?_) ?_
      · have gx := good_tup hd hx
        simp only [ap_var, ap_C, ap_op, ap_un, ap_cb, ap_test, ap_chain, ap_and, ap_or, ap_not, ap_andV, ap_orV, ap_notV, ap_if, ap_nil, ap_cons, ap_lst, ap_tup, ap_noP, ap_part, ap_sl, ap_next, ap_ret, ap_set, ap_drop, ap_asg, ap_par, ap_nm, ap_no, ap_cn, ap_tp, ap_itL, ap_itZ, ap_itT, ap_itS, ap_rng1, ap_zip, ap_lc, ap_yes, ap_call, ap_callK, ap_join, ap_pen, ap_penSet, ap_sortSet, ap_eq, ap_ne, ap_isi, ap_repr, ap_all, ap_I, ap_1I, ap_addI, ap_addS, ap_addL, ap_ltI, ap_ltS, ap_lenS, ap_lenL, ap_lenT, ap_lenZ, ap_ixL, ap_ixT, ap_ixS, ap_slL, ap_slZ, ap_slS, ap_abs, ap_int, ap_listL, ap_listT, ap_listZ, ap_listS, ap_tupL, ap_tupT, ap_inL, ap_inS, exists_eq_left', exists_eq_left, and_assoc, exists_and_left, D.bl.injEq, D.int.injEq, D.str.injEq, D.lst.injEq, D.tup.injEq, D.scr.injEq, Option.some.injEq, List.getElem?_cons_zero, List.getElem?_cons_succ, List.set_cons_zero, List.set_cons_succ, true_and, and_true, List.cons.injEq, List.nil_append, List.append_nil, List.map_cons, List.map_nil, wipeG, ndOf, List.length_cons, List.length_nil, isT_tup, isTok_tup (good_ty gx)]
        cases x with
        | tup ys =>
          simp only [ap_var, ap_C, ap_op, ap_un, ap_cb, ap_test, ap_chain, ap_and, ap_or, ap_not, ap_andV, ap_orV, ap_notV, ap_if, ap_nil, ap_cons, ap_lst, ap_tup, ap_noP, ap_part, ap_sl, ap_next, ap_ret, ap_set, ap_drop, ap_asg, ap_par, ap_nm, ap_no, ap_cn, ap_tp, ap_itL, ap_itZ, ap_itT, ap_itS, ap_rng1, ap_zip, ap_lc, ap_yes, ap_call, ap_callK, ap_join, ap_pen, ap_penSet, ap_sortSet, ap_eq, ap_ne, ap_isi, ap_repr, ap_all, ap_I, ap_1I, ap_addI, ap_addS, ap_addL, ap_ltI, ap_ltS, ap_lenS, ap_lenL, ap_lenT, ap_lenZ, ap_ixL, ap_ixT, ap_ixS, ap_slL, ap_slZ, ap_slS, ap_abs, ap_int, ap_listL, ap_listT, ap_listZ, ap_listS, ap_tupL, ap_tupT, ap_inL, ap_inS, exists_eq_left', exists_eq_left, and_assoc, exists_and_left, D.bl.injEq, D.int.injEq, D.str.injEq, D.lst.injEq, D.tup.injEq, D.scr.injEq, Option.some.injEq, List.getElem?_cons_zero, List.getElem?_cons_succ, List.set_cons_zero, List.set_cons_succ, true_and, and_true, List.cons.injEq, List.nil_append, List.append_nil, List.map_cons, List.map_nil, wipeG, ndOf, List.length_cons, List.length_nil, isTup, if_true, eqOk_int, eqD_int]
          rw [show decide (((ys.length : Nat) : Int) = 2) = twoB (.tup ys) by
            rcases ys with _ | ⟨x, _ | ⟨y, _ | ⟨z, r⟩⟩⟩ <;> simp [twoB]; omega]
          exact h'
        | _ => simpa [isTup, twoB] using h'
      · refine ⟨xs.map twoB, ?_, ?_⟩
        · rw [List.map_map]
          rfl
        · rw [List.all_map]
          exact h
    · have e : partB (.tup xs) = false := by
        simp only [partB]
        cases q : xs.all pairB with
        | false => rfl
        | true =>
          have q2 : xs.all twoB = true := List.all_eq_true.mpr fun x hx => pair_two (List.all_eq_true.mp q x hx)
          rw [q2] at hv
          cases hv
      rw [e] at hk
      exact hk
    · have h2 : ∀ x ∈ xs, twoB x = true := List.all_eq_true.mp (by simpa using hv)
      refine do_next ?_
      refine do_if (v := !xs.all pairB) (fun k kx h => ?_) (fun hv => ?_) (fun hv => ?_)
      · simp only [ap_var, ap_C, ap_op, ap_un, ap_cb, ap_test, ap_chain, ap_and, ap_or, ap_not, ap_andV, ap_orV, ap_notV, ap_if, ap_nil, ap_cons, ap_lst, ap_tup, ap_noP, ap_part, ap_sl, ap_next, ap_ret, ap_set, ap_drop, ap_asg, ap_par, ap_nm, ap_no, ap_cn, ap_tp, ap_itL, ap_itZ, ap_itT, ap_itS, ap_rng1, ap_zip, ap_lc, ap_yes, ap_call, ap_callK, ap_join, ap_pen, ap_penSet, ap_sortSet, ap_eq, ap_ne, ap_isi, ap_repr, ap_all, ap_I, ap_1I, ap_addI, ap_addS, ap_addL, ap_ltI, ap_ltS, ap_lenS, ap_lenL, ap_lenT, ap_lenZ, ap_ixL, ap_ixT, ap_ixS, ap_slL, ap_slZ, ap_slS, ap_abs, ap_int, ap_listL, ap_listT, ap_listZ, ap_listS, ap_tupL, ap_tupT, ap_inL, ap_inS, exists_eq_left', exists_eq_left, and_assoc, exists_and_left, D.bl.injEq, D.int.injEq, D.str.injEq, D.lst.injEq, D.tup.injEq, D.scr.injEq, Option.some.injEq, List.getElem?_cons_zero, List.getElem?_cons_succ, List.set_cons_zero, List.set_cons_succ, true_and, and_true, List.cons.injEq, List.nil_append, List.append_nil, List.map_cons, List.map_nil, wipeG, ndOf, List.length_cons, List.length_nil]
        refine LcD_map (v := fun d => .bl (pairB d)) xs hl (fun x hx k' h' => ?_) ?_
        · have gx := good_tup hd hx
          obtain ⟨u, v, rfl⟩ := two_at (h2 x hx)
          have gu := good_tup (x := u) gx (by simp)
          have gv := good_tup (x := v) gx (by simp)
          simp only [ap_var, ap_C, ap_op, ap_un, ap_cb, ap_test, ap_chain, ap_and, ap_or, ap_not, ap_andV, ap_orV, ap_notV, ap_if, ap_nil, ap_cons, ap_lst, ap_tup, ap_noP, ap_part, ap_sl, ap_next, ap_ret, ap_set, ap_drop, ap_asg, ap_par, ap_nm, ap_no, ap_cn, ap_tp, ap_itL, ap_itZ, ap_itT, ap_itS, ap_rng1, ap_zip, ap_lc, ap_yes, ap_call, ap_callK, ap_join, ap_pen, ap_penSet, ap_sortSet, ap_eq, ap_ne, ap_isi, ap_repr, ap_all, ap_I, ap_1I, ap_addI, ap_addS, ap_addL, ap_ltI, ap_ltS, ap_lenS, ap_lenL, ap_lenT, ap_lenZ, ap_ixL, ap_ixT, ap_ixS, ap_slL, ap_slZ, ap_slS, ap_abs, ap_int, ap_listL, ap_listT, ap_listZ, ap_listS, ap_tupL, ap_tupT, ap_inL, ap_inS, exists_eq_left', exists_eq_left, and_assoc, exists_and_left, D.bl.injEq, D.int.injEq, D.str.injEq, D.lst.injEq, D.tup.injEq, D.scr.injEq, Option.some.injEq, List.getElem?_cons_zero, List.getElem?_cons_succ, List.set_cons_zero, List.set_cons_succ, true_and, and_true, List.cons.injEq, List.nil_append, List.append_nil, List.map_cons, List.map_nil, wipeG, ndOf, List.length_cons, List.length_nil, pf1, gu, gv]
          simp only [pairB] at h'
          refine ite_b (fun q => ?_) (fun q => ?_)
          · rw [q, Bool.true_and] at h'
            cases v with
            | int i =>
              simp only [ap_var, ap_C, ap_op, ap_un, ap_cb, ap_test, ap_chain, ap_and, ap_or, ap_not, ap_andV, ap_orV, ap_notV, ap_if, ap_nil, ap_cons, ap_lst, ap_tup, ap_noP, ap_part, ap_sl, ap_next, ap_ret, ap_set, ap_drop, ap_asg, ap_par, ap_nm, ap_no, ap_cn, ap_tp, ap_itL, ap_itZ, ap_itT, ap_itS, ap_rng1, ap_zip, ap_lc, ap_yes, ap_call, ap_callK, ap_join, ap_pen, ap_penSet, ap_sortSet, ap_eq, ap_ne, ap_isi, ap_repr, ap_all, ap_I, ap_1I, ap_addI, ap_addS, ap_addL, ap_ltI, ap_ltS, ap_lenS, ap_lenL, ap_lenT, ap_lenZ, ap_ixL, ap_ixT, ap_ixS, ap_slL, ap_slZ, ap_slS, ap_abs, ap_int, ap_listL, ap_listT, ap_listZ, ap_listS, ap_tupL, ap_tupT, ap_inL, ap_inS, exists_eq_left', exists_eq_left, and_assoc, exists_and_left, D.bl.injEq, D.int.injEq, D.str.injEq, D.lst.injEq, D.tup.injEq, D.scr.injEq, Option.some.injEq, List.getElem?_cons_zero, List.getElem?_cons_succ, List.set_cons_zero, List.set_cons_succ, true_and, and_true, List.cons.injEq, List.nil_append, List.append_nil, List.map_cons, List.map_nil, wipeG, ndOf, List.length_cons, List.length_nil, intB, if_true]
              exact h'
            | _ => simpa [intB, cntB] using h'
          · rw [q, Bool.false_and] at h'
            exact h'
        · refine ⟨xs.map pairB, ?_, ?_⟩
          · rw [List.map_map]
            rfl
          · rw [List.all_map]
            exact h
      · have q : xs.all pairB = false := by simpa using hv
        simp only [partB, q, Bool.false_and] at hk
        exact hk
      · have q : xs.all pairB = true := by simpa using hv
        simp only [partB, q, Bool.true_and] at hk
        simp only [ap_var, ap_C, ap_op, ap_un, ap_cb, ap_test, ap_chain, ap_and, ap_or, ap_not, ap_andV, ap_orV, ap_notV, ap_if, ap_nil, ap_cons, ap_lst, ap_tup, ap_noP, ap_part, ap_sl, ap_next, ap_ret, ap_set, ap_drop, ap_asg, ap_par, ap_nm, ap_no, ap_cn, ap_tp, ap_itL, ap_itZ, ap_itT, ap_itS, ap_rng1, ap_zip, ap_lc, ap_yes, ap_call, ap_callK, ap_join, ap_pen, ap_penSet, ap_sortSet, ap_eq, ap_ne, ap_isi, ap_repr, ap_all, ap_I, ap_1I, ap_addI, ap_addS, ap_addL, ap_ltI, ap_ltS, ap_lenS, ap_lenL, ap_lenT, ap_lenZ, ap_ixL, ap_ixT, ap_ixS, ap_slL, ap_slZ, ap_slS, ap_abs, ap_int, ap_listL, ap_listT, ap_listZ, ap_listS, ap_tupL, ap_tupT, ap_inL, ap_inS, exists_eq_left', exists_eq_left, and_assoc, exists_and_left, D.bl.injEq, D.int.injEq, D.str.injEq, D.lst.injEq, D.tup.injEq, D.scr.injEq, Option.some.injEq, List.getElem?_cons_zero, List.getElem?_cons_succ, List.set_cons_zero, List.set_cons_succ, true_and, and_true, List.cons.injEq, List.nil_append, List.append_nil, List.map_cons, List.map_nil, wipeG, ndOf, List.length_cons, List.length_nil]
        refine LcD_map (v := fun d => .str (handD d)) xs hl (fun x hx k' h' => ?_) ?_
        · obtain ⟨z, y, rfl, e⟩ := pair_hand (List.all_eq_true.mp q x hx)
          simp only [ap_var, ap_C, ap_op, ap_un, ap_cb, ap_test, ap_chain, ap_and, ap_or, ap_not, ap_andV, ap_orV, ap_notV, ap_if, ap_nil, ap_cons, ap_lst, ap_tup, ap_noP, ap_part, ap_sl, ap_next, ap_ret, ap_set, ap_drop, ap_asg, ap_par, ap_nm, ap_no, ap_cn, ap_tp, ap_itL, ap_itZ, ap_itT, ap_itS, ap_rng1, ap_zip, ap_lc, ap_yes, ap_call, ap_callK, ap_join, ap_pen, ap_penSet, ap_sortSet, ap_eq, ap_ne, ap_isi, ap_repr, ap_all, ap_I, ap_1I, ap_addI, ap_addS, ap_addL, ap_ltI, ap_ltS, ap_lenS, ap_lenL, ap_lenT, ap_lenZ, ap_ixL, ap_ixT, ap_ixS, ap_slL, ap_slZ, ap_slS, ap_abs, ap_int, ap_listL, ap_listT, ap_listZ, ap_listS, ap_tupL, ap_tupT, ap_inL, ap_inS, exists_eq_left', exists_eq_left, and_assoc, exists_and_left, D.bl.injEq, D.int.injEq, D.str.injEq, D.lst.injEq, D.tup.injEq, D.scr.injEq, Option.some.injEq, List.getElem?_cons_zero, List.getElem?_cons_succ, List.set_cons_zero, List.set_cons_succ, true_and, and_true, List.cons.injEq, List.nil_append, List.append_nil, List.map_cons, List.map_nil, wipeG, ndOf, List.length_cons, List.length_nil]
          exact h'
        · refine ⟨xs.map handD, ?_, ?_, hk⟩
          · rw [List.map_map]
            rfl
          · rw [List.length_map]
            omega
  | _ =>
    refine do_if (v := true) (fun k kx h => ?_) (fun hv => ?_) (fun hv => ?_)
    · simp only [ap_var, ap_C, ap_op, ap_un, ap_cb, ap_test, ap_chain, ap_and, ap_or, ap_not, ap_andV, ap_orV, ap_notV, ap_if, ap_nil, ap_cons, ap_lst, ap_tup, ap_noP, ap_part, ap_sl, ap_next, ap_ret, ap_set, ap_drop, ap_asg, ap_par, ap_nm, ap_no, ap_cn, ap_tp, ap_itL, ap_itZ, ap_itT, ap_itS, ap_rng1, ap_zip, ap_lc, ap_yes, ap_call, ap_callK, ap_join, ap_pen, ap_penSet, ap_sortSet, ap_eq, ap_ne, ap_isi, ap_repr, ap_all, ap_I, ap_1I, ap_addI, ap_addS, ap_addL, ap_ltI, ap_ltS, ap_lenS, ap_lenL, ap_lenT, ap_lenZ, ap_ixL, ap_ixT, ap_ixS, ap_slL, ap_slZ, ap_slS, ap_abs, ap_int, ap_listL, ap_listT, ap_listZ, ap_listS, ap_tupL, ap_tupT, ap_inL, ap_inS, exists_eq_left', exists_eq_left, and_assoc, exists_and_left, D.bl.injEq, D.int.injEq, D.str.injEq, D.lst.injEq, D.tup.injEq, D.scr.injEq, Option.some.injEq, List.getElem?_cons_zero, List.getElem?_cons_succ, List.set_cons_zero, List.set_cons_succ, true_and, and_true, List.cons.injEq, List.nil_append, List.append_nil, List.map_cons, List.map_nil, wipeG, ndOf, List.length_cons, List.length_nil, isT_tup, isTok_tup ht, isTup]
      simpa using h
    · exact hk
    · cases hv
/-! ### _law_is_name -/
theorem inD_strs (x : Str) (ys : List Str) : inD (.str x) (ys.map .str) = decide (x ∈ ys) := by
  unfold inD inV
  rw [List.map_map, List.any_map]
  apply Bool.eq_iff_iff.mpr
  rw [List.any_eq_true, decide_eq_true_eq]
  constructor
  · rintro ⟨y, hy, e⟩
    have e' : (y == x) = true := e
    rw [beq_iff_eq] at e'
    exact e' ▸ hy
  · intro h
    exact ⟨x, h, show (x == x) = true by simp⟩
theorem ok_law_is_name (T : Txt K mg a fd) : FnG P w K mg base CX0 1 (a 13) (fd 13) ["value"] (spD K (pf1 nameB)) := by
  refine okD T.F__law_is_name sc__law_is_name (fun ds M k ⟨d, e, _⟩ => by rw [e]; rfl) fun cdv A outer s H E hg hr => ⟨_, (ds_cons (ds_if (dt_w (dw_or (dt_not (dt_val (c_isi rfl T.b_isinstance (da_cons (de_var 0) (da_cons (de_ty (n := "str") rfl T.b_str (by decide +kernel)) da_nil))))) (dw_or (t_lt (c_len rfl T.b_len (da_cons (de_var 0) da_nil)) de_int) (dw_or1 (t_gt (c_len rfl T.b_len (da_cons (de_var 0) da_nil)) de_int)))))
  (ds_one (ds_ret de_bl))
  ds_nil)
  (ds_one (ds_ret (d_eq hr.units (de_lc (own := [("sign", 1)]) rfl sc__law_is_name.nd (di_str (de_var 0)) (blkOk_by (N := N__law_is_name) (sc := defScope s__law_is_name) (by decide +kernel)) (fun _ _ _ _ _ => (dg_name 1 sc__law_is_name.nd rfl (by first | exact .inl rfl | exact .inr rfl))) (fun _ _ _ _ _ => (dts_one (t_nin (de_var 1) (c_list rfl rfl T.b_list (da_cons de_str da_nil))))) (fun _ _ _ _ _ => (de_var 1))) (de_lst da_nil))))), fun ds M k h => ?_⟩
  obtain ⟨d, rfl, hd, hk⟩ := h
  have ht := good_ty hd
  rw [show startG N__law_is_name [d] = [some d, none] from rfl]
  cases d with
  | str z =>
    have hs := good_len hd
    refine do_if (v := !(decide (1 ≤ z.length) && decide (z.length ≤ 8))) (fun k kx h => ?_) (fun hv => ?_) (fun hv => ?_)
    · simp only [ap_var, ap_C, ap_op, ap_un, ap_cb, ap_test, ap_chain, ap_and, ap_or, ap_not, ap_andV, ap_orV, ap_notV, ap_if, ap_nil, ap_cons, ap_lst, ap_tup, ap_noP, ap_part, ap_sl, ap_next, ap_ret, ap_set, ap_drop, ap_asg, ap_par, ap_nm, ap_no, ap_cn, ap_tp, ap_itL, ap_itZ, ap_itT, ap_itS, ap_rng1, ap_zip, ap_lc, ap_yes, ap_call, ap_callK, ap_join, ap_pen, ap_penSet, ap_sortSet, ap_eq, ap_ne, ap_isi, ap_repr, ap_all, ap_I, ap_1I, ap_addI, ap_addS, ap_addL, ap_ltI, ap_ltS, ap_lenS, ap_lenL, ap_lenT, ap_lenZ, ap_ixL, ap_ixT, ap_ixS, ap_slL, ap_slZ, ap_slS, ap_abs, ap_int, ap_listL, ap_listT, ap_listZ, ap_listS, ap_tupL, ap_tupT, ap_inL, ap_inS, exists_eq_left', exists_eq_left, and_assoc, exists_and_left, D.bl.injEq, D.int.injEq, D.str.injEq, D.lst.injEq, D.tup.injEq, D.scr.injEq, Option.some.injEq, List.getElem?_cons_zero, List.getElem?_cons_succ, List.set_cons_zero, List.set_cons_succ, true_and, and_true, List.cons.injEq, List.nil_append, List.append_nil, List.map_cons, List.map_nil, wipeG, ndOf, List.length_cons, List.length_nil, isT_str, isTok_str ht, isStr, hs, Bool.not_true, Bool.false_eq_true, if_false]
      refine ite_b (fun q => ?_) (fun q => ?_)
      · rw [show decide (1 ≤ z.length) = false by simp at q ⊢; omega] at h
        exact h
      · rw [show decide (1 ≤ z.length) = true by simp at q ⊢; omega, Bool.true_and] at h
        rw [show decide ((8 : Int) < (z.length : Int)) = !decide (z.length ≤ 8) by apply Bool.eq_iff_iff.mpr; simp; omega]
        exact h
    · rw [show nameB (.str z) = false from by simp only [nameB]; rw [show (decide (1 ≤ z.length) && decide (z.length ≤ 8)) = false from by cases q : (decide (1 ≤ z.length) && decide (z.length ≤ 8)) with | false => rfl | true => (rw [q] at hv; cases hv)]; rfl] at hk
      exact hk
    · have hv' : (decide (1 ≤ z.length) && decide (z.length ≤ 8)) = true := by simpa using hv
      have e : nameB (.str z) = z.cps.toList.all low := by simp only [nameB]; rw [hv']; rfl
      rw [e] at hk
      simp only [ap_var, ap_C, ap_op, ap_un, ap_cb, ap_test, ap_chain, ap_and, ap_or, ap_not, ap_andV, ap_orV, ap_notV, ap_if, ap_nil, ap_cons, ap_lst, ap_tup, ap_noP, ap_part, ap_sl, ap_next, ap_ret, ap_set, ap_drop, ap_asg, ap_par, ap_nm, ap_no, ap_cn, ap_tp, ap_itL, ap_itZ, ap_itT, ap_itS, ap_rng1, ap_zip, ap_lc, ap_yes, ap_call, ap_callK, ap_join, ap_pen, ap_penSet, ap_sortSet, ap_eq, ap_ne, ap_isi, ap_repr, ap_all, ap_I, ap_1I, ap_addI, ap_addS, ap_addL, ap_ltI, ap_ltS, ap_lenS, ap_lenL, ap_lenT, ap_lenZ, ap_ixL, ap_ixT, ap_ixS, ap_slL, ap_slZ, ap_slS, ap_abs, ap_int, ap_listL, ap_listT, ap_listZ, ap_listS, ap_tupL, ap_tupT, ap_inL, ap_inS, exists_eq_left', exists_eq_left, and_assoc, exists_and_left, D.bl.injEq, D.int.injEq, D.str.injEq, D.lst.injEq, D.tup.injEq, D.scr.injEq, Option.some.injEq, List.getElem?_cons_zero, List.getElem?_cons_succ, List.set_cons_zero, List.set_cons_succ, true_and, and_true, List.cons.injEq, List.nil_append, List.append_nil, List.map_cons, List.map_nil, wipeG, ndOf, List.length_cons, List.length_nil]
      have hlow : (("abcdefghijklmnopqrstuvwxyz" : Str).length ≤ sizeLine) := by decide +kernel
      refine LcD_pure (c := fun d => match d with | .str y => !(y.cps.toList.all low) | _ => false) (v := id) _ [] (by rw [List.length_map, Array.length_toList]; show 0 + z.cps.size ≤ _; rw [Nat.zero_add]; exact hs) (fun x hx k' k2 h1 h2 => ?_) ?_
      · obtain ⟨c, hc, rfl⟩ := List.mem_map.mp hx
        have e2 : (("abcdefghijklmnopqrstuvwxyz" : Str).cps.toList.map fun c => D.str ⟨#[c]⟩) = (("abcdefghijklmnopqrstuvwxyz" : Str).cps.toList.map fun c => (⟨#[c]⟩ : Str)).map .str := by rw [List.map_map]; rfl
        have e3 : decide ((⟨#[c]⟩ : Str) ∈ ("abcdefghijklmnopqrstuvwxyz" : Str).cps.toList.map fun c => (⟨#[c]⟩ : Str)) = low c := by
          unfold low
          apply Bool.eq_iff_iff.mpr
          rw [decide_eq_true_eq, decide_eq_true_eq]
          constructor
          · intro h
            obtain ⟨b, hb, e⟩ := List.mem_map.mp h
            cases e
            exact hb
          · exact fun h => List.mem_map.mpr ⟨c, h, rfl⟩
        simp only [ap_var, ap_C, ap_op, ap_un, ap_cb, ap_test, ap_chain, ap_and, ap_or, ap_not, ap_andV, ap_orV, ap_notV, ap_if, ap_nil, ap_cons, ap_lst, ap_tup, ap_noP, ap_part, ap_sl, ap_next, ap_ret, ap_set, ap_drop, ap_asg, ap_par, ap_nm, ap_no, ap_cn, ap_tp, ap_itL, ap_itZ, ap_itT, ap_itS, ap_rng1, ap_zip, ap_lc, ap_yes, ap_call, ap_callK, ap_join, ap_pen, ap_penSet, ap_sortSet, ap_eq, ap_ne, ap_isi, ap_repr, ap_all, ap_I, ap_1I, ap_addI, ap_addS, ap_addL, ap_ltI, ap_ltS, ap_lenS, ap_lenL, ap_lenT, ap_lenZ, ap_ixL, ap_ixT, ap_ixS, ap_slL, ap_slZ, ap_slS, ap_abs, ap_int, ap_listL, ap_listT, ap_listZ, ap_listS, ap_tupL, ap_tupT, ap_inL, ap_inS, exists_eq_left', exists_eq_left, and_assoc, exists_and_left, D.bl.injEq, D.int.injEq, D.str.injEq, D.lst.injEq, D.tup.injEq, D.scr.injEq, Option.some.injEq, List.getElem?_cons_zero, List.getElem?_cons_succ, List.set_cons_zero, List.set_cons_succ, true_and, and_true, List.cons.injEq, List.nil_append, List.append_nil, List.map_cons, List.map_nil, wipeG, ndOf, List.length_cons, List.length_nil, hlow, e2, inD_strs, e3]
        refine ⟨rfl, ?_, ?_⟩
        · rw [List.all_map]
          exact List.all_eq_true.mpr fun _ _ => rfl
        · refine ite_b (fun q => ?_) (fun q => ?_)
          · exact h1 (by simpa using q)
          · exact h2 (by simpa using q)
      · simp only [List.nil_append, List.map_id, eqOk_nil, eqD_nil, true_and]
        have e4 : (z.cps.toList.map fun c => D.str ⟨#[c]⟩).filter (fun d => match d with | .str y => !(y.cps.toList.all low) | _ => false) = ((z.cps.toList.filter fun c => !low c).map fun c => (⟨#[c]⟩ : Str)).map .str := by
          rw [List.filter_map, List.map_map]
          refine congrArg _ (List.filter_congr fun c _ => ?_)
          simp
        rw [e4]
        refine ⟨Nat.zero_le _, eqOk_strs fun x hx => ?_, ?_⟩
        · obtain ⟨c, hc, rfl⟩ := List.mem_map.mp hx
          have hc' := (List.mem_filter.mp hc).1
          simp only [good, Bool.and_eq_true] at hd
          have h2 := hd.2
          unfold PyData.strOk at h2 ⊢
          rw [← Array.all_toList, List.all_eq_true] at h2 ⊢
          intro y hy
          have : y = c := by simpa using hy
          exact this ▸ h2 c hc'
        · have e5 : (((z.cps.toList.filter fun c => !low c).map fun c => (⟨#[c]⟩ : Str)).map D.str).isEmpty = z.cps.toList.all low := by
            generalize z.cps.toList = l
            apply Bool.eq_iff_iff.mpr
            simp
          rw [e5]
          exact hk
  | _ =>
    refine do_if (v := true) (fun k kx h => ?_) (fun hv => ?_) (fun hv => ?_)
    · simp only [ap_var, ap_C, ap_op, ap_un, ap_cb, ap_test, ap_chain, ap_and, ap_or, ap_not, ap_andV, ap_orV, ap_notV, ap_if, ap_nil, ap_cons, ap_lst, ap_tup, ap_noP, ap_part, ap_sl, ap_next, ap_ret, ap_set, ap_drop, ap_asg, ap_par, ap_nm, ap_no, ap_cn, ap_tp, ap_itL, ap_itZ, ap_itT, ap_itS, ap_rng1, ap_zip, ap_lc, ap_yes, ap_call, ap_callK, ap_join, ap_pen, ap_penSet, ap_sortSet, ap_eq, ap_ne, ap_isi, ap_repr, ap_all, ap_I, ap_1I, ap_addI, ap_addS, ap_addL, ap_ltI, ap_ltS, ap_lenS, ap_lenL, ap_lenT, ap_lenZ, ap_ixL, ap_ixT, ap_ixS, ap_slL, ap_slZ, ap_slS, ap_abs, ap_int, ap_listL, ap_listT, ap_listZ, ap_listS, ap_tupL, ap_tupT, ap_inL, ap_inS, exists_eq_left', exists_eq_left, and_assoc, exists_and_left, D.bl.injEq, D.int.injEq, D.str.injEq, D.lst.injEq, D.tup.injEq, D.scr.injEq, Option.some.injEq, List.getElem?_cons_zero, List.getElem?_cons_succ, List.set_cons_zero, List.set_cons_succ, true_and, and_true, List.cons.injEq, List.nil_append, List.append_nil, List.map_cons, List.map_nil, wipeG, ndOf, List.length_cons, List.length_nil, isT_str, isTok_str ht, isStr]
      simpa using h
    · exact hk
    · cases hv
end
end Loneboard_k01_checks_of_any_values

set_option Elab.async false
set_option linter.all false
set_option maxRecDepth 100000
set_option maxHeartbeats 4000000
namespace Loneboard_k01_checks_of_any_values
open PySem PySem.Spec PyProof.Rows L2 Dl
section
variable {P : Program} {w : World} {K : PySem.W.Frag} {mg : Str → Option Value} {base : Heap} {a : Nat → Addr} {fd : Nat → FuncData}
/-! ### _law_is_letter -/
theorem str_list {z : Str} (h : z ≠ "") : ∃ (l : List Nat) (c : Nat), z.cps.toList = l ++ [c] ∧ z.length = l.length + 1 := by
  have hne : z.cps.toList ≠ [] := fun e => h (str_ext e)
  refine ⟨z.cps.toList.dropLast, z.cps.toList.getLast hne, (List.dropLast_concat_getLast hne).symm, ?_⟩
  show z.cps.size = _
  rw [← Array.length_toList, List.length_dropLast]
  have : z.cps.toList.length ≠ 0 := fun h0 => hne (List.length_eq_zero_iff.mp h0)
  omega
theorem sIx_last (n d : Nat) : HT.sIx (n + 1) d (some (-1)) = n := by
  show (if (-1 : Int) < 0 then ((-1 : Int) + ((n + 1 : Nat) : Int)).toNat else min (-1 : Int).toNat (n + 1)) = n
  rw [if_pos (by decide)]
  omega
theorem sIx_len (n d : Nat) : HT.sIx (n + 1) d (some (((n + 1 : Nat) : Int) - 1)) = n := by
  show (if ((n + 1 : Nat) : Int) - 1 < 0 then _ else min (((n + 1 : Nat) : Int) - 1).toNat (n + 1)) = n
  rw [if_neg (by omega)]
  omega
theorem cut_last {z : Str} {l : List Nat} {c : Nat} (e : z.cps.toList = l ++ [c]) (hl : z.length = l.length + 1) : cutS z (some (-1)) none = ⟨#[c]⟩ := by
  apply str_ext
  unfold cutS
  rw [hl, e, sIx_last, HT.sIx_none, List.drop_append_of_le_length (Nat.le_refl _), List.drop_length]
  simp
theorem cut_front {z : Str} {l : List Nat} {c : Nat} (e : z.cps.toList = l ++ [c]) (hl : z.length = l.length + 1) : cutS z none (some (-1)) = cutS z none (some ((z.length : Int) - 1)) := by
  unfold cutS
  rw [hl, sIx_last, sIx_len]
theorem ok_law_is_letter (T : Txt K mg a fd) : FnG P w K mg base CX0 2 (a 14) (fd 14) ["value"] (spD K (pf1 letB)) := by
  have G__law_is_name := ok_law_is_name (P := P) (w := w) (base := base) T
  refine okD T.F__law_is_letter sc__law_is_letter (fun ds M k ⟨d, e, _⟩ => by rw [e]; rfl) fun cdv A outer s H E hg hr => ⟨_, (ds_cons (ds_if (dt_w (dw_or (dt_not (dt_val (c_isi rfl T.b_isinstance (da_cons (de_var 0) (da_cons (de_ty (n := "str") rfl T.b_str (by decide +kernel)) da_nil))))) (dw_or1 (t_eq hr.units (de_var 0) de_str))))
  (ds_one (ds_ret de_bl))
  ds_nil)
  (ds_one (ds_ret (de_if (t_eq hr.units (d_ix (de_var 0) (d_sub (c_len rfl T.b_len (da_cons (de_var 0) da_nil)) de_int)) de_str) (de_call G__law_is_name hg (hr.mono (by omega)) rfl T.g__law_is_name T.k__law_is_name T.bb__law_is_name .nil (fun _ _ => .nil) (da_cons (d_sl (de_var 0) do_none (do_some (d_sub (c_len rfl T.b_len (da_cons (de_var 0) da_nil)) de_int))) da_nil)) (de_call G__law_is_name hg (hr.mono (by omega)) rfl T.g__law_is_name T.k__law_is_name T.bb__law_is_name .nil (fun _ _ => .nil) (da_cons (de_var 0) da_nil)))))), fun ds M k h => ?_⟩
  obtain ⟨d, rfl, hd, hk⟩ := h
  have ht := good_ty hd
  rw [show startG N__law_is_letter [d] = [some d] from rfl]
  have e0 : eqOk (.str ("" : Str)) = true := eqOk_str (by decide +kernel)
  have e1 : eqOk (.str (">" : Str)) = true := eqOk_str (by decide +kernel)
  cases d with
  | str z =>
    have hs := good_len hd
    refine do_if (v := decide (z = "")) (fun k kx h => ?_) (fun hv => ?_) (fun hv => ?_)
    · simp only [ap_var, ap_C, ap_op, ap_un, ap_cb, ap_test, ap_chain, ap_and, ap_or, ap_not, ap_andV, ap_orV, ap_notV, ap_if, ap_nil, ap_cons, ap_lst, ap_tup, ap_noP, ap_part, ap_sl, ap_next, ap_ret, ap_set, ap_drop, ap_asg, ap_par, ap_nm, ap_no, ap_cn, ap_tp, ap_itL, ap_itZ, ap_itT, ap_itS, ap_rng1, ap_zip, ap_lc, ap_yes, ap_call, ap_callK, ap_join, ap_pen, ap_penSet, ap_sortSet, ap_eq, ap_ne, ap_isi, ap_repr, ap_all, ap_I, ap_1I, ap_addI, ap_addS, ap_addL, ap_ltI, ap_ltS, ap_lenS, ap_lenL, ap_lenT, ap_lenZ, ap_ixL, ap_ixT, ap_ixS, ap_slL, ap_slZ, ap_slS, ap_abs, ap_int, ap_listL, ap_listT, ap_listZ, ap_listS, ap_tupL, ap_tupT, ap_inL, ap_inS, exists_eq_left', exists_eq_left, and_assoc, exists_and_left, D.bl.injEq, D.int.injEq, D.str.injEq, D.lst.injEq, D.tup.injEq, D.scr.injEq, Option.some.injEq, List.getElem?_cons_zero, List.getElem?_cons_succ, List.set_cons_zero, List.set_cons_succ, true_and, and_true, List.cons.injEq, List.nil_append, List.append_nil, List.map_cons, List.map_nil, wipeG, ndOf, List.length_cons, List.length_nil, isT_str, isTok_str ht, isStr, hs, Bool.not_true, Bool.false_eq_true, if_false, good_eq hd, e0, eqD_str]
      exact h
    · have q := of_decide_eq_true hv
      subst q
      rw [show letB (.str ("" : Str)) = false by decide +kernel] at hk
      exact hk
    · have hne := of_decide_eq_false hv
      obtain ⟨l, c, e, hl⟩ := str_list hne
      have hix : L2.atI z.cps.toList ((z.length : Int) - 1) = some c := by
        rw [atI_at (by omega) (by rw [Array.length_toList]; show _ < (z.length : Int); omega)]
        have : ((z.length : Int) - 1).toNat = l.length := by omega
        simp only [this, e, List.getElem_concat_length]
      have ec : PyData.strOk ⟨#[c]⟩ = true := by
        have h2 : PyData.strOk z = true := by
          simp only [good, Bool.and_eq_true] at hd
          exact hd.2
        unfold PyData.strOk at h2 ⊢
        rw [← Array.all_toList, List.all_eq_true] at h2 ⊢
        intro y hy
        have : y = c := by simpa using hy
        exact this ▸ h2 c (by rw [e]; simp)
      simp only [ap_var, ap_C, ap_op, ap_un, ap_cb, ap_test, ap_chain, ap_and, ap_or, ap_not, ap_andV, ap_orV, ap_notV, ap_if, ap_nil, ap_cons, ap_lst, ap_tup, ap_noP, ap_part, ap_sl, ap_next, ap_ret, ap_set, ap_drop, ap_asg, ap_par, ap_nm, ap_no, ap_cn, ap_tp, ap_itL, ap_itZ, ap_itT, ap_itS, ap_rng1, ap_zip, ap_lc, ap_yes, ap_call, ap_callK, ap_join, ap_pen, ap_penSet, ap_sortSet, ap_eq, ap_ne, ap_isi, ap_repr, ap_all, ap_I, ap_1I, ap_addI, ap_addS, ap_addL, ap_ltI, ap_ltS, ap_lenS, ap_lenL, ap_lenT, ap_lenZ, ap_ixL, ap_ixT, ap_ixS, ap_slL, ap_slZ, ap_slS, ap_abs, ap_int, ap_listL, ap_listT, ap_listZ, ap_listS, ap_tupL, ap_tupT, ap_inL, ap_inS, exists_eq_left', exists_eq_left, and_assoc, exists_and_left, D.bl.injEq, D.int.injEq, D.str.injEq, D.lst.injEq, D.tup.injEq, D.scr.injEq, Option.some.injEq, List.getElem?_cons_zero, List.getElem?_cons_succ, List.set_cons_zero, List.set_cons_succ, true_and, and_true, List.cons.injEq, List.nil_append, List.append_nil, List.map_cons, List.map_nil, wipeG, ndOf, List.length_cons, List.length_nil, hs, hix, e1, eqOk_str ec, eqD_str, pf1, good_cut hd, hd, if_true]
      simp only [letB, cut_last e hl, cut_front e hl] at hk
      refine ite_b (fun h => ?_) (fun h => ?_)
      · rw [if_pos (of_decide_eq_true h)] at hk
        exact hk
      · rw [if_neg (of_decide_eq_false h)] at hk
        exact hk
  | _ =>
    refine do_if (v := true) (fun k kx h => ?_) (fun hv => ?_) (fun hv => ?_)
    · simp only [ap_var, ap_C, ap_op, ap_un, ap_cb, ap_test, ap_chain, ap_and, ap_or, ap_not, ap_andV, ap_orV, ap_notV, ap_if, ap_nil, ap_cons, ap_lst, ap_tup, ap_noP, ap_part, ap_sl, ap_next, ap_ret, ap_set, ap_drop, ap_asg, ap_par, ap_nm, ap_no, ap_cn, ap_tp, ap_itL, ap_itZ, ap_itT, ap_itS, ap_rng1, ap_zip, ap_lc, ap_yes, ap_call, ap_callK, ap_join, ap_pen, ap_penSet, ap_sortSet, ap_eq, ap_ne, ap_isi, ap_repr, ap_all, ap_I, ap_1I, ap_addI, ap_addS, ap_addL, ap_ltI, ap_ltS, ap_lenS, ap_lenL, ap_lenT, ap_lenZ, ap_ixL, ap_ixT, ap_ixS, ap_slL, ap_slZ, ap_slS, ap_abs, ap_int, ap_listL, ap_listT, ap_listZ, ap_listS, ap_tupL, ap_tupT, ap_inL, ap_inS, exists_eq_left', exists_eq_left, and_assoc, exists_and_left, D.bl.injEq, D.int.injEq, D.str.injEq, D.lst.injEq, D.tup.injEq, D.scr.injEq, Option.some.injEq, List.getElem?_cons_zero, List.getElem?_cons_succ, List.set_cons_zero, List.set_cons_succ, true_and, and_true, List.cons.injEq, List.nil_append, List.append_nil, List.map_cons, List.map_nil, wipeG, ndOf, List.length_cons, List.length_nil, isT_str, isTok_str ht, isStr]
      simpa using h
    · exact hk
    · cases hv
/-! ### _law_is_count -/
theorem ok_law_is_count (T : Txt K mg a fd) : FnG P w K mg base CX0 1 (a 15) (fd 15) ["value"] (spD K (pf1 cntB)) := by
  refine okD T.F__law_is_count sc__law_is_count (fun ds M k ⟨d, e, _⟩ => by rw [e]; rfl) fun cdv A outer s H E hg hr => ⟨_, (ds_one (ds_ret (de_and (c_isi rfl T.b_isinstance (da_cons (de_var 0) (da_cons (de_ty (n := "int") rfl T.b_int (by decide +kernel)) da_nil))) (de_and (de_not (c_isi rfl T.b_isinstance (da_cons (de_var 0) (da_cons (de_ty (n := "bool") rfl T.b_bool (by decide +kernel)) da_nil)))) (de_one (d_gt (de_var 0) de_int)))))), fun ds M k h => ?_⟩
  obtain ⟨d, rfl, hd, hk⟩ := h
  have ht := good_ty hd
  rw [show startG N__law_is_count [d] = [some d] from rfl]
  simp only [ap_var, ap_C, ap_op, ap_un, ap_cb, ap_test, ap_chain, ap_and, ap_or, ap_not, ap_andV, ap_orV, ap_notV, ap_if, ap_nil, ap_cons, ap_lst, ap_tup, ap_noP, ap_part, ap_sl, ap_next, ap_ret, ap_set, ap_drop, ap_asg, ap_par, ap_nm, ap_no, ap_cn, ap_tp, ap_itL, ap_itZ, ap_itT, ap_itS, ap_rng1, ap_zip, ap_lc, ap_yes, ap_call, ap_callK, ap_join, ap_pen, ap_penSet, ap_sortSet, ap_eq, ap_ne, ap_isi, ap_repr, ap_all, ap_I, ap_1I, ap_addI, ap_addS, ap_addL, ap_ltI, ap_ltS, ap_lenS, ap_lenL, ap_lenT, ap_lenZ, ap_ixL, ap_ixT, ap_ixS, ap_slL, ap_slZ, ap_slS, ap_abs, ap_int, ap_listL, ap_listT, ap_listZ, ap_listS, ap_tupL, ap_tupT, ap_inL, ap_inS, exists_eq_left', exists_eq_left, and_assoc, exists_and_left, D.bl.injEq, D.int.injEq, D.str.injEq, D.lst.injEq, D.tup.injEq, D.scr.injEq, Option.some.injEq, List.getElem?_cons_zero, List.getElem?_cons_succ, List.set_cons_zero, List.set_cons_succ, true_and, and_true, List.cons.injEq, List.nil_append, List.append_nil, List.map_cons, List.map_nil, wipeG, ndOf, List.length_cons, List.length_nil, isT_int, isTok_int ht, isT_bool, isTok_bool ht]
  cases d with
  | int i =>
    simp only [ap_var, ap_C, ap_op, ap_un, ap_cb, ap_test, ap_chain, ap_and, ap_or, ap_not, ap_andV, ap_orV, ap_notV, ap_if, ap_nil, ap_cons, ap_lst, ap_tup, ap_noP, ap_part, ap_sl, ap_next, ap_ret, ap_set, ap_drop, ap_asg, ap_par, ap_nm, ap_no, ap_cn, ap_tp, ap_itL, ap_itZ, ap_itT, ap_itS, ap_rng1, ap_zip, ap_lc, ap_yes, ap_call, ap_callK, ap_join, ap_pen, ap_penSet, ap_sortSet, ap_eq, ap_ne, ap_isi, ap_repr, ap_all, ap_I, ap_1I, ap_addI, ap_addS, ap_addL, ap_ltI, ap_ltS, ap_lenS, ap_lenL, ap_lenT, ap_lenZ, ap_ixL, ap_ixT, ap_ixS, ap_slL, ap_slZ, ap_slS, ap_abs, ap_int, ap_listL, ap_listT, ap_listZ, ap_listS, ap_tupL, ap_tupT, ap_inL, ap_inS, exists_eq_left', exists_eq_left, and_assoc, exists_and_left, D.bl.injEq, D.int.injEq, D.str.injEq, D.lst.injEq, D.tup.injEq, D.scr.injEq, Option.some.injEq, List.getElem?_cons_zero, List.getElem?_cons_succ, List.set_cons_zero, List.set_cons_succ, true_and, and_true, List.cons.injEq, List.nil_append, List.append_nil, List.map_cons, List.map_nil, wipeG, ndOf, List.length_cons, List.length_nil, Dl.isInt, Dl.isBool, Bool.not_false, if_true]
    simp only [cntB] at hk
    rw [show decide ((0 : Int) < i) = decide ((1 : Int) ≤ i) by apply Bool.eq_iff_iff.mpr; simp; omega]
    exact hk
  | _ => simpa [Dl.isInt, Dl.isBool, cntB] using hk
/-! ### _law_is_stamp -/
theorem ok_law_is_stamp (T : Txt K mg a fd) : FnG P w K mg base CX0 2 (a 16) (fd 16) ["value"] (spD K (pf1 stampB)) := by
  have G__law_is_name := ok_law_is_name (P := P) (w := w) (base := base) T
  have G__law_is_count := ok_law_is_count (P := P) (w := w) (base := base) T
  refine okD T.F__law_is_stamp sc__law_is_stamp (fun ds M k ⟨d, e, _⟩ => by rw [e]; rfl) fun cdv A outer s H E hg hr => ⟨_, (ds_one (ds_ret (de_and (c_isi rfl T.b_isinstance (da_cons (de_var 0) (da_cons (de_ty (n := "tuple") rfl T.b_tuple (by decide +kernel)) da_nil))) (de_and (d_eq hr.units (c_len rfl T.b_len (da_cons (de_var 0) da_nil)) de_int) (de_and (de_call G__law_is_count hg (hr.mono (by omega)) rfl T.g__law_is_count T.k__law_is_count T.bb__law_is_count .nil (fun _ _ => .nil) (da_cons (d_ix (de_var 0) de_int) da_nil)) (de_one (de_call G__law_is_name hg (hr.mono (by omega)) rfl T.g__law_is_name T.k__law_is_name T.bb__law_is_name .nil (fun _ _ => .nil) (da_cons (d_ix (de_var 0) de_int) da_nil)))))))), fun ds M k h => ?_⟩
  obtain ⟨d, rfl, hd, hk⟩ := h
  have ht := good_ty hd
  rw [show startG N__law_is_stamp [d] = [some d] from rfl]
  simp only [ap_var, ap_C, ap_op, ap_un, ap_cb, ap_test, ap_chain, ap_and, ap_or, ap_not, ap_andV, ap_orV, ap_notV, ap_if, ap_nil, ap_cons, ap_lst, ap_tup, ap_noP, ap_part, ap_sl, ap_next, ap_ret, ap_set, ap_drop, ap_asg, ap_par, ap_nm, ap_no, ap_cn, ap_tp, ap_itL, ap_itZ, ap_itT, ap_itS, ap_rng1, ap_zip, ap_lc, ap_yes, ap_call, ap_callK, ap_join, ap_pen, ap_penSet, ap_sortSet, ap_eq, ap_ne, ap_isi, ap_repr, ap_all, ap_I, ap_1I, ap_addI, ap_addS, ap_addL, ap_ltI, ap_ltS, ap_lenS, ap_lenL, ap_lenT, ap_lenZ, ap_ixL, ap_ixT, ap_ixS, ap_slL, ap_slZ, ap_slS, ap_abs, ap_int, ap_listL, ap_listT, ap_listZ, ap_listS, ap_tupL, ap_tupT, ap_inL, ap_inS, exists_eq_left', exists_eq_left, and_assoc, exists_and_left, D.bl.injEq, D.int.injEq, D.str.injEq, D.lst.injEq, D.tup.injEq, D.scr.injEq, Option.some.injEq, List.getElem?_cons_zero, List.getElem?_cons_succ, List.set_cons_zero, List.set_cons_succ, true_and, and_true, List.cons.injEq, List.nil_append, List.append_nil, List.map_cons, List.map_nil, wipeG, ndOf, List.length_cons, List.length_nil, isT_tup, isTok_tup ht]
  cases d with
  | tup xs =>
    simp only [ap_var, ap_C, ap_op, ap_un, ap_cb, ap_test, ap_chain, ap_and, ap_or, ap_not, ap_andV, ap_orV, ap_notV, ap_if, ap_nil, ap_cons, ap_lst, ap_tup, ap_noP, ap_part, ap_sl, ap_next, ap_ret, ap_set, ap_drop, ap_asg, ap_par, ap_nm, ap_no, ap_cn, ap_tp, ap_itL, ap_itZ, ap_itT, ap_itS, ap_rng1, ap_zip, ap_lc, ap_yes, ap_call, ap_callK, ap_join, ap_pen, ap_penSet, ap_sortSet, ap_eq, ap_ne, ap_isi, ap_repr, ap_all, ap_I, ap_1I, ap_addI, ap_addS, ap_addL, ap_ltI, ap_ltS, ap_lenS, ap_lenL, ap_lenT, ap_lenZ, ap_ixL, ap_ixT, ap_ixS, ap_slL, ap_slZ, ap_slS, ap_abs, ap_int, ap_listL, ap_listT, ap_listZ, ap_listS, ap_tupL, ap_tupT, ap_inL, ap_inS, exists_eq_left', exists_eq_left, and_assoc, exists_and_left, D.bl.injEq, D.int.injEq, D.str.injEq, D.lst.injEq, D.tup.injEq, D.scr.injEq, Option.some.injEq, List.getElem?_cons_zero, List.getElem?_cons_succ, List.set_cons_zero, List.set_cons_succ, true_and, and_true, List.cons.injEq, List.nil_append, List.append_nil, List.map_cons, List.map_nil, wipeG, ndOf, List.length_cons, List.length_nil, isTup, if_true, eqOk_int, eqD_int]
    refine ite_b (fun h => ?_) (fun h => ?_)
    · have h2 : xs.length = 2 := by
        have := of_decide_eq_true h
        omega
      obtain ⟨x, y, rfl⟩ := len2 h2
      have gx := good_tup (x := x) hd (by simp)
      have gy := good_tup (x := y) hd (by simp)
      simp only [stampB] at hk
      simp only [ap_var, ap_C, ap_op, ap_un, ap_cb, ap_test, ap_chain, ap_and, ap_or, ap_not, ap_andV, ap_orV, ap_notV, ap_if, ap_nil, ap_cons, ap_lst, ap_tup, ap_noP, ap_part, ap_sl, ap_next, ap_ret, ap_set, ap_drop, ap_asg, ap_par, ap_nm, ap_no, ap_cn, ap_tp, ap_itL, ap_itZ, ap_itT, ap_itS, ap_rng1, ap_zip, ap_lc, ap_yes, ap_call, ap_callK, ap_join, ap_pen, ap_penSet, ap_sortSet, ap_eq, ap_ne, ap_isi, ap_repr, ap_all, ap_I, ap_1I, ap_addI, ap_addS, ap_addL, ap_ltI, ap_ltS, ap_lenS, ap_lenL, ap_lenT, ap_lenZ, ap_ixL, ap_ixT, ap_ixS, ap_slL, ap_slZ, ap_slS, ap_abs, ap_int, ap_listL, ap_listT, ap_listZ, ap_listS, ap_tupL, ap_tupT, ap_inL, ap_inS, exists_eq_left', exists_eq_left, and_assoc, exists_and_left, D.bl.injEq, D.int.injEq, D.str.injEq, D.lst.injEq, D.tup.injEq, D.scr.injEq, Option.some.injEq, List.getElem?_cons_zero, List.getElem?_cons_succ, List.set_cons_zero, List.set_cons_succ, true_and, and_true, List.cons.injEq, List.nil_append, List.append_nil, List.map_cons, List.map_nil, wipeG, ndOf, List.length_cons, List.length_nil, pf1, show L2.atI [x, y] 0 = some x from rfl, show L2.atI [x, y] 1 = some y from rfl, gx, gy]
      refine ite_b (fun q => ?_) (fun q => ?_)
      · rw [q, Bool.true_and] at hk
        exact hk
      · rw [q, Bool.false_and] at hk
        exact hk
    · have e : stampB (.tup xs) = false := by
        have hne := of_decide_eq_false h
        rcases xs with _ | ⟨x, _ | ⟨y, _ | ⟨z, r⟩⟩⟩ <;> first | rfl | exact absurd rfl hne
      rw [e] at hk
      exact hk
  | _ => simpa [isTup, stampB] using hk
/-! ### _law_is_part -/
theorem asc_pw : ∀ xs : List Str, ascB xs = true ↔ Asc xs
  | [] => by simp [ascB]
  | [x] => by simp [ascB]
  | x :: y :: r => by
    have ih := asc_pw (y :: r)
    show (ltS x y && ascB (y :: r)) = true ↔ _
    rw [Bool.and_eq_true, ih]
    constructor
    · rintro ⟨h1, h2⟩
      refine List.pairwise_cons.mpr ⟨fun z hz => ?_, h2⟩
      rcases List.mem_cons.mp hz with e | hz
      · rw [e]; exact h1
      · exact ltS_trans h1 ((List.pairwise_cons.mp h2).1 z hz)
    · intro h
      obtain ⟨h1, h2⟩ := List.pairwise_cons.mp h
      exact ⟨h1 y List.mem_cons_self, h2⟩
theorem asc_sorted {xs ys : List Str} (h : Asc ys) (hm : ∀ x, x ∈ ys ↔ x ∈ xs) : decide (xs = ys) = ascB xs := by
  apply Bool.eq_iff_iff.mpr
  rw [decide_eq_true_eq, asc_pw]
  constructor
  · exact fun e => e ▸ h
  · exact fun h2 => asc_unique h2 h fun x => (hm x).symm
theorem ok_law_is_part (T : Txt K mg a fd) : FnG P w K mg base CX0 2 (a 17) (fd 17) ["value"] (spD K (pf1 partB)) := by
  have G__law_is_name := ok_law_is_name (P := P) (w := w) (base := base) T
  have G__law_is_count := ok_law_is_count (P := P) (w := w) (base := base) T
  refine okD T.F__law_is_part sc__law_is_part (fun ds M k ⟨d, e, _⟩ => by rw [e]; rfl) fun cdv A outer s H E hg hr => ⟨_, (ds_cons (ds_if (dt_not (dt_val (c_isi rfl T.b_isinstance (da_cons (de_var 0) (da_cons (de_ty (n := "tuple") rfl T.b_tuple (by decide +kernel)) da_nil)))))
  (ds_one (ds_ret de_bl))
  ds_nil)
  (ds_cons (ds_for PassesOwn.never rfl (di_tup (de_var 0)) (dg_name 1 sc__law_is_part.nd rfl (by first | exact .inl rfl | exact .inr rfl))
  (ds_one (ds_if (dt_w (dw_or (dt_not (dt_val (c_isi rfl T.b_isinstance (da_cons (de_var 1) (da_cons (de_ty (n := "tuple") rfl T.b_tuple (by decide +kernel)) da_nil))))) (dw_or (t_ne hr.units (c_len rfl T.b_len (da_cons (de_var 1) da_nil)) de_int) (dw_or (dt_not (dt_val (de_call G__law_is_name hg (hr.mono (by omega)) rfl T.g__law_is_name T.k__law_is_name T.bb__law_is_name .nil (fun _ _ => .nil) (da_cons (d_ix (de_var 1) de_int) da_nil)))) (dw_or1 (dt_not (dt_val (de_call G__law_is_count hg (hr.mono (by omega)) rfl T.g__law_is_count T.k__law_is_count T.bb__law_is_count .nil (fun _ _ => .nil) (da_cons (d_ix (de_var 1) de_int) da_nil)))))))))
  (ds_one (ds_ret de_bl))
  ds_nil)))
  (ds_cons (ds_setLc 2 rfl sc__law_is_part.nd rfl rfl (sw_true rfl rfl rfl (by decide +kernel)) (own := [("pair", 1)]) (di_tup (de_var 0)) (blkOk_by (N := N__law_is_part) (sc := defScope s__law_is_part) (by decide +kernel)) (fun _ _ _ _ _ => (dg_name 1 sc__law_is_part.nd rfl (by first | exact .inl rfl | exact .inr rfl))) (fun _ _ _ _ _ => dts_nil) (fun _ _ _ _ _ => (d_ix (de_var 1) de_int)))
  (ds_one (ds_ret (d_eq hr.units (de_var 2) (c_sortedSet rfl rfl rfl T.b_sorted T.b_set (da_cons (de_var 2) da_nil)))))))), fun ds M k h => ?_⟩
  obtain ⟨d, rfl, hd, hk⟩ := h
  have ht := good_ty hd
  rw [show startG N__law_is_part [d] = [some d, none, none] from rfl]
  cases d with
  | tup xs =>
    have hx : xs.length < 40 := by
      simp only [good, Bool.and_eq_true, decide_eq_true_eq] at hd
      exact hd.1
    have hl : xs.length ≤ sizeLine := Nat.le_trans (Nat.le_of_lt hx) (by decide)
    refine do_if (v := false) (fun k kx h => ?_) (fun hv => ?_) (fun hv => ?_)
    · simp only [ap_var, ap_C, ap_op, ap_un, ap_cb, ap_test, ap_chain, ap_and, ap_or, ap_not, ap_andV, ap_orV, ap_notV, ap_if, ap_nil, ap_cons, ap_lst, ap_tup, ap_noP, ap_part, ap_sl, ap_next, ap_ret, ap_set, ap_drop, ap_asg, ap_par, ap_nm, ap_no, ap_cn, ap_tp, ap_itL, ap_itZ, ap_itT, ap_itS, ap_rng1, ap_zip, ap_lc, ap_yes, ap_call, ap_callK, ap_join, ap_pen, ap_penSet, ap_sortSet, ap_eq, ap_ne, ap_isi, ap_repr, ap_all, ap_I, ap_1I, ap_addI, ap_addS, ap_addL, ap_ltI, ap_ltS, ap_lenS, ap_lenL, ap_lenT, ap_lenZ, ap_ixL, ap_ixT, ap_ixS, ap_slL, ap_slZ, ap_slS, ap_abs, ap_int, ap_listL, ap_listT, ap_listZ, ap_listS, ap_tupL, ap_tupT, ap_inL, ap_inS, exists_eq_left', exists_eq_left, and_assoc, exists_and_left, D.bl.injEq, D.int.injEq, D.str.injEq, D.lst.injEq, D.tup.injEq, D.scr.injEq, Option.some.injEq, List.getElem?_cons_zero, List.getElem?_cons_succ, List.set_cons_zero, List.set_cons_succ, true_and, and_true, List.cons.injEq, List.nil_append, List.append_nil, List.map_cons, List.map_nil, wipeG, ndOf, List.length_cons, List.length_nil, isT_tup, isTok_tup ht, isTup, Bool.not_true]
      exact h
    · cases hv
    · refine do_next ?_
      refine ⟨.tup xs, rfl, xs, rfl, ?_⟩
      refine ForD_inv (J := fun n Γ M1 => M1 = M ∧ (∃ o, Γ = [some (.tup xs), o, none]) ∧ (xs.take n).all pairB = true) xs 0 _ _ ⟨rfl, ⟨none, rfl⟩, rfl⟩ (fun i x hx Γ M1 ⟨hM, ⟨o, hΓ⟩, hp⟩ nx hn => ?_) (fun Γ M1 ⟨hM, ⟨o, hΓ⟩, hp⟩ => ?_)
      · subst hM hΓ
        have hxm : x ∈ xs := List.mem_of_getElem? hx
        have gx := good_tup hd hxm
        refine do_if (v := !pairB x) (fun k kx h => ?_) (fun hv => ?_) (fun hv => ?_)
        · simp only [ap_var, ap_C, ap_op, ap_un, ap_cb, ap_test, ap_chain, ap_and, ap_or, ap_not, ap_andV, ap_orV, ap_notV, ap_if, ap_nil, ap_cons, ap_lst, ap_tup, ap_noP, ap_part, ap_sl, ap_next, ap_ret, ap_set, ap_drop, ap_asg, ap_par, ap_nm, ap_no, ap_cn, ap_tp, ap_itL, ap_itZ, ap_itT, ap_itS, ap_rng1, ap_zip, ap_lc, ap_yes, ap_call, ap_callK, ap_join, ap_pen, ap_penSet, ap_sortSet, ap_eq, ap_ne, ap_isi, ap_repr, ap_all, ap_I, ap_1I, ap_addI, ap_addS, ap_addL, ap_ltI, ap_ltS, ap_lenS, ap_lenL, ap_lenT, ap_lenZ, ap_ixL, ap_ixT, ap_ixS, ap_slL, ap_slZ, ap_slS, ap_abs, ap_int, ap_listL, ap_listT, ap_listZ, ap_listS, ap_tupL, ap_tupT, ap_inL, ap_inS, exists_eq_left', exists_eq_left, and_assoc, exists_and_left, D.bl.injEq, D.int.injEq, D.str.injEq, D.lst.injEq, D.tup.injEq, D.scr.injEq, Option.some.injEq, List.getElem?_cons_zero, List.getElem?_cons_succ, List.set_cons_zero, List.set_cons_succ, true_and, and_true, List.cons.injEq, List.nil_append, List.append_nil, List.map_cons, List.map_nil, wipeG, ndOf, List.length_cons, List.length_nil, isT_tup, isTok_tup (good_ty gx)]
          cases x with
          | tup ys =>
            simp only [ap_var, ap_C, ap_op, ap_un, ap_cb, ap_test, ap_chain, ap_and, ap_or, ap_not, ap_andV, ap_orV, ap_notV, ap_if, ap_nil, ap_cons, ap_lst, ap_tup, ap_noP, ap_part, ap_sl, ap_next, ap_ret, ap_set, ap_drop, ap_asg, ap_par, ap_nm, ap_no, ap_cn, ap_tp, ap_itL, ap_itZ, ap_itT, ap_itS, ap_rng1, ap_zip, ap_lc, ap_yes, ap_call, ap_callK, ap_join, ap_pen, ap_penSet, ap_sortSet, ap_eq, ap_ne, ap_isi, ap_repr, ap_all, ap_I, ap_1I, ap_addI, ap_addS, ap_addL, ap_ltI, ap_ltS, ap_lenS, ap_lenL, ap_lenT, ap_lenZ, ap_ixL, ap_ixT, ap_ixS, ap_slL, ap_slZ, ap_slS, ap_abs, ap_int, ap_listL, ap_listT, ap_listZ, ap_listS, ap_tupL, ap_tupT, ap_inL, ap_inS, exists_eq_left', exists_eq_left, and_assoc, exists_and_left, D.bl.injEq, D.int.injEq, D.str.injEq, D.lst.injEq, D.tup.injEq, D.scr.injEq, Option.some.injEq, List.getElem?_cons_zero, List.getElem?_cons_succ, List.set_cons_zero, List.set_cons_succ, true_and, and_true, List.cons.injEq, List.nil_append, List.append_nil, List.map_cons, List.map_nil, wipeG, ndOf, List.length_cons, List.length_nil, isTup, Bool.not_true, Bool.false_eq_true, if_false, eqOk_int, eqD_int]
            refine ite_b (fun q => ?_) (fun q => ?_)
            · have e : pairB (.tup ys) = false := by
                have hne : ¬ ((ys.length : Nat) : Int) = 2 := by simpa using q
                rcases ys with _ | ⟨x, _ | ⟨y, _ | ⟨z, r⟩⟩⟩ <;> first | rfl | exact absurd rfl hne
              rw [e] at h
              exact h
            · have h2 : ys.length = 2 := by
                have : ((ys.length : Nat) : Int) = 2 := by simpa using q
                omega
              obtain ⟨u, v, rfl⟩ := len2 h2
              have gu := good_tup (x := u) gx (by simp)
              have gv := good_tup (x := v) gx (by simp)
              simp only [pairB] at h
              simp only [ap_var, ap_C, ap_op, ap_un, ap_cb, ap_test, ap_chain, ap_and, ap_or, ap_not, ap_andV, ap_orV, ap_notV, ap_if, ap_nil, ap_cons, ap_lst, ap_tup, ap_noP, ap_part, ap_sl, ap_next, ap_ret, ap_set, ap_drop, ap_asg, ap_par, ap_nm, ap_no, ap_cn, ap_tp, ap_itL, ap_itZ, ap_itT, ap_itS, ap_rng1, ap_zip, ap_lc, ap_yes, ap_call, ap_callK, ap_join, ap_pen, ap_penSet, ap_sortSet, ap_eq, ap_ne, ap_isi, ap_repr, ap_all, ap_I, ap_1I, ap_addI, ap_addS, ap_addL, ap_ltI, ap_ltS, ap_lenS, ap_lenL, ap_lenT, ap_lenZ, ap_ixL, ap_ixT, ap_ixS, ap_slL, ap_slZ, ap_slS, ap_abs, ap_int, ap_listL, ap_listT, ap_listZ, ap_listS, ap_tupL, ap_tupT, ap_inL, ap_inS, exists_eq_left', exists_eq_left, and_assoc, exists_and_left, D.bl.injEq, D.int.injEq, D.str.injEq, D.lst.injEq, D.tup.injEq, D.scr.injEq, Option.some.injEq, List.getElem?_cons_zero, List.getElem?_cons_succ, List.set_cons_zero, List.set_cons_succ, true_and, and_true, List.cons.injEq, List.nil_append, List.append_nil, List.map_cons, List.map_nil, wipeG, ndOf, List.length_cons, List.length_nil, pf1, show L2.atI [u, v] 0 = some u from rfl, show L2.atI [u, v] 1 = some v from rfl, gu, gv]
              cases q1 : nameB u with
              | false =>
                rw [q1] at h
                exact h
              | true =>
                rw [q1] at h
                cases q2 : cntB v <;> (rw [q2] at h; exact h)
          | _ => simpa [isTup, pairB] using h
        · have q : pairB x = false := by simpa using hv
          have e : partB (.tup xs) = false := by
            simp only [partB]
            rw [show xs.all pairB = false from ?_, Bool.false_and]
            rw [List.all_eq_false]
            exact ⟨x, hxm, by rw [q]; decide⟩
          rw [e] at hk
          exact hk
        · refine hn _ _ ⟨rfl, ⟨_, rfl⟩, ?_⟩
          have q : pairB x = true := by simpa using hv
          rw [Nat.zero_add] at hp ⊢
          rw [List.take_add_one, hx, List.all_append, hp]
          simpa using q
      · subst hM hΓ
        rw [Nat.zero_add, List.take_length] at hp
        simp only [partB, hp, Bool.true_and] at hk
        have e1 : (xs.map fun d => D.str (handD d)) = (xs.map handD).map .str := by rw [List.map_map]; rfl
        have so : ∀ z ∈ xs.map handD, PyData.strOk z = true := fun z hz => by
          obtain ⟨d, hd', e⟩ := List.mem_map.mp hz
          obtain ⟨z', y, e2, e3⟩ := pair_hand (List.all_eq_true.mp hp d hd')
          have g := good_tup hd hd'
          rw [e2] at g
          have g2 := good_tup (x := .str z') g (by simp)
          simp only [good, Bool.and_eq_true] at g2
          rw [← e, e3]
          exact g2.2
        dsimp only
        rw [ap_seq]
        simp only [ap_var, ap_C, ap_op, ap_un, ap_cb, ap_test, ap_chain, ap_and, ap_or, ap_not, ap_andV, ap_orV, ap_notV, ap_if, ap_nil, ap_cons, ap_lst, ap_tup, ap_noP, ap_part, ap_sl, ap_next, ap_ret, ap_set, ap_drop, ap_asg, ap_par, ap_nm, ap_no, ap_cn, ap_tp, ap_itL, ap_itZ, ap_itT, ap_itS, ap_rng1, ap_zip, ap_lc, ap_yes, ap_call, ap_callK, ap_join, ap_pen, ap_penSet, ap_sortSet, ap_eq, ap_ne, ap_isi, ap_repr, ap_all, ap_I, ap_1I, ap_addI, ap_addS, ap_addL, ap_ltI, ap_ltS, ap_lenS, ap_lenL, ap_lenT, ap_lenZ, ap_ixL, ap_ixT, ap_ixS, ap_slL, ap_slZ, ap_slS, ap_abs, ap_int, ap_listL, ap_listT, ap_listZ, ap_listS, ap_tupL, ap_tupT, ap_inL, ap_inS, exists_eq_left', exists_eq_left, and_assoc, exists_and_left, D.bl.injEq, D.int.injEq, D.str.injEq, D.lst.injEq, D.tup.injEq, D.scr.injEq, Option.some.injEq, List.getElem?_cons_zero, List.getElem?_cons_succ, List.set_cons_zero, List.set_cons_succ, true_and, and_true, List.cons.injEq, List.nil_append, List.append_nil, List.map_cons, List.map_nil, wipeG, ndOf, List.length_cons, List.length_nil]
        refine LcD_map (v := fun d => .str (handD d)) xs hl (fun x hx k' h' => ?_) ?_
        · obtain ⟨z, y, rfl, e⟩ := pair_hand (List.all_eq_true.mp hp x hx)
          simp only [ap_var, ap_C, ap_op, ap_un, ap_cb, ap_test, ap_chain, ap_and, ap_or, ap_not, ap_andV, ap_orV, ap_notV, ap_if, ap_nil, ap_cons, ap_lst, ap_tup, ap_noP, ap_part, ap_sl, ap_next, ap_ret, ap_set, ap_drop, ap_asg, ap_par, ap_nm, ap_no, ap_cn, ap_tp, ap_itL, ap_itZ, ap_itT, ap_itS, ap_rng1, ap_zip, ap_lc, ap_yes, ap_call, ap_callK, ap_join, ap_pen, ap_penSet, ap_sortSet, ap_eq, ap_ne, ap_isi, ap_repr, ap_all, ap_I, ap_1I, ap_addI, ap_addS, ap_addL, ap_ltI, ap_ltS, ap_lenS, ap_lenL, ap_lenT, ap_lenZ, ap_ixL, ap_ixT, ap_ixS, ap_slL, ap_slZ, ap_slS, ap_abs, ap_int, ap_listL, ap_listT, ap_listZ, ap_listS, ap_tupL, ap_tupT, ap_inL, ap_inS, exists_eq_left', exists_eq_left, and_assoc, exists_and_left, D.bl.injEq, D.int.injEq, D.str.injEq, D.lst.injEq, D.tup.injEq, D.scr.injEq, Option.some.injEq, List.getElem?_cons_zero, List.getElem?_cons_succ, List.set_cons_zero, List.set_cons_succ, true_and, and_true, List.cons.injEq, List.nil_append, List.append_nil, List.map_cons, List.map_nil, wipeG, ndOf, List.length_cons, List.length_nil, show L2.atI [D.str z, y] 0 = some (D.str z) from rfl]
          exact h'
        · refine ⟨xs.map handD, e1, by rw [List.length_map]; omega, fun ys hs hm => ?_⟩
          rw [e1]
          refine ⟨eqOk_strs so, eqOk_strs fun y hy => so y ((hm y).mp hy), ?_⟩
          rw [eqD_strs, asc_sorted hs hm]
          exact hk
  | _ =>
    refine do_if (v := true) (fun k kx h => ?_) (fun hv => ?_) (fun hv => ?_)
    · simp only [ap_var, ap_C, ap_op, ap_un, ap_cb, ap_test, ap_chain, ap_and, ap_or, ap_not, ap_andV, ap_orV, ap_notV, ap_if, ap_nil, ap_cons, ap_lst, ap_tup, ap_noP, ap_part, ap_sl, ap_next, ap_ret, ap_set, ap_drop, ap_asg, ap_par, ap_nm, ap_no, ap_cn, ap_tp, ap_itL, ap_itZ, ap_itT, ap_itS, ap_rng1, ap_zip, ap_lc, ap_yes, ap_call, ap_callK, ap_join, ap_pen, ap_penSet, ap_sortSet, ap_eq, ap_ne, ap_isi, ap_repr, ap_all, ap_I, ap_1I, ap_addI, ap_addS, ap_addL, ap_ltI, ap_ltS, ap_lenS, ap_lenL, ap_lenT, ap_lenZ, ap_ixL, ap_ixT, ap_ixS, ap_slL, ap_slZ, ap_slS, ap_abs, ap_int, ap_listL, ap_listT, ap_listZ, ap_listS, ap_tupL, ap_tupT, ap_inL, ap_inS, exists_eq_left', exists_eq_left, and_assoc, exists_and_left, D.bl.injEq, D.int.injEq, D.str.injEq, D.lst.injEq, D.tup.injEq, D.scr.injEq, Option.some.injEq, List.getElem?_cons_zero, List.getElem?_cons_succ, List.set_cons_zero, List.set_cons_succ, true_and, and_true, List.cons.injEq, List.nil_append, List.append_nil, List.map_cons, List.map_nil, wipeG, ndOf, List.length_cons, List.length_nil, isT_tup, isTok_tup ht, isTup]
      simpa using h
    · exact hk
    · cases hv
end
end Loneboard_k01_checks_of_any_values

set_option Elab.async false
set_option linter.all false
set_option maxRecDepth 100000
set_option maxHeartbeats 4000000
namespace Loneboard_k01_checks_of_any_values
open PySem PySem.Spec PyProof.Rows L2 Dl
section
variable {P : Program} {w : World} {K : PySem.W.Frag} {mg : Str → Option Value} {base : Heap} {a : Nat → Addr} {fd : Nat → FuncData}
/-! ### what draws -/
def pfPen : FN := fun ds M k => ∃ ns : List Int, ds = [.scr ns] ∧ ∀ p, M p = none → k (.ref p) (upM M p (.pen (Dl.cutD ns none (some 63)) 0))
theorem ok_law_pen (T : Txt K mg a fd) : FnG P w K mg base CX0 1 (a 10) (fd 10) ["script"] (spD K pfPen) := by
  refine okD T.F__law_pen sc__law_pen (fun ds M k ⟨d, e, _⟩ => by rw [e]; rfl) fun cdv A outer s H E hg hr => ⟨_, (ds_one (ds_ret (de_pen (da_cons (c_list rfl rfl T.b_list (da_cons (d_sl (de_var 0) do_none (do_some de_int)) da_nil)) (da_cons de_int (da_cons de_int da_nil)))))), fun ds M k h => ?_⟩
  obtain ⟨ns, rfl, hk⟩ := h
  rw [show startG N__law_pen [.scr ns] = [some (.scr ns)] from rfl]
  simp only [ap_var, ap_C, ap_op, ap_un, ap_cb, ap_test, ap_chain, ap_and, ap_or, ap_not, ap_andV, ap_orV, ap_notV, ap_if, ap_nil, ap_cons, ap_lst, ap_tup, ap_noP, ap_part, ap_sl, ap_next, ap_ret, ap_set, ap_drop, ap_asg, ap_par, ap_nm, ap_no, ap_cn, ap_tp, ap_itL, ap_itZ, ap_itT, ap_itS, ap_rng1, ap_zip, ap_lc, ap_yes, ap_call, ap_callK, ap_join, ap_pen, ap_penSet, ap_sortSet, ap_eq, ap_ne, ap_isi, ap_repr, ap_all, ap_I, ap_1I, ap_addI, ap_addS, ap_addL, ap_ltI, ap_ltS, ap_lenS, ap_lenL, ap_lenT, ap_lenZ, ap_ixL, ap_ixT, ap_ixS, ap_slL, ap_slZ, ap_slS, ap_abs, ap_int, ap_listL, ap_listT, ap_listZ, ap_listS, ap_tupL, ap_tupT, ap_inL, ap_inS, exists_eq_left', exists_eq_left, and_assoc, exists_and_left, D.bl.injEq, D.int.injEq, D.str.injEq, D.lst.injEq, D.tup.injEq, D.scr.injEq, Option.some.injEq, List.getElem?_cons_zero, List.getElem?_cons_succ, List.set_cons_zero, List.set_cons_succ, true_and, and_true, List.cons.injEq, List.nil_append, List.append_nil, List.map_cons, List.map_nil, wipeG, ndOf, List.length_cons, List.length_nil]
  exact ⟨_, rfl, hk⟩
/-- a drawn number -/
def pfDraw : FN := fun ds M k => ∃ B p ns b m, ds = [.ref p, .int m] ∧ Dr B p ns b M ∧ b ≤ 100000 ∧ 1 ≤ m ∧ m ≤ 1000 ∧ ∀ r M', 0 ≤ r → r < m → Dr B p ns (b + 1) M' → k (.int r) M'
theorem pw18 : (10 : Int) ^ (Int.toNat 18) = 1000000000000000000 := by decide
theorem ok_law_draw (T : Txt K mg a fd) : FnG P w K mg base CX0 1 (a 11) (fd 11) ["pen", "many"] (spD K pfDraw) := by
  refine okD T.F__law_draw sc__law_draw (fun ds M k ⟨_, _, _, _, _, e, _⟩ => by rw [e]; rfl) fun cdv A outer s H E hg hr => ⟨_, (ds_cons (ds_if (t_gt (d_ix (de_var 0) de_int) de_int)
  (ds_cons (ds_set 2 sc__law_draw.nd rfl (by first | exact .inl rfl | exact .inr rfl) (d_mod (c_int rfl T.b_int (da_cons (d_ix (de_var 0) de_int) da_nil)) (de_var 1)))
  (ds_cons (ds_penSet (d_div (c_int rfl T.b_int (da_cons (d_ix (de_var 0) de_int) da_nil)) (de_var 1)) (de_var 0) de_int)
  (ds_one (ds_ret (de_var 2)))))
  ds_nil)
  (ds_cons (ds_set 3 sc__law_draw.nd rfl (by first | exact .inl rfl | exact .inr rfl) (d_ix (de_var 0) de_int))
  (ds_cons (ds_penSet (d_add (de_var 3) de_int) (de_var 0) de_int)
  (ds_cons (ds_set 4 sc__law_draw.nd rfl (by first | exact .inl rfl | exact .inr rfl) (de_if (t_eq hr.units (d_ix (de_var 0) de_int) (de_lst da_nil)) (d_add (d_mul de_int (de_var 3)) de_int) (d_ix (d_ix (de_var 0) de_int) (d_mod (c_int rfl T.b_int (da_cons (de_var 3) da_nil)) (c_len rfl T.b_len (da_cons (d_ix (de_var 0) de_int) da_nil))))))
  (ds_cons (ds_if (dt_w (dw_and (t_lt (de_var 3) (c_len rfl T.b_len (da_cons (d_ix (de_var 0) de_int) da_nil))) (dw_and1 (t_gt (c_abs rfl T.b_abs (da_cons (de_var 4) da_nil)) (d_pow de_int de_int)))))
  (ds_cons (ds_set 5 sc__law_draw.nd rfl (by first | exact .inl rfl | exact .inr rfl) (d_sub (c_abs rfl T.b_abs (da_cons (de_var 4) da_nil)) (d_pow de_int de_int)))
  (ds_cons (ds_penSet (d_div (c_int rfl T.b_int (da_cons (de_var 5) da_nil)) (de_var 1)) (de_var 0) de_int)
  (ds_one (ds_ret (d_mod (c_int rfl T.b_int (da_cons (de_var 5) da_nil)) (de_var 1))))))
  ds_nil)
  (ds_cons (ds_set 6 sc__law_draw.nd rfl (by first | exact .inl rfl | exact .inr rfl) (d_mod (c_int rfl T.b_int (da_cons (d_pow (d_add (d_add (d_mod (c_int rfl T.b_int (da_cons (de_var 4) da_nil)) de_int) (d_mul de_int (de_var 3))) de_int) de_int) da_nil)) de_int))
  (ds_cons (ds_set 6 sc__law_draw.nd rfl (by first | exact .inl rfl | exact .inr rfl) (d_mod (c_int rfl T.b_int (da_cons (d_pow (d_add (d_add (d_mul (de_var 6) (d_add (d_mul de_int (de_var 3)) de_int)) (d_mul (d_mul de_int (de_var 3)) (de_var 3))) de_int) de_int) da_nil)) de_int))
  (ds_one (ds_ret (d_mod (c_int rfl T.b_int (da_cons (d_div (de_var 6) de_int) da_nil)) (de_var 1))))))))))), fun ds M k h => ?_⟩
  obtain ⟨B, p, ns, b, m, rfl, hD, hb, h1, h2, hk⟩ := h
  obtain ⟨n, hn, hp, hu⟩ := hD.at
  rw [show startG N__law_draw [.ref p, .int m] = [some (.ref p), some (.int m), none, none, none, none, none] from rfl]
  refine ⟨.ref p, rfl, ns, n, hp, .inr (.inr ⟨rfl, fun r hr0 => ⟨trivial, _, rfl, ?_⟩⟩)⟩
  have hm : (0 : Int) < m := by omega
  have hdv : ∀ x : Int, CDivW x m := fun x => ⟨hm, by
    have e1 : m.natAbs < 2 ^ 10 := by omega
    have e2 : m.natAbs ≠ 0 := by omega
    have := (Nat.log2_lt e2).mpr e1
    omega⟩
  refine ite_b (fun h => ?_) (fun h => ?_)
  · simp only [ap_seq, ap_var, ap_C, ap_op, ap_un, ap_cb, ap_test, ap_chain, ap_and, ap_or, ap_not, ap_andV, ap_orV, ap_notV, ap_if, ap_nil, ap_cons, ap_lst, ap_tup, ap_noP, ap_part, ap_sl, ap_next, ap_ret, ap_set, ap_drop, ap_asg, ap_par, ap_nm, ap_no, ap_cn, ap_tp, ap_itL, ap_itZ, ap_itT, ap_itS, ap_rng1, ap_zip, ap_lc, ap_yes, ap_call, ap_callK, ap_join, ap_pen, ap_penSet, ap_sortSet, ap_eq, ap_ne, ap_isi, ap_repr, ap_all, ap_I, ap_1I, ap_addI, ap_addS, ap_addL, ap_ltI, ap_ltS, ap_lenS, ap_lenL, ap_lenT, ap_lenZ, ap_ixL, ap_ixT, ap_ixS, ap_slL, ap_slZ, ap_slS, ap_abs, ap_int, ap_listL, ap_listT, ap_listZ, ap_listS, ap_tupL, ap_tupT, ap_inL, ap_inS, exists_eq_left', exists_eq_left, and_assoc, exists_and_left, D.bl.injEq, D.int.injEq, D.str.injEq, D.lst.injEq, D.tup.injEq, D.scr.injEq, Option.some.injEq, List.getElem?_cons_zero, List.getElem?_cons_succ, List.set_cons_zero, List.set_cons_succ, true_and, and_true, List.cons.injEq, List.nil_append, List.append_nil, List.map_cons, List.map_nil, wipeG, ndOf, List.length_cons, List.length_nil, rd_ix2 hp]
    refine fun r1 g1 => ⟨hm, fun r2 g2 => ⟨hdv _, wr_2 hp (Nat.le_refl n) (Int.ediv_nonneg g2 (by omega)) ?_⟩⟩
    exact hk _ _ (Int.emod_nonneg _ (by omega)) (Int.emod_lt_of_pos _ hm) ⟨n, by omega, hu n⟩
  · refine do_next ?_
    refine ⟨.ref p, rfl, ns, n, hp, .inr (.inl ⟨rfl, fun t g0 g1 => ?_⟩)⟩
    refine ⟨_, rfl, _, rfl, wr_1 (n' := n + 1) hp (by omega) (by omega) (by omega) ?_⟩
    rw [hu (n + 1)]
    have hp' : upM B p (.pen ns (n + 1)) p = some (.pen ns (n + 1)) := upM_same
    have hD' : Dr B p ns (b + 1) (upM B p (.pen ns (n + 1))) := ⟨n + 1, by omega, rfl⟩
    generalize upM B p (.pen ns (n + 1)) = M' at hp' hD'
    have hL : ((ns.map D.int).length : Int) = (ns.length : Int) := by rw [List.length_map]
    dsimp only [List.set]
    refine do_setQ (fun d => ∃ c : Int, d = .int c) ?_ ?_
    · cases hns : ns with
      | nil =>
        subst hns
        refine ⟨.int (60887 * t + 919), ⟨_, rfl⟩, fun k kx h => ?_⟩
        simp only [ap_var, ap_C, ap_op, ap_un, ap_cb, ap_test, ap_chain, ap_and, ap_or, ap_not, ap_andV, ap_orV, ap_notV, ap_if, ap_nil, ap_cons, ap_lst, ap_tup, ap_noP, ap_part, ap_sl, ap_next, ap_ret, ap_set, ap_drop, ap_asg, ap_par, ap_nm, ap_no, ap_cn, ap_tp, ap_itL, ap_itZ, ap_itT, ap_itS, ap_rng1, ap_zip, ap_lc, ap_yes, ap_call, ap_callK, ap_join, ap_pen, ap_penSet, ap_sortSet, ap_eq, ap_ne, ap_isi, ap_repr, ap_all, ap_I, ap_1I, ap_addI, ap_addS, ap_addL, ap_ltI, ap_ltS, ap_lenS, ap_lenL, ap_lenT, ap_lenZ, ap_ixL, ap_ixT, ap_ixS, ap_slL, ap_slZ, ap_slS, ap_abs, ap_int, ap_listL, ap_listT, ap_listZ, ap_listS, ap_tupL, ap_tupT, ap_inL, ap_inS, exists_eq_left', exists_eq_left, and_assoc, exists_and_left, D.bl.injEq, D.int.injEq, D.str.injEq, D.lst.injEq, D.tup.injEq, D.scr.injEq, Option.some.injEq, List.getElem?_cons_zero, List.getElem?_cons_succ, List.set_cons_zero, List.set_cons_succ, true_and, and_true, List.cons.injEq, List.nil_append, List.append_nil, List.map_cons, List.map_nil, wipeG, ndOf, List.length_cons, List.length_nil, rd_ix0 hp', eqOk_nil, eqD_nil, List.set, List.isEmpty_nil, if_true]
        exact ⟨Nat.zero_le _, .inl ⟨by decide, by decide⟩, h⟩
      | cons y r =>
        have hl : (0 : Int) < (ns.length : Int) := by rw [hns, List.length_cons]; omega
        have q0 := Int.emod_nonneg t (show (ns.length : Int) ≠ 0 by omega)
        have q1 := Int.emod_lt_of_pos t hl
        refine ⟨.int (ns[(t % (ns.length : Int)).toNat]'(by omega)), ⟨_, rfl⟩, fun k kx h => ?_⟩
        have e1 : (ns.map D.int).isEmpty = false := by rw [hns]; rfl
        simp only [ap_var, ap_C, ap_op, ap_un, ap_cb, ap_test, ap_chain, ap_and, ap_or, ap_not, ap_andV, ap_orV, ap_notV, ap_if, ap_nil, ap_cons, ap_lst, ap_tup, ap_noP, ap_part, ap_sl, ap_next, ap_ret, ap_set, ap_drop, ap_asg, ap_par, ap_nm, ap_no, ap_cn, ap_tp, ap_itL, ap_itZ, ap_itT, ap_itS, ap_rng1, ap_zip, ap_lc, ap_yes, ap_call, ap_callK, ap_join, ap_pen, ap_penSet, ap_sortSet, ap_eq, ap_ne, ap_isi, ap_repr, ap_all, ap_I, ap_1I, ap_addI, ap_addS, ap_addL, ap_ltI, ap_ltS, ap_lenS, ap_lenL, ap_lenT, ap_lenZ, ap_ixL, ap_ixT, ap_ixS, ap_slL, ap_slZ, ap_slS, ap_abs, ap_int, ap_listL, ap_listT, ap_listZ, ap_listS, ap_tupL, ap_tupT, ap_inL, ap_inS, exists_eq_left', exists_eq_left, and_assoc, exists_and_left, D.bl.injEq, D.int.injEq, D.str.injEq, D.lst.injEq, D.tup.injEq, D.scr.injEq, Option.some.injEq, List.getElem?_cons_zero, List.getElem?_cons_succ, List.set_cons_zero, List.set_cons_succ, true_and, and_true, List.cons.injEq, List.nil_append, List.append_nil, List.map_cons, List.map_nil, wipeG, ndOf, List.length_cons, List.length_nil, rd_ix0 hp', eqOk_nil, eqOk_ints, eqD_nil, List.set, e1, hL, Bool.false_eq_true, if_false, atI_map, atI_at q0 q1, Option.map_some]
        exact ⟨Nat.zero_le _, hl, h⟩
    · rintro _ ⟨c, rfl⟩
      simp only [List.set]
      refine do_if (v := decide (t < (ns.length : Int)) && decide (1000000000000000000 < (if c < 0 then -c else c))) (fun k kx h => ?_) (fun hv => ?_) (fun hv => ?_)
      · have c18 : CPow 10 18 := ⟨by decide, by decide, by decide⟩
        simp only [ap_var, ap_C, ap_op, ap_un, ap_cb, ap_test, ap_chain, ap_and, ap_or, ap_not, ap_andV, ap_orV, ap_notV, ap_if, ap_nil, ap_cons, ap_lst, ap_tup, ap_noP, ap_part, ap_sl, ap_next, ap_ret, ap_set, ap_drop, ap_asg, ap_par, ap_nm, ap_no, ap_cn, ap_tp, ap_itL, ap_itZ, ap_itT, ap_itS, ap_rng1, ap_zip, ap_lc, ap_yes, ap_call, ap_callK, ap_join, ap_pen, ap_penSet, ap_sortSet, ap_eq, ap_ne, ap_isi, ap_repr, ap_all, ap_I, ap_1I, ap_addI, ap_addS, ap_addL, ap_ltI, ap_ltS, ap_lenS, ap_lenL, ap_lenT, ap_lenZ, ap_ixL, ap_ixT, ap_ixS, ap_slL, ap_slZ, ap_slS, ap_abs, ap_int, ap_listL, ap_listT, ap_listZ, ap_listS, ap_tupL, ap_tupT, ap_inL, ap_inS, exists_eq_left', exists_eq_left, and_assoc, exists_and_left, D.bl.injEq, D.int.injEq, D.str.injEq, D.lst.injEq, D.tup.injEq, D.scr.injEq, Option.some.injEq, List.getElem?_cons_zero, List.getElem?_cons_succ, List.set_cons_zero, List.set_cons_succ, true_and, and_true, List.cons.injEq, List.nil_append, List.append_nil, List.map_cons, List.map_nil, wipeG, ndOf, List.length_cons, List.length_nil, rd_ix0 hp', hL, c18, pw18]
        refine ite_b (fun q => ?_) (fun q => ?_)
        · rw [q, Bool.true_and] at h
          exact h
        · rw [q, Bool.false_and] at h
          exact h
      · have c18 : CPow 10 18 := ⟨by decide, by decide, by decide⟩
        have hv2 := of_decide_eq_true (Bool.and_eq_true_iff.mp hv).2
        simp only [ap_seq, ap_var, ap_C, ap_op, ap_un, ap_cb, ap_test, ap_chain, ap_and, ap_or, ap_not, ap_andV, ap_orV, ap_notV, ap_if, ap_nil, ap_cons, ap_lst, ap_tup, ap_noP, ap_part, ap_sl, ap_next, ap_ret, ap_set, ap_drop, ap_asg, ap_par, ap_nm, ap_no, ap_cn, ap_tp, ap_itL, ap_itZ, ap_itT, ap_itS, ap_rng1, ap_zip, ap_lc, ap_yes, ap_call, ap_callK, ap_join, ap_pen, ap_penSet, ap_sortSet, ap_eq, ap_ne, ap_isi, ap_repr, ap_all, ap_I, ap_1I, ap_addI, ap_addS, ap_addL, ap_ltI, ap_ltS, ap_lenS, ap_lenL, ap_lenT, ap_lenZ, ap_ixL, ap_ixT, ap_ixS, ap_slL, ap_slZ, ap_slS, ap_abs, ap_int, ap_listL, ap_listT, ap_listZ, ap_listS, ap_tupL, ap_tupT, ap_inL, ap_inS, exists_eq_left', exists_eq_left, and_assoc, exists_and_left, D.bl.injEq, D.int.injEq, D.str.injEq, D.lst.injEq, D.tup.injEq, D.scr.injEq, Option.some.injEq, List.getElem?_cons_zero, List.getElem?_cons_succ, List.set_cons_zero, List.set_cons_succ, true_and, and_true, List.cons.injEq, List.nil_append, List.append_nil, List.map_cons, List.map_nil, wipeG, ndOf, List.length_cons, List.length_nil, List.set, c18, pw18]
        refine ⟨hdv _, wr_2 hp' (Nat.le_refl _) (Int.ediv_nonneg (by omega) (by omega)) ?_⟩
        refine ⟨hm, hk _ _ (Int.emod_nonneg _ (by omega)) (Int.emod_lt_of_pos _ hm) ?_⟩
        rw [upM_id hp']
        exact hD'
      · refine do_next ?_
        simp only [ap_seq, ap_var, ap_C, ap_op, ap_un, ap_cb, ap_test, ap_chain, ap_and, ap_or, ap_not, ap_andV, ap_orV, ap_notV, ap_if, ap_nil, ap_cons, ap_lst, ap_tup, ap_noP, ap_part, ap_sl, ap_next, ap_ret, ap_set, ap_drop, ap_asg, ap_par, ap_nm, ap_no, ap_cn, ap_tp, ap_itL, ap_itZ, ap_itT, ap_itS, ap_rng1, ap_zip, ap_lc, ap_yes, ap_call, ap_callK, ap_join, ap_pen, ap_penSet, ap_sortSet, ap_eq, ap_ne, ap_isi, ap_repr, ap_all, ap_I, ap_1I, ap_addI, ap_addS, ap_addL, ap_ltI, ap_ltS, ap_lenS, ap_lenL, ap_lenT, ap_lenZ, ap_ixL, ap_ixT, ap_ixS, ap_slL, ap_slZ, ap_slS, ap_abs, ap_int, ap_listL, ap_listT, ap_listZ, ap_listS, ap_tupL, ap_tupT, ap_inL, ap_inS, exists_eq_left', exists_eq_left, and_assoc, exists_and_left, D.bl.injEq, D.int.injEq, D.str.injEq, D.lst.injEq, D.tup.injEq, D.scr.injEq, Option.some.injEq, List.getElem?_cons_zero, List.getElem?_cons_succ, List.set_cons_zero, List.set_cons_succ, true_and, and_true, List.cons.injEq, List.nil_append, List.append_nil, List.map_cons, List.map_nil, wipeG, ndOf, List.length_cons, List.length_nil, List.set]
        have q0 := Int.emod_nonneg c (show (2147483563 : Int) ≠ 0 by decide)
        have q1 := Int.emod_lt_of_pos c (show (0 : Int) < 2147483563 by decide)
        generalize c % 2147483563 = x at q0 q1 ⊢
        generalize hy : ((x + 52561 * t + 4657) ^ Int.toNat 3) % 2147483647 = y
        have y0 : 0 ≤ y := hy ▸ Int.emod_nonneg _ (by decide)
        have y1 : y < 2147483647 := hy ▸ Int.emod_lt_of_pos _ (by decide)
        have tb : t ≤ 100000 := by omega
        have p1 : y * (2 * t + 401) ≤ 2147483647 * 200401 := Int.mul_le_mul (by omega) (by omega) (by omega) (by omega)
        have p1' : 0 ≤ y * (2 * t + 401) := Int.mul_nonneg y0 (by omega)
        have p2 : 983 * t * t ≤ 98300000 * 100000 := Int.mul_le_mul (by omega) tb g0 (by omega)
        have p2' : 0 ≤ 983 * t * t := Int.mul_nonneg (by omega) g0
        generalize hp1 : y * (2 * t + 401) = z1 at p1 p1' ⊢
        generalize hp2 : 983 * t * t = z2 at p2 p2' ⊢
        refine ⟨by decide, .inl ⟨by decide, by decide⟩, ⟨by decide, by decide, by omega⟩, by decide, .inl ⟨by decide, by decide⟩, ?_⟩
        refine ⟨.inl ⟨by omega, by omega⟩, .inl ⟨by decide, by decide⟩, .inr ⟨by omega, by omega⟩, ⟨by decide, by decide, by omega⟩, by decide, ⟨by decide, by decide +kernel⟩, hm, ?_⟩
        exact hk _ _ (Int.emod_nonneg _ (by omega)) (Int.emod_lt_of_pos _ hm) hD'
end
end Loneboard_k01_checks_of_any_values

set_option Elab.async false
set_option linter.all false
set_option maxRecDepth 100000
set_option maxHeartbeats 4000000
namespace Loneboard_k01_checks_of_any_values
open PySem PySem.Spec PyProof.Rows L2 Dl
section
variable {P : Program} {w : World} {K : PySem.W.Frag} {mg : Str → Option Value} {base : Heap} {a : Nat → Addr} {fd : Nat → FuncData}
/-! ### one of some -/
def pfPick : FN := fun ds M k => ∃ B p ns b xs, ds = [.ref p, .lst xs] ∧ Dr B p ns b M ∧ b ≤ 100000 ∧ 1 ≤ xs.length ∧ xs.length ≤ 1000 ∧ ∀ d M', d ∈ xs → Dr B p ns (b + 1) M' → k d M'
theorem ok_law_pick (T : Txt K mg a fd) : FnG P w K mg base CX0 2 (a 12) (fd 12) ["pen", "some"] (spD K pfPick) := by
  have G__law_draw := ok_law_draw (P := P) (w := w) (base := base) T
  refine okD T.F__law_pick sc__law_pick (fun ds M k ⟨_, _, _, _, _, e, _⟩ => by rw [e]; rfl) fun cdv A outer s H E hg hr => ⟨_, (ds_one (ds_ret (d_ix (de_var 1) (de_call G__law_draw hg (hr.mono (by omega)) rfl T.g__law_draw T.k__law_draw T.bb__law_draw .nil (fun _ _ => .nil) (da_cons (de_var 0) (da_cons (c_len rfl T.b_len (da_cons (de_var 1) da_nil)) da_nil)))))), fun ds M k h => ?_⟩
  obtain ⟨B, p, ns, b, xs, rfl, hD, hb, h1, h2, hk⟩ := h
  rw [show startG N__law_pick [.ref p, .lst xs] = [some (.ref p), some (.lst xs)] from rfl]
  simp only [ap_var, ap_C, ap_op, ap_un, ap_cb, ap_test, ap_chain, ap_and, ap_or, ap_not, ap_andV, ap_orV, ap_notV, ap_if, ap_nil, ap_cons, ap_lst, ap_tup, ap_noP, ap_part, ap_sl, ap_next, ap_ret, ap_set, ap_drop, ap_asg, ap_par, ap_nm, ap_no, ap_cn, ap_tp, ap_itL, ap_itZ, ap_itT, ap_itS, ap_rng1, ap_zip, ap_lc, ap_yes, ap_call, ap_callK, ap_join, ap_pen, ap_penSet, ap_sortSet, ap_eq, ap_ne, ap_isi, ap_repr, ap_all, ap_I, ap_1I, ap_addI, ap_addS, ap_addL, ap_ltI, ap_ltS, ap_lenS, ap_lenL, ap_lenT, ap_lenZ, ap_ixL, ap_ixT, ap_ixS, ap_slL, ap_slZ, ap_slS, ap_abs, ap_int, ap_listL, ap_listT, ap_listZ, ap_listS, ap_tupL, ap_tupT, ap_inL, ap_inS, exists_eq_left', exists_eq_left, and_assoc, exists_and_left, D.bl.injEq, D.int.injEq, D.str.injEq, D.lst.injEq, D.tup.injEq, D.scr.injEq, Option.some.injEq, List.getElem?_cons_zero, List.getElem?_cons_succ, List.set_cons_zero, List.set_cons_succ, true_and, and_true, List.cons.injEq, List.nil_append, List.append_nil, List.map_cons, List.map_nil, wipeG, ndOf, List.length_cons, List.length_nil]
  refine ⟨B, p, ns, b, xs.length, rfl, hD, hb, by omega, by omega, fun r M' r0 r1 hD' => ?_⟩
  simp only [ap_var, ap_C, ap_op, ap_un, ap_cb, ap_test, ap_chain, ap_and, ap_or, ap_not, ap_andV, ap_orV, ap_notV, ap_if, ap_nil, ap_cons, ap_lst, ap_tup, ap_noP, ap_part, ap_sl, ap_next, ap_ret, ap_set, ap_drop, ap_asg, ap_par, ap_nm, ap_no, ap_cn, ap_tp, ap_itL, ap_itZ, ap_itT, ap_itS, ap_rng1, ap_zip, ap_lc, ap_yes, ap_call, ap_callK, ap_join, ap_pen, ap_penSet, ap_sortSet, ap_eq, ap_ne, ap_isi, ap_repr, ap_all, ap_I, ap_1I, ap_addI, ap_addS, ap_addL, ap_ltI, ap_ltS, ap_lenS, ap_lenL, ap_lenT, ap_lenZ, ap_ixL, ap_ixT, ap_ixS, ap_slL, ap_slZ, ap_slS, ap_abs, ap_int, ap_listL, ap_listT, ap_listZ, ap_listS, ap_tupL, ap_tupT, ap_inL, ap_inS, exists_eq_left', exists_eq_left, and_assoc, exists_and_left, D.bl.injEq, D.int.injEq, D.str.injEq, D.lst.injEq, D.tup.injEq, D.scr.injEq, Option.some.injEq, List.getElem?_cons_zero, List.getElem?_cons_succ, List.set_cons_zero, List.set_cons_succ, true_and, and_true, List.cons.injEq, List.nil_append, List.append_nil, List.map_cons, List.map_nil, wipeG, ndOf, List.length_cons, List.length_nil, atI_at r0 r1]
  exact hk _ _ (List.getElem_mem _) hD'
/-! ### a drawn text -/
def okT (n : Nat) (d : D) : Prop := ∃ z, d = .str z ∧ z.length ≤ n ∧ PyData.strOk z = true
theorem okT_all {n : Nat} : ∀ {ds : List D}, (∀ y ∈ ds, okT n y) → ∃ ys : List Str, ds = ys.map .str ∧ ∀ z ∈ ys, z.length ≤ n ∧ PyData.strOk z = true
  | [], _ => ⟨[], rfl, fun _ h => by simp at h⟩
  | d :: ds, h => by
    obtain ⟨z, rfl, h1⟩ := h d List.mem_cons_self
    obtain ⟨ys, rfl, h2⟩ := okT_all (ds := ds) fun y hy => h y (List.mem_cons_of_mem _ hy)
    refine ⟨z :: ys, rfl, fun y hy => ?_⟩
    rcases List.mem_cons.mp hy with e | hy
    · rw [e]; exact h1
    · exact h2 y hy
theorem strOk_list {z : Str} : PyData.strOk z = z.cps.toList.all (· < 0x110000) := by
  unfold PyData.strOk
  rw [← Array.all_toList]
theorem join_ok {n : Nat} {ys : List Str} (h : ∀ z ∈ ys, z.length ≤ n ∧ PyData.strOk z = true) : (Txt.join "" ys).length ≤ n * ys.length ∧ PyData.strOk (Txt.join "" ys) = true ∧ (ys.map (·.length)).sum ≤ n * ys.length := by
  have e1 : (Txt.join "" ys).cps.toList = (ys.map fun z => z.cps.toList).flatten := by
    rw [TL.join_eq]
    have e2 : ∀ ps : List (List Nat), TL.joinL [] ps = ps.flatten := by
      intro ps
      induction ps with
      | nil => rfl
      | cons p r ih =>
        cases r with
        | nil => simp [TL.joinL]
        | cons q r => rw [TL.joinL, ih]; simp
    exact (TL.tl_join "" ys).trans (e2 _)
  have e3 : (ys.map (·.length)).sum ≤ n * ys.length := by
    induction ys with
    | nil => simp
    | cons y r ih =>
      have h1 := (h y List.mem_cons_self).1
      have h2 := ih (fun z hz => h z (List.mem_cons_of_mem _ hz)) ?_
      · rw [List.map_cons, List.sum_cons, List.length_cons, Nat.mul_succ]
        omega
      · rw [TL.join_eq]
        have e2 : ∀ ps : List (List Nat), TL.joinL [] ps = ps.flatten := by
          intro ps
          induction ps with
          | nil => rfl
          | cons p r ih =>
            cases r with
            | nil => simp [TL.joinL]
            | cons q r => rw [TL.joinL, ih]; simp
        exact (TL.tl_join "" r).trans (e2 _)
  refine ⟨?_, ?_, e3⟩
  · show (Txt.join "" ys).cps.size ≤ _
    rw [← Array.length_toList, e1, List.length_flatten, List.map_map]
    exact e3
  · rw [strOk_list, e1, List.all_flatten, List.all_eq_true]
    intro l hl
    obtain ⟨z, hz, rfl⟩ := List.mem_map.mp hl
    have := (h z hz).2
    rw [strOk_list] at this
    exact this
theorem app_ok {y z : Str} (h1 : PyData.strOk y = true) (h2 : PyData.strOk z = true) : (y ++ z).length = y.length + z.length ∧ PyData.strOk (y ++ z) = true := by
  have e : (y ++ z).cps.toList = y.cps.toList ++ z.cps.toList := Array.toList_append
  refine ⟨?_, ?_⟩
  · show (y ++ z).cps.size = y.cps.size + z.cps.size
    rw [← Array.length_toList, e, List.length_append, Array.length_toList, Array.length_toList]
  · rw [strOk_list] at h1 h2 ⊢
    rw [e, List.all_append, h1, h2]
    rfl
def pfText : FN := fun ds M k => ∃ B p ns b, ds = [.ref p] ∧ Dr B p ns b M ∧ b ≤ 99000 ∧ ∀ d M', okT 20 d → Dr B p ns (b + 20) M' → k d M'
theorem ok_law_text (T : Txt K mg a fd) : FnG P w K mg base CX0 3 (a 18) (fd 18) ["pen"] (spD K pfText) := by
  have G__law_draw := ok_law_draw (P := P) (w := w) (base := base) T
  have G__law_pick := ok_law_pick (P := P) (w := w) (base := base) T
  refine okD T.F__law_text sc__law_text (fun ds M k ⟨_, _, _, _, e, _⟩ => by rw [e]; rfl) fun cdv A outer s H E hg hr => ⟨_, (ds_cons (ds_set 1 sc__law_text.nd rfl (by first | exact .inl rfl | exact .inr rfl) (de_lst (da_cons de_str (da_cons de_str (da_cons de_str (da_cons de_str (da_cons de_str (da_cons de_str (da_cons de_str (da_cons de_str (da_cons de_str (da_cons de_str (da_cons de_str (da_cons de_str (da_cons de_str (da_cons de_str (da_cons de_str (da_cons de_str (da_cons de_str da_nil)))))))))))))))))))
  (ds_cons (ds_set 2 sc__law_text.nd rfl (by first | exact .inl rfl | exact .inr rfl) (de_call G__law_pick hg (hr.mono (by omega)) rfl T.g__law_pick T.k__law_pick T.bb__law_pick .nil (fun _ _ => .nil) (da_cons (de_var 0) (da_cons (de_lst (da_cons de_int (da_cons de_int (da_cons de_int (da_cons de_int (da_cons de_int (da_cons de_int (da_cons de_int da_nil)))))))) da_nil))))
  (ds_cons (ds_set 3 sc__law_text.nd rfl (by first | exact .inl rfl | exact .inr rfl) (de_call G__law_pick hg (hr.mono (by omega)) rfl T.g__law_pick T.k__law_pick T.bb__law_pick .nil (fun _ _ => .nil) (da_cons (de_var 0) (da_cons (de_lst (da_cons de_int (da_cons de_int (da_cons de_int (da_cons de_int da_nil))))) da_nil))))
  (ds_cons (ds_set 4 sc__law_text.nd rfl (by first | exact .inl rfl | exact .inr rfl) (d_join de_str (de_lc (own := [("turn", 5)]) rfl sc__law_text.nd (di_rng1 rfl T.b_range (da_cons (de_var 2) da_nil)) (blkOk_by (N := N__law_text) (sc := defScope s__law_text) (by decide +kernel)) (fun _ _ _ _ _ => (dg_name 5 sc__law_text.nd rfl (by first | exact .inl rfl | exact .inr rfl))) (fun _ _ _ _ _ => dts_nil) (fun _ _ _ _ _ => (d_ix (de_var 1) (de_call G__law_draw hg (hr.mono (by omega)) rfl T.g__law_draw T.k__law_draw T.bb__law_draw .nil (fun _ _ => .nil) (da_cons (de_var 0) (da_cons (de_var 3) da_nil))))))))
  (ds_one (ds_ret (d_add (de_var 4) (de_call G__law_pick hg (hr.mono (by omega)) rfl T.g__law_pick T.k__law_pick T.bb__law_pick .nil (fun _ _ => .nil) (da_cons (de_var 0) (da_cons (de_lst (da_cons de_str (da_cons de_str (da_cons de_str (da_cons de_str (da_cons de_str (da_cons de_str (da_cons de_str da_nil)))))))) da_nil)))))))))), fun ds M k h => ?_⟩
  obtain ⟨B, p, ns, b, rfl, hD, hb, hk⟩ := h
  rw [show startG N__law_text [.ref p] = [some (.ref p), none, none, none, none, none] from rfl]
  simp only [ap_seq, ap_var, ap_C, ap_op, ap_un, ap_cb, ap_test, ap_chain, ap_and, ap_or, ap_not, ap_andV, ap_orV, ap_notV, ap_if, ap_nil, ap_cons, ap_lst, ap_tup, ap_noP, ap_part, ap_sl, ap_next, ap_ret, ap_set, ap_drop, ap_asg, ap_par, ap_nm, ap_no, ap_cn, ap_tp, ap_itL, ap_itZ, ap_itT, ap_itS, ap_rng1, ap_zip, ap_lc, ap_yes, ap_call, ap_callK, ap_join, ap_pen, ap_penSet, ap_sortSet, ap_eq, ap_ne, ap_isi, ap_repr, ap_all, ap_I, ap_1I, ap_addI, ap_addS, ap_addL, ap_ltI, ap_ltS, ap_lenS, ap_lenL, ap_lenT, ap_lenZ, ap_ixL, ap_ixT, ap_ixS, ap_slL, ap_slZ, ap_slS, ap_abs, ap_int, ap_listL, ap_listT, ap_listZ, ap_listS, ap_tupL, ap_tupT, ap_inL, ap_inS, exists_eq_left', exists_eq_left, and_assoc, exists_and_left, D.bl.injEq, D.int.injEq, D.str.injEq, D.lst.injEq, D.tup.injEq, D.scr.injEq, Option.some.injEq, List.getElem?_cons_zero, List.getElem?_cons_succ, List.set_cons_zero, List.set_cons_succ, true_and, and_true, List.cons.injEq, List.nil_append, List.append_nil, List.map_cons, List.map_nil, wipeG, ndOf, List.length_cons, List.length_nil]
  refine ⟨by decide, by decide, B, p, ns, b, _, rfl, hD, by omega, by decide, by decide, fun d M1 hd hD1 => ?_⟩
  have hd' : ∃ j : Int, d = .int j ∧ 0 ≤ j ∧ j ≤ 9 := by
    simp only [List.mem_cons, List.not_mem_nil, or_false] at hd
    rcases hd with rfl | rfl | rfl | rfl | rfl | rfl | rfl <;> exact ⟨_, rfl, by decide, by decide⟩
  obtain ⟨j, rfl, j0, j9⟩ := hd'
  refine ⟨by decide, B, p, ns, b + 1, _, rfl, hD1, by omega, by decide, by decide, fun d M2 hd hD2 => ?_⟩
  have hd' : ∃ m : Int, d = .int m ∧ 1 ≤ m ∧ m ≤ 17 := by
    simp only [List.mem_cons, List.not_mem_nil, or_false] at hd
    rcases hd with rfl | rfl | rfl | rfl <;> exact ⟨_, rfl, by decide, by decide⟩
  obtain ⟨m, rfl, m0, m17⟩ := hd'
  refine ⟨j, rfl, by omega, by omega, ?_⟩
  have hjl : (rngD 0 j.toNat).length ≤ 9 := by rw [rngD_len]; omega
  refine LcD_relN (R := okT 1) (N := (rngD 0 j.toNat).length) (J := fun n M => Dr B p ns (b + 2 + n) M) (rngD 0 j.toNat) [] 0 M2 (Nat.le_trans (by show 0 + _ ≤ 9; omega) (by decide : 9 ≤ sizeLine)) (Nat.zero_add _) hD2 (fun _ h => by simp at h) (fun x hx n M3 k' hn9 hD3 hn => ?_) (fun ys M3 hl hR hD3 => ?_)
  · simp only [ap_var, ap_C, ap_op, ap_un, ap_cb, ap_test, ap_chain, ap_and, ap_or, ap_not, ap_andV, ap_orV, ap_notV, ap_if, ap_nil, ap_cons, ap_lst, ap_tup, ap_noP, ap_part, ap_sl, ap_next, ap_ret, ap_set, ap_drop, ap_asg, ap_par, ap_nm, ap_no, ap_cn, ap_tp, ap_itL, ap_itZ, ap_itT, ap_itS, ap_rng1, ap_zip, ap_lc, ap_yes, ap_call, ap_callK, ap_join, ap_pen, ap_penSet, ap_sortSet, ap_eq, ap_ne, ap_isi, ap_repr, ap_all, ap_I, ap_1I, ap_addI, ap_addS, ap_addL, ap_ltI, ap_ltS, ap_lenS, ap_lenL, ap_lenT, ap_lenZ, ap_ixL, ap_ixT, ap_ixS, ap_slL, ap_slZ, ap_slS, ap_abs, ap_int, ap_listL, ap_listT, ap_listZ, ap_listS, ap_tupL, ap_tupT, ap_inL, ap_inS, exists_eq_left', exists_eq_left, and_assoc, exists_and_left, D.bl.injEq, D.int.injEq, D.str.injEq, D.lst.injEq, D.tup.injEq, D.scr.injEq, Option.some.injEq, List.getElem?_cons_zero, List.getElem?_cons_succ, List.set_cons_zero, List.set_cons_succ, true_and, and_true, List.cons.injEq, List.nil_append, List.append_nil, List.map_cons, List.map_nil, wipeG, ndOf, List.length_cons, List.length_nil]
    refine ⟨B, p, ns, _, m, rfl, hD3, by omega, m0, by omega, fun r M4 r0 r1 hD4 => ?_⟩
    simp only [ap_var, ap_C, ap_op, ap_un, ap_cb, ap_test, ap_chain, ap_and, ap_or, ap_not, ap_andV, ap_orV, ap_notV, ap_if, ap_nil, ap_cons, ap_lst, ap_tup, ap_noP, ap_part, ap_sl, ap_next, ap_ret, ap_set, ap_drop, ap_asg, ap_par, ap_nm, ap_no, ap_cn, ap_tp, ap_itL, ap_itZ, ap_itT, ap_itS, ap_rng1, ap_zip, ap_lc, ap_yes, ap_call, ap_callK, ap_join, ap_pen, ap_penSet, ap_sortSet, ap_eq, ap_ne, ap_isi, ap_repr, ap_all, ap_I, ap_1I, ap_addI, ap_addS, ap_addL, ap_ltI, ap_ltS, ap_lenS, ap_lenL, ap_lenT, ap_lenZ, ap_ixL, ap_ixT, ap_ixS, ap_slL, ap_slZ, ap_slS, ap_abs, ap_int, ap_listL, ap_listT, ap_listZ, ap_listS, ap_tupL, ap_tupT, ap_inL, ap_inS, exists_eq_left', exists_eq_left, and_assoc, exists_and_left, D.bl.injEq, D.int.injEq, D.str.injEq, D.lst.injEq, D.tup.injEq, D.scr.injEq, Option.some.injEq, List.getElem?_cons_zero, List.getElem?_cons_succ, List.set_cons_zero, List.set_cons_succ, true_and, and_true, List.cons.injEq, List.nil_append, List.append_nil, List.map_cons, List.map_nil, wipeG, ndOf, List.length_cons, List.length_nil]
    obtain ⟨d, e, hd⟩ := atI_mem r0 (xs := [D.str "a", D.str "b", D.str "z", D.str "q", D.str "x", D.str "m", D.str "A", D.str "0", D.str " ", D.str ">", D.str "\n", D.str "_", D.str "{", D.str "-", D.str "Z", D.str "~", D.str "`"]) (by show r < 17; omega)
    refine ⟨d, e, hn _ _ ?_ hD4⟩
    simp only [List.mem_cons, List.not_mem_nil, or_false] at hd
    rcases hd with rfl | rfl | rfl | rfl | rfl | rfl | rfl | rfl | rfl | rfl | rfl | rfl | rfl | rfl | rfl | rfl | rfl <;> exact ⟨_, rfl, by decide +kernel, by decide +kernel⟩
  · obtain ⟨zs, rfl, hz⟩ := okT_all hR
    rw [List.length_map, List.length_nil, Nat.zero_add] at hl
    obtain ⟨q1, q2, q3⟩ := join_ok hz
    rw [Nat.one_mul] at q1 q3
    refine ⟨zs, .inl rfl, ?_, ?_⟩
    · rw [show ("" : Str).length = 0 from rfl, Nat.mul_zero]
      omega
    · refine ⟨by decide, B, p, ns, _, _, rfl, hD3, by omega, by decide, by decide, fun d M4 hd hD4 => ?_⟩
      have hd' : okT 2 d := by
        simp only [List.mem_cons, List.not_mem_nil, or_false] at hd
        rcases hd with rfl | rfl | rfl | rfl | rfl | rfl | rfl <;> exact ⟨_, rfl, by decide +kernel, by decide +kernel⟩
      obtain ⟨z, rfl, z1, z2⟩ := hd'
      obtain ⟨l1, l2⟩ := app_ok q2 z2
      simp only [ap_var, ap_C, ap_op, ap_un, ap_cb, ap_test, ap_chain, ap_and, ap_or, ap_not, ap_andV, ap_orV, ap_notV, ap_if, ap_nil, ap_cons, ap_lst, ap_tup, ap_noP, ap_part, ap_sl, ap_next, ap_ret, ap_set, ap_drop, ap_asg, ap_par, ap_nm, ap_no, ap_cn, ap_tp, ap_itL, ap_itZ, ap_itT, ap_itS, ap_rng1, ap_zip, ap_lc, ap_yes, ap_call, ap_callK, ap_join, ap_pen, ap_penSet, ap_sortSet, ap_eq, ap_ne, ap_isi, ap_repr, ap_all, ap_I, ap_1I, ap_addI, ap_addS, ap_addL, ap_ltI, ap_ltS, ap_lenS, ap_lenL, ap_lenT, ap_lenZ, ap_ixL, ap_ixT, ap_ixS, ap_slL, ap_slZ, ap_slS, ap_abs, ap_int, ap_listL, ap_listT, ap_listZ, ap_listS, ap_tupL, ap_tupT, ap_inL, ap_inS, exists_eq_left', exists_eq_left, and_assoc, exists_and_left, D.bl.injEq, D.int.injEq, D.str.injEq, D.lst.injEq, D.tup.injEq, D.scr.injEq, Option.some.injEq, List.getElem?_cons_zero, List.getElem?_cons_succ, List.set_cons_zero, List.set_cons_succ, true_and, and_true, List.cons.injEq, List.nil_append, List.append_nil, List.map_cons, List.map_nil, wipeG, ndOf, List.length_cons, List.length_nil]
      refine ⟨Nat.le_trans (m := 11) (by omega) (by decide), hk _ _ ⟨_, rfl, by omega, l2⟩ (hD4.le (by omega))⟩
end
end Loneboard_k01_checks_of_any_values

set_option Elab.async false
set_option linter.all false
set_option maxRecDepth 100000
set_option maxHeartbeats 4000000
namespace Loneboard_k01_checks_of_any_values
open PySem PySem.Spec PyProof.Rows L2 Dl
theorem do_seqG {f g : FS} {N : Nd} {Γ : GE} {M : MS} (Q : GE → MS → Prop) (h1 : ∀ nx : GE → MS → Prop, (∀ Γ' M', Q Γ' M' → nx Γ' M') → f { N with nx := nx } Γ M) (h2 : ∀ Γ' M', Q Γ' M' → g N Γ' M') : fSeq f g N Γ M := h1 _ h2
theorem pw40 : (10 : Int) ^ (Int.toNat 40) = 10000000000000000000000000000000000000000 := by decide
theorem pw30 : (10 : Int) ^ (Int.toNat 30) = 1000000000000000000000000000000 := by decide
theorem good_text {n : Nat} {d : D} (h : okT n d) (hn : n ≤ 100) : good d = true := by
  obtain ⟨z, rfl, h1, h2⟩ := h
  simp only [good, Bool.and_eq_true, decide_eq_true_eq]
  exact ⟨Nat.le_trans h1 hn, h2⟩
def flatG (d : D) : Bool := flatD d && good d
theorem goods_all : ∀ {xs : List D}, (∀ x ∈ xs, good x = true) → goods xs = true
  | [], _ => rfl
  | x :: xs, h => by
    show (good x && goods xs) = true
    rw [h x List.mem_cons_self, goods_all fun y hy => h y (List.mem_cons_of_mem _ hy)]
    rfl
theorem good_tupl {xs : List D} (hl : xs.length < 40) (h : ∀ x ∈ xs, good x = true) : good (.tup xs) = true := by
  simp only [good, Bool.and_eq_true, decide_eq_true_eq]
  exact ⟨hl, goods_all h⟩
/-- a row: a hand, a flat value -/
def rowR (d : D) : Prop := ∃ x y, d = .tup [x, y] ∧ flatG x = true ∧ flatG y = true
theorem row_good {d : D} (h : rowR d) : good d = true := by
  obtain ⟨x, y, rfl, h1, h2⟩ := h
  simp only [flatG, Bool.and_eq_true] at h1 h2
  refine good_tupl (by show 2 < 40; decide) fun z hz => ?_
  simp only [List.mem_cons, List.not_mem_nil, or_false] at hz
  rcases hz with rfl | rfl
  · exact h1.2
  · exact h2.2
theorem flat_canLay {d : D} (h : flatG d = true) : plain d = true ∧ (toPy d).canLay0 = true ∧ (toPy d).depth = 0 := by
  simp only [flatG, Bool.and_eq_true] at h
  obtain ⟨h1, h2⟩ := h
  cases d with
  | str z =>
    simp only [good, Bool.and_eq_true] at h2
    simp [Dl.plain, toPy, PyData.canLay0, PyData.depth, h2.2]
  | non => simp [Dl.plain, toPy, PyData.canLay0, PyData.depth]
  | bl b => simp [Dl.plain, toPy, PyData.canLay0, PyData.depth]
  | int i => simp [Dl.plain, toPy, PyData.canLay0, PyData.depth]
  | _ => cases h1
theorem depth_le : ∀ {xs : List PyData} {n : Nat}, (∀ x ∈ xs, x.depth ≤ n) → PyData.depthAll xs ≤ n
  | [], _, _ => by simp [PyData.depthAll]
  | x :: xs, n, h => by
    have h1 := h x List.mem_cons_self
    have h2 := depth_le (xs := xs) (n := n) fun y hy => h y (List.mem_cons_of_mem _ hy)
    simp only [PyData.depthAll]
    omega
theorem rows_eqOk {xs : List D} (h : ∀ x ∈ xs, rowR x) : eqOk (.lst xs) = true := by
  have hr : ∀ x ∈ xs, plain x = true ∧ (toPy x).canLay0 = true ∧ (toPy x).depth ≤ 1 := fun x hx => by
    obtain ⟨u, v, rfl, h1, h2⟩ := h x hx
    obtain ⟨a1, a2, a3⟩ := flat_canLay h1
    obtain ⟨b1, b2, b3⟩ := flat_canLay h2
    refine ⟨by simp [Dl.plain, plains, a1, b1], ?_, ?_⟩
    · simp [toPy, toPys, PyData.canLay0, PyData.canLayAll0, a2, b2]
    · simp [toPy, toPys, PyData.depth, PyData.depthAll, a3, b3]
  have em : toPys xs = xs.map toPy := by rw [← List.map_id xs, toPys_map]; simp
  have h1 : plains xs = true := by
    rw [plains_all, List.all_eq_true]
    exact fun x hx => (hr x hx).1
  have h2 : PyData.canLayAll0 (toPys xs) = true := by
    rw [em, canLay_all, List.all_eq_true]
    intro y hy
    obtain ⟨x, hx, rfl⟩ := List.mem_map.mp hy
    exact (hr x hx).2.1
  have h3 : PyData.depthAll (toPys xs) ≤ 1 := by
    rw [em]
    refine depth_le fun y hy => ?_
    obtain ⟨x, hx, rfl⟩ := List.mem_map.mp hy
    exact (hr x hx).2.2
  unfold eqOk
  show (plains xs && (PyData.canLay0 (.list (toPys xs)) && decide (PyData.depth (.list (toPys xs)) ≤ 64))) = true
  rw [h1]
  simp only [PyData.canLay0, PyData.depth, h2, Bool.true_and, decide_eq_true_eq]
  exact decide_eq_true (Nat.le_trans (Nat.add_le_add_right h3 1) (by decide : 1 + 1 ≤ 64))
theorem sub_len : ∀ (ys xs : List Str), ys.Nodup → (∀ y ∈ ys, y ∈ xs) → ys.length ≤ xs.length
  | [], _, _, _ => Nat.zero_le _
  | y :: r, xs, hn, h => by
    obtain ⟨h1, h2⟩ := List.nodup_cons.mp hn
    have hy := h y List.mem_cons_self
    have ih := sub_len r (xs.erase y) h2 fun z hz => (List.mem_erase_of_ne (fun e : z = y => h1 (by rw [← e]; exact hz))).mpr (h z (List.mem_cons_of_mem _ hz))
    rw [List.length_erase_of_mem hy] at ih
    have : 0 < xs.length := List.length_pos_of_mem hy
    rw [List.length_cons]
    omega
theorem asc_nodup {l : List Str} (h : Asc l) : l.Nodup := List.Pairwise.imp (fun {a b} q e => by rw [e, ltS_irr] at q; cases q) h
theorem atI_last {α : Type} {xs : List α} (h : xs ≠ []) : ∃ d, L2.atI xs (-1) = some d ∧ d ∈ xs := by
  have hl : xs.length ≠ 0 := fun e => h (List.length_eq_zero_iff.mp e)
  have hlt : xs.length - 1 < xs.length := by omega
  refine ⟨xs[xs.length - 1], ?_, List.getElem_mem _⟩
  unfold L2.atI ixN
  rw [if_neg (by decide), if_pos (by omega)]
  show xs[((-1 : Int) + (xs.length : Int)).toNat]? = _
  rw [show ((-1 : Int) + (xs.length : Int)).toNat = xs.length - 1 by omega]
  exact List.getElem?_eq_getElem hlt
theorem cut_mem {α : Type} {xs : List α} {lo hi : Option Int} {x : α} (h : x ∈ Dl.cutD xs lo hi) : x ∈ xs := List.mem_of_mem_drop (List.mem_of_mem_take h)
theorem cut_len {α : Type} (xs : List α) (lo hi : Option Int) : (Dl.cutD xs lo hi).length ≤ xs.length := by
  unfold Dl.cutD
  rw [List.length_take, List.length_drop]
  omega
section
variable {P : Program} {w : World} {K : PySem.W.Frag} {mg : Str → Option Value} {base : Heap} {a : Nat → Addr} {fd : Nat → FuncData}
/-! ### a drawn value -/
def pfVal (n : Nat) : FN := fun ds M k => ∃ B p ns b j, ds = [.ref p, .int j] ∧ 0 ≤ j ∧ j < (n : Int) ∧ Dr B p ns b M ∧ b + 60 * n ≤ 99000 ∧ ∀ d M', good d = true → Dr B p ns (b + 60 * n) M' → k d M'
theorem ok_law_value (T : Txt K mg a fd) : ∀ n, FnG P w K mg base CX0 (3 + n) (a 19) (fd 19) ["pen", "deep"] (spD K (pfVal n)) := by
  have G__law_draw := ok_law_draw (P := P) (w := w) (base := base) T
  have G__law_pick := ok_law_pick (P := P) (w := w) (base := base) T
  have G__law_text := ok_law_text (P := P) (w := w) (base := base) T
  intro n
  induction n with
  | zero => exact ⟨fun vs H Q E ⟨_, _, _, _, _, _, ⟨_, _, _, _, _, _, h1, h2, _⟩, _⟩ => by omega, fun A outer s H args us vs Q E _ _ _ _ _ ⟨_, _, _, _, _, _, ⟨_, _, _, _, _, _, h1, h2, _⟩, _⟩ => by omega⟩
  | succ n G__law_value =>
  refine okD (k := 3 + n) T.F__law_value sc__law_value (fun ds M k ⟨_, _, _, _, _, e, _⟩ => by rw [e]; rfl) fun cdv A outer s H E hg hr => ⟨_, (ds_cons (ds_set 2 sc__law_value.nd rfl (by first | exact .inl rfl | exact .inr rfl) (de_call G__law_draw hg (hr.mono (by omega)) rfl T.g__law_draw T.k__law_draw T.bb__law_draw .nil (fun _ _ => .nil) (da_cons (de_var 0) (da_cons de_int da_nil))))
  (ds_cons (ds_if (dt_w (dw_or (t_lt (de_var 2) de_int) (dw_or1 (t_eq hr.units (de_var 1) de_int))))
  (ds_one (ds_ret (de_call G__law_pick hg (hr.mono (by omega)) rfl T.g__law_pick T.k__law_pick T.bb__law_pick .nil (fun _ _ => .nil) (da_cons (de_var 0) (da_cons (de_lst (da_cons de_int (da_cons de_int (da_cons de_int (da_cons (d_neg de_int) (da_cons de_bl (da_cons de_bl (da_cons de_non (da_cons (d_pow de_int de_int) (da_cons de_str (da_cons (de_call G__law_text hg (hr.mono (by omega)) rfl T.g__law_text T.k__law_text T.bb__law_text .nil (fun _ _ => .nil) (da_cons (de_var 0) da_nil)) (da_cons (de_call G__law_text hg (hr.mono (by omega)) rfl T.g__law_text T.k__law_text T.bb__law_text .nil (fun _ _ => .nil) (da_cons (de_var 0) da_nil)) (da_cons (de_tup da_nil) (da_cons (de_lst da_nil) (da_cons de_dct0 da_nil))))))))))))))) da_nil)))))
  ds_nil)
  (ds_cons (ds_if (t_lt (de_var 2) de_int)
  (ds_one (ds_ret (de_tup (da_cons (de_call G__law_pick hg (hr.mono (by omega)) rfl T.g__law_pick T.k__law_pick T.bb__law_pick .nil (fun _ _ => .nil) (da_cons (de_var 0) (da_cons (de_lst (da_cons de_int (da_cons de_int (da_cons de_int (da_cons de_bl (da_cons (d_neg de_int) (da_cons de_str (da_cons (d_pow de_int de_int) da_nil)))))))) da_nil))) (da_cons (de_call G__law_text hg (hr.mono (by omega)) rfl T.g__law_text T.k__law_text T.bb__law_text .nil (fun _ _ => .nil) (da_cons (de_var 0) da_nil)) da_nil)))))
  ds_nil)
  (ds_cons (ds_setLc 3 rfl sc__law_value.nd rfl rfl (sw_true rfl rfl rfl (by decide +kernel)) (own := [("turn", 5)]) (di_rng1 rfl T.b_range (da_cons (de_call G__law_draw hg (hr.mono (by omega)) rfl T.g__law_draw T.k__law_draw T.bb__law_draw .nil (fun _ _ => .nil) (da_cons (de_var 0) (da_cons de_int da_nil))) da_nil)) (blkOk_by (N := N__law_value) (sc := defScope s__law_value) (by decide +kernel)) (fun _ _ _ _ _ => (dg_name 5 sc__law_value.nd rfl (by first | exact .inl rfl | exact .inr rfl))) (fun _ _ _ _ _ => dts_nil) (fun _ _ _ _ _ => (de_call G__law_pick hg (hr.mono (by omega)) rfl T.g__law_pick T.k__law_pick T.bb__law_pick .nil (fun _ _ => .nil) (da_cons (de_var 0) (da_cons (de_lst (da_cons de_str (da_cons de_str (da_cons de_str (da_cons de_str (da_cons de_str (da_cons de_str (da_cons de_str da_nil)))))))) da_nil)))))
  (ds_cons (ds_setLc 4 rfl sc__law_value.nd rfl rfl (sw_true rfl rfl rfl (by decide +kernel)) (own := [("hand", 6)]) (di_list (de_if (t_lt (de_var 2) de_int) (c_sortedSet rfl rfl rfl T.b_sorted T.b_set (da_cons (de_var 3) da_nil)) (de_var 3))) (blkOk_by (N := N__law_value) (sc := defScope s__law_value) (by decide +kernel)) (fun _ _ _ _ _ => (dg_name 6 sc__law_value.nd rfl (by first | exact .inl rfl | exact .inr rfl))) (fun _ _ _ _ _ => dts_nil) (fun _ _ _ _ _ => (de_tup (da_cons (de_var 6) (da_cons (de_call G__law_pick hg (hr.mono (by omega)) rfl T.g__law_pick T.k__law_pick T.bb__law_pick .nil (fun _ _ => .nil) (da_cons (de_var 0) (da_cons (de_lst (da_cons de_int (da_cons de_int (da_cons de_int (da_cons de_int (da_cons de_int (da_cons de_int (da_cons de_bl (da_cons de_str da_nil))))))))) da_nil))) da_nil)))))
  (ds_cons (ds_if (dt_w (dw_and (t_eq hr.units (de_var 2) de_int) (dw_and1 (t_ne hr.units (de_var 4) (de_lst da_nil)))))
  (ds_one (ds_set 4 sc__law_value.nd rfl (by first | exact .inl rfl | exact .inr rfl) (d_add (d_sl (de_var 4) do_none (do_some (d_neg de_int))) (de_lst (da_cons (c_list rfl rfl T.b_list (da_cons (d_ix (de_var 4) (d_neg de_int)) da_nil)) da_nil)))))
  ds_nil)
  (ds_cons (ds_if (t_eq hr.units (de_var 2) de_int)
  (ds_one (ds_set 4 sc__law_value.nd rfl (by first | exact .inl rfl | exact .inr rfl) (d_add (de_var 4) (de_lst (da_cons (de_call G__law_value hg (hr.mono (by omega)) rfl T.g__law_value T.k__law_value T.bb__law_value .nil (fun _ _ => .nil) (da_cons (de_var 0) (da_cons (d_sub (de_var 1) de_int) da_nil))) da_nil)))))
  ds_nil)
  (ds_one (ds_ret (de_if (t_eq hr.units (de_var 2) de_int) (de_var 4) (c_tuple rfl T.b_tuple (da_cons (de_var 4) da_nil)))))))))))), fun ds M k h => ?_⟩
  obtain ⟨B, p, ns, b, j, rfl, j0, j1, hD, hb, hk⟩ := h
  rw [show startG N__law_value [.ref p, .int j] = [some (.ref p), some (.int j), none, none, none, none, none] from rfl]
  rw [ap_seq]
  simp only [ap_var, ap_C, ap_op, ap_un, ap_cb, ap_test, ap_chain, ap_and, ap_or, ap_not, ap_andV, ap_orV, ap_notV, ap_if, ap_nil, ap_cons, ap_lst, ap_tup, ap_noP, ap_part, ap_sl, ap_next, ap_ret, ap_set, ap_drop, ap_asg, ap_par, ap_nm, ap_no, ap_cn, ap_tp, ap_itL, ap_itZ, ap_itT, ap_itS, ap_rng1, ap_zip, ap_lc, ap_yes, ap_call, ap_callK, ap_join, ap_pen, ap_penSet, ap_sortSet, ap_eq, ap_ne, ap_isi, ap_repr, ap_all, ap_I, ap_1I, ap_addI, ap_addS, ap_addL, ap_ltI, ap_ltS, ap_lenS, ap_lenL, ap_lenT, ap_lenZ, ap_ixL, ap_ixT, ap_ixS, ap_slL, ap_slZ, ap_slS, ap_abs, ap_int, ap_listL, ap_listT, ap_listZ, ap_listS, ap_tupL, ap_tupT, ap_inL, ap_inS, exists_eq_left', exists_eq_left, and_assoc, exists_and_left, D.bl.injEq, D.int.injEq, D.str.injEq, D.lst.injEq, D.tup.injEq, D.scr.injEq, Option.some.injEq, List.getElem?_cons_zero, List.getElem?_cons_succ, List.set_cons_zero, List.set_cons_succ, true_and, and_true, List.cons.injEq, List.nil_append, List.append_nil, List.map_cons, List.map_nil, wipeG, ndOf, List.length_cons, List.length_nil]
  refine ⟨B, p, ns, b, 12, rfl, hD, by omega, by decide, by decide, fun way M1 w0 w1 hD1 => ?_⟩
  simp only [ap_var, ap_C, ap_op, ap_un, ap_cb, ap_test, ap_chain, ap_and, ap_or, ap_not, ap_andV, ap_orV, ap_notV, ap_if, ap_nil, ap_cons, ap_lst, ap_tup, ap_noP, ap_part, ap_sl, ap_next, ap_ret, ap_set, ap_drop, ap_asg, ap_par, ap_nm, ap_no, ap_cn, ap_tp, ap_itL, ap_itZ, ap_itT, ap_itS, ap_rng1, ap_zip, ap_lc, ap_yes, ap_call, ap_callK, ap_join, ap_pen, ap_penSet, ap_sortSet, ap_eq, ap_ne, ap_isi, ap_repr, ap_all, ap_I, ap_1I, ap_addI, ap_addS, ap_addL, ap_ltI, ap_ltS, ap_lenS, ap_lenL, ap_lenT, ap_lenZ, ap_ixL, ap_ixT, ap_ixS, ap_slL, ap_slZ, ap_slS, ap_abs, ap_int, ap_listL, ap_listT, ap_listZ, ap_listS, ap_tupL, ap_tupT, ap_inL, ap_inS, exists_eq_left', exists_eq_left, and_assoc, exists_and_left, D.bl.injEq, D.int.injEq, D.str.injEq, D.lst.injEq, D.tup.injEq, D.scr.injEq, Option.some.injEq, List.getElem?_cons_zero, List.getElem?_cons_succ, List.set_cons_zero, List.set_cons_succ, true_and, and_true, List.cons.injEq, List.nil_append, List.append_nil, List.map_cons, List.map_nil, wipeG, ndOf, List.length_cons, List.length_nil]
  refine do_if (v := decide (way < 3) || decide (j = 0)) (fun k kx h => ?_) (fun hv => ?_) (fun hv => ?_)
  · simp only [ap_var, ap_C, ap_op, ap_un, ap_cb, ap_test, ap_chain, ap_and, ap_or, ap_not, ap_andV, ap_orV, ap_notV, ap_if, ap_nil, ap_cons, ap_lst, ap_tup, ap_noP, ap_part, ap_sl, ap_next, ap_ret, ap_set, ap_drop, ap_asg, ap_par, ap_nm, ap_no, ap_cn, ap_tp, ap_itL, ap_itZ, ap_itT, ap_itS, ap_rng1, ap_zip, ap_lc, ap_yes, ap_call, ap_callK, ap_join, ap_pen, ap_penSet, ap_sortSet, ap_eq, ap_ne, ap_isi, ap_repr, ap_all, ap_I, ap_1I, ap_addI, ap_addS, ap_addL, ap_ltI, ap_ltS, ap_lenS, ap_lenL, ap_lenT, ap_lenZ, ap_ixL, ap_ixT, ap_ixS, ap_slL, ap_slZ, ap_slS, ap_abs, ap_int, ap_listL, ap_listT, ap_listZ, ap_listS, ap_tupL, ap_tupT, ap_inL, ap_inS, exists_eq_left', exists_eq_left, and_assoc, exists_and_left, D.bl.injEq, D.int.injEq, D.str.injEq, D.lst.injEq, D.tup.injEq, D.scr.injEq, Option.some.injEq, List.getElem?_cons_zero, List.getElem?_cons_succ, List.set_cons_zero, List.set_cons_succ, true_and, and_true, List.cons.injEq, List.nil_append, List.append_nil, List.map_cons, List.map_nil, wipeG, ndOf, List.length_cons, List.length_nil, eqOk_int, eqD_int]
    refine ite_b (fun q => ?_) (fun q => ?_)
    · rw [q, Bool.true_or] at h
      exact h
    · rw [q, Bool.false_or] at h
      exact h
  · refine ⟨.ref p, rfl, ⟨by decide, by decide, by decide⟩, .ref p, rfl, B, p, ns, b + 1, rfl, hD1, by omega, fun t1 M2 ht1 hD2 => ?_⟩
    refine ⟨.ref p, rfl, B, p, ns, _, rfl, hD2, by omega, fun t2 M3 ht2 hD3 => ?_⟩
    refine ⟨by decide, by decide, by show 14 ≤ sizeLine; decide, B, p, ns, _, _, rfl, hD3, by omega, by show 1 ≤ 14; decide, by show 14 ≤ 1000; decide, fun d M4 hd hD4 => hk _ _ ?_ (hD4.le (by omega))⟩
    simp only [List.mem_cons, List.not_mem_nil, or_false] at hd
    rcases hd with rfl | rfl | rfl | rfl | rfl | rfl | rfl | rfl | rfl | rfl | rfl | rfl | rfl | rfl <;> first | rfl | exact good_text ht1 (by decide) | exact good_text ht2 (by decide) | decide +kernel
  · refine do_next ?_
    refine do_if (v := decide (way < 6)) (fun k kx h => ?_) (fun hv6 => ?_) (fun hv6 => ?_)
    · simp only [ap_var, ap_C, ap_op, ap_un, ap_cb, ap_test, ap_chain, ap_and, ap_or, ap_not, ap_andV, ap_orV, ap_notV, ap_if, ap_nil, ap_cons, ap_lst, ap_tup, ap_noP, ap_part, ap_sl, ap_next, ap_ret, ap_set, ap_drop, ap_asg, ap_par, ap_nm, ap_no, ap_cn, ap_tp, ap_itL, ap_itZ, ap_itT, ap_itS, ap_rng1, ap_zip, ap_lc, ap_yes, ap_call, ap_callK, ap_join, ap_pen, ap_penSet, ap_sortSet, ap_eq, ap_ne, ap_isi, ap_repr, ap_all, ap_I, ap_1I, ap_addI, ap_addS, ap_addL, ap_ltI, ap_ltS, ap_lenS, ap_lenL, ap_lenT, ap_lenZ, ap_ixL, ap_ixT, ap_ixS, ap_slL, ap_slZ, ap_slS, ap_abs, ap_int, ap_listL, ap_listT, ap_listZ, ap_listS, ap_tupL, ap_tupT, ap_inL, ap_inS, exists_eq_left', exists_eq_left, and_assoc, exists_and_left, D.bl.injEq, D.int.injEq, D.str.injEq, D.lst.injEq, D.tup.injEq, D.scr.injEq, Option.some.injEq, List.getElem?_cons_zero, List.getElem?_cons_succ, List.set_cons_zero, List.set_cons_succ, true_and, and_true, List.cons.injEq, List.nil_append, List.append_nil, List.map_cons, List.map_nil, wipeG, ndOf, List.length_cons, List.length_nil]
      exact h
    · have c30 : CPow 10 30 := ⟨by decide, by decide, by decide⟩
      simp only [ap_var, ap_C, ap_op, ap_un, ap_cb, ap_test, ap_chain, ap_and, ap_or, ap_not, ap_andV, ap_orV, ap_notV, ap_if, ap_nil, ap_cons, ap_lst, ap_tup, ap_noP, ap_part, ap_sl, ap_next, ap_ret, ap_set, ap_drop, ap_asg, ap_par, ap_nm, ap_no, ap_cn, ap_tp, ap_itL, ap_itZ, ap_itT, ap_itS, ap_rng1, ap_zip, ap_lc, ap_yes, ap_call, ap_callK, ap_join, ap_pen, ap_penSet, ap_sortSet, ap_eq, ap_ne, ap_isi, ap_repr, ap_all, ap_I, ap_1I, ap_addI, ap_addS, ap_addL, ap_ltI, ap_ltS, ap_lenS, ap_lenL, ap_lenT, ap_lenZ, ap_ixL, ap_ixT, ap_ixS, ap_slL, ap_slZ, ap_slS, ap_abs, ap_int, ap_listL, ap_listT, ap_listZ, ap_listS, ap_tupL, ap_tupT, ap_inL, ap_inS, exists_eq_left', exists_eq_left, and_assoc, exists_and_left, D.bl.injEq, D.int.injEq, D.str.injEq, D.lst.injEq, D.tup.injEq, D.scr.injEq, Option.some.injEq, List.getElem?_cons_zero, List.getElem?_cons_succ, List.set_cons_zero, List.set_cons_succ, true_and, and_true, List.cons.injEq, List.nil_append, List.append_nil, List.map_cons, List.map_nil, wipeG, ndOf, List.length_cons, List.length_nil, c30, pw30]
      refine ⟨by decide, B, p, ns, _, _, rfl, hD1, by omega, by decide, by decide, fun d M2 hd hD2 => ?_⟩
      refine ⟨B, p, ns, _, rfl, hD2, by omega, fun t1 M3 ht1 hD3 => ⟨by decide, hk _ _ ?_ (hD3.le (by omega))⟩⟩
      refine good_tupl (by show 2 < 40; decide) fun z hz => ?_
      simp only [List.mem_cons, List.not_mem_nil, or_false] at hz hd
      rcases hz with rfl | rfl
      · rcases hd with rfl | rfl | rfl | rfl | rfl | rfl | rfl <;> first | rfl | decide +kernel
      · exact good_text ht1 (by decide)
    · refine do_next ?_
      have hj : j ≠ 0 := by
        have := (Bool.or_eq_false_iff.mp hv).2
        exact of_decide_eq_false this
      -- the hands
      refine do_seqG (fun Γ' M' => ∃ hs : List Str, Γ' = [some (.ref p), some (.int j), some (.int way), some (.lst (hs.map .str)), none, none, none] ∧ hs.length ≤ 3 ∧ (∀ z ∈ hs, z.length ≤ 2 ∧ PyData.strOk z = true) ∧ Dr B p ns (b + 5) M') (fun nx hnx => ?_) ?_
      · simp only [ap_var, ap_C, ap_op, ap_un, ap_cb, ap_test, ap_chain, ap_and, ap_or, ap_not, ap_andV, ap_orV, ap_notV, ap_if, ap_nil, ap_cons, ap_lst, ap_tup, ap_noP, ap_part, ap_sl, ap_next, ap_ret, ap_set, ap_drop, ap_asg, ap_par, ap_nm, ap_no, ap_cn, ap_tp, ap_itL, ap_itZ, ap_itT, ap_itS, ap_rng1, ap_zip, ap_lc, ap_yes, ap_call, ap_callK, ap_join, ap_pen, ap_penSet, ap_sortSet, ap_eq, ap_ne, ap_isi, ap_repr, ap_all, ap_I, ap_1I, ap_addI, ap_addS, ap_addL, ap_ltI, ap_ltS, ap_lenS, ap_lenL, ap_lenT, ap_lenZ, ap_ixL, ap_ixT, ap_ixS, ap_slL, ap_slZ, ap_slS, ap_abs, ap_int, ap_listL, ap_listT, ap_listZ, ap_listS, ap_tupL, ap_tupT, ap_inL, ap_inS, exists_eq_left', exists_eq_left, and_assoc, exists_and_left, D.bl.injEq, D.int.injEq, D.str.injEq, D.lst.injEq, D.tup.injEq, D.scr.injEq, Option.some.injEq, List.getElem?_cons_zero, List.getElem?_cons_succ, List.set_cons_zero, List.set_cons_succ, true_and, and_true, List.cons.injEq, List.nil_append, List.append_nil, List.map_cons, List.map_nil, wipeG, ndOf, List.length_cons, List.length_nil]
        refine ⟨B, p, ns, _, 4, rfl, hD1, by omega, by decide, by decide, fun r M2 r0 r1 hD2 => ?_⟩
        refine ⟨r, rfl, by omega, by omega, ?_⟩
        have hjl : (rngD 0 r.toNat).length ≤ 3 := by rw [rngD_len]; omega
        refine LcD_relN (R := okT 2) (N := (rngD 0 r.toNat).length) (J := fun n M => Dr B p ns (b + 2 + n) M) (rngD 0 r.toNat) [] 0 M2 (Nat.le_trans (by show 0 + _ ≤ 3; omega) (by decide : 3 ≤ sizeLine)) (Nat.zero_add _) hD2 (fun _ h => by simp at h) (fun x hx m M3 k' hm hD3 hn => ?_) (fun ys M3 hl hR hD3 => ?_)
        · simp only [ap_var, ap_C, ap_op, ap_un, ap_cb, ap_test, ap_chain, ap_and, ap_or, ap_not, ap_andV, ap_orV, ap_notV, ap_if, ap_nil, ap_cons, ap_lst, ap_tup, ap_noP, ap_part, ap_sl, ap_next, ap_ret, ap_set, ap_drop, ap_asg, ap_par, ap_nm, ap_no, ap_cn, ap_tp, ap_itL, ap_itZ, ap_itT, ap_itS, ap_rng1, ap_zip, ap_lc, ap_yes, ap_call, ap_callK, ap_join, ap_pen, ap_penSet, ap_sortSet, ap_eq, ap_ne, ap_isi, ap_repr, ap_all, ap_I, ap_1I, ap_addI, ap_addS, ap_addL, ap_ltI, ap_ltS, ap_lenS, ap_lenL, ap_lenT, ap_lenZ, ap_ixL, ap_ixT, ap_ixS, ap_slL, ap_slZ, ap_slS, ap_abs, ap_int, ap_listL, ap_listT, ap_listZ, ap_listS, ap_tupL, ap_tupT, ap_inL, ap_inS, exists_eq_left', exists_eq_left, and_assoc, exists_and_left, D.bl.injEq, D.int.injEq, D.str.injEq, D.lst.injEq, D.tup.injEq, D.scr.injEq, Option.some.injEq, List.getElem?_cons_zero, List.getElem?_cons_succ, List.set_cons_zero, List.set_cons_succ, true_and, and_true, List.cons.injEq, List.nil_append, List.append_nil, List.map_cons, List.map_nil, wipeG, ndOf, List.length_cons, List.length_nil]
          refine ⟨by decide, B, p, ns, _, _, rfl, hD3, by omega, by decide, by decide, fun d M4 hd hD4 => hn _ _ ?_ hD4⟩
          simp only [List.mem_cons, List.not_mem_nil, or_false] at hd
          rcases hd with rfl | rfl | rfl | rfl | rfl | rfl | rfl <;> exact ⟨_, rfl, by decide +kernel, by decide +kernel⟩
        · obtain ⟨zs, rfl, hz⟩ := okT_all hR
          rw [List.length_map, List.length_nil, Nat.zero_add] at hl
          exact hnx _ _ ⟨zs, rfl, by omega, hz, hD3.le (by omega)⟩
      · rintro Γ1 M2 ⟨hs, rfl, hl3, hs2, hD2⟩
        -- the rows
        refine do_seqG (fun Γ' M' => ∃ rs : List D, (∃ o, Γ' = [some (.ref p), some (.int j), some (.int way), o, some (.lst rs), none, none]) ∧ rs.length ≤ 3 ∧ (∀ x ∈ rs, rowR x) ∧ Dr B p ns (b + 8) M') (fun nx hnx => ?_) ?_
        · have main : ∀ hs2 : List Str, hs2.length ≤ 3 → (∀ z ∈ hs2, z.length ≤ 2 ∧ PyData.strOk z = true) → ∀ (kk : List D → MS → Prop), (∀ rs M', rs.length ≤ 3 → (∀ x ∈ rs, rowR x) → Dr B p ns (b + 8) M' → kk rs M') →
              LcD (gNm 6) fYes (fTup (fCons (fVar 6) (fCons (fCall pfPick [] (fCons (fVar 0) (fCons (fLst (fCons (fC (D.int 1)) (fCons (fC (D.int 2)) (fCons (fC (D.int 30)) (fCons (fC (D.int 1)) (fCons (fC (D.int 1)) (fCons (fC (D.int 0)) (fCons (fC (D.bl true)) (fCons (fC (D.str "1")) fNil))))))))) fNil))) fNil)))
                [some (.ref p), some (.int j), some (.int way), some (.lst (hs.map .str)), none, none, none] kk (hs2.map .str) [] M2 := by
            intro hz hzl hzs kk hkk
            refine LcD_relN (R := rowR) (N := (hz.map D.str).length) (J := fun n M => Dr B p ns (b + 5 + n) M) (hz.map .str) [] 0 M2 (Nat.le_trans (by rw [List.length_map]; show 0 + _ ≤ 3; omega) (by decide : 3 ≤ sizeLine)) (Nat.zero_add _) hD2 (fun _ h => by simp at h) (fun x hx m M3 k' hm hD3 hn => ?_) (fun ys M3 hl hR hD3 => ?_)
            · rw [List.length_map] at hm
              obtain ⟨z, hzm, rfl⟩ := List.mem_map.mp hx
              simp only [ap_var, ap_C, ap_op, ap_un, ap_cb, ap_test, ap_chain, ap_and, ap_or, ap_not, ap_andV, ap_orV, ap_notV, ap_if, ap_nil, ap_cons, ap_lst, ap_tup, ap_noP, ap_part, ap_sl, ap_next, ap_ret, ap_set, ap_drop, ap_asg, ap_par, ap_nm, ap_no, ap_cn, ap_tp, ap_itL, ap_itZ, ap_itT, ap_itS, ap_rng1, ap_zip, ap_lc, ap_yes, ap_call, ap_callK, ap_join, ap_pen, ap_penSet, ap_sortSet, ap_eq, ap_ne, ap_isi, ap_repr, ap_all, ap_I, ap_1I, ap_addI, ap_addS, ap_addL, ap_ltI, ap_ltS, ap_lenS, ap_lenL, ap_lenT, ap_lenZ, ap_ixL, ap_ixT, ap_ixS, ap_slL, ap_slZ, ap_slS, ap_abs, ap_int, ap_listL, ap_listT, ap_listZ, ap_listS, ap_tupL, ap_tupT, ap_inL, ap_inS, exists_eq_left', exists_eq_left, and_assoc, exists_and_left, D.bl.injEq, D.int.injEq, D.str.injEq, D.lst.injEq, D.tup.injEq, D.scr.injEq, Option.some.injEq, List.getElem?_cons_zero, List.getElem?_cons_succ, List.set_cons_zero, List.set_cons_succ, true_and, and_true, List.cons.injEq, List.nil_append, List.append_nil, List.map_cons, List.map_nil, wipeG, ndOf, List.length_cons, List.length_nil]
              refine ⟨by decide, B, p, ns, _, _, rfl, hD3, by omega, by decide, by decide, fun d M4 hd hD4 => ⟨by decide, hn _ _ ⟨_, _, rfl, ?_, ?_⟩ hD4⟩⟩
              · have := hzs z hzm
                simp only [flatG, flatD, good, Bool.true_and, Bool.and_eq_true, decide_eq_true_eq]
                exact ⟨by omega, this.2⟩
              · simp only [List.mem_cons, List.not_mem_nil, or_false] at hd
                rcases hd with rfl | rfl | rfl | rfl | rfl | rfl | rfl | rfl <;> first | rfl | decide +kernel
            · rw [List.length_map] at hD3
              rw [List.length_map, List.length_nil, Nat.zero_add] at hl
              exact hkk _ _ (by omega) hR (hD3.le (by omega))
          simp only [ap_var, ap_C, ap_op, ap_un, ap_cb, ap_test, ap_chain, ap_and, ap_or, ap_not, ap_andV, ap_orV, ap_notV, ap_if, ap_nil, ap_cons, ap_lst, ap_tup, ap_noP, ap_part, ap_sl, ap_next, ap_ret, ap_set, ap_drop, ap_asg, ap_par, ap_nm, ap_no, ap_cn, ap_tp, ap_itL, ap_itZ, ap_itT, ap_itS, ap_rng1, ap_zip, ap_lc, ap_yes, ap_call, ap_callK, ap_join, ap_pen, ap_penSet, ap_sortSet, ap_eq, ap_ne, ap_isi, ap_repr, ap_all, ap_I, ap_1I, ap_addI, ap_addS, ap_addL, ap_ltI, ap_ltS, ap_lenS, ap_lenL, ap_lenT, ap_lenZ, ap_ixL, ap_ixT, ap_ixS, ap_slL, ap_slZ, ap_slS, ap_abs, ap_int, ap_listL, ap_listT, ap_listZ, ap_listS, ap_tupL, ap_tupT, ap_inL, ap_inS, exists_eq_left', exists_eq_left, and_assoc, exists_and_left, D.bl.injEq, D.int.injEq, D.str.injEq, D.lst.injEq, D.tup.injEq, D.scr.injEq, Option.some.injEq, List.getElem?_cons_zero, List.getElem?_cons_succ, List.set_cons_zero, List.set_cons_succ, true_and, and_true, List.cons.injEq, List.nil_append, List.append_nil, List.map_cons, List.map_nil, wipeG, ndOf, List.length_cons, List.length_nil]
          refine ite_b (fun q => ?_) (fun q => ?_)
          · refine ⟨hs, rfl, by omega, fun ys ha hm => ?_⟩
            have hyl := sub_len ys hs (asc_nodup ha) fun y hy => (hm y).mp hy
            exact main ys (by omega) (fun z hz => hs2 z ((hm z).mp hz)) _ fun rs M' h1 h2 h3 => hnx _ _ ⟨rs, ⟨_, rfl⟩, h1, h2, h3⟩
          · exact main hs hl3 hs2 _ fun rs M' h1 h2 h3 => hnx _ _ ⟨rs, ⟨_, rfl⟩, h1, h2, h3⟩
        · rintro Γ2 M3 ⟨rs, ⟨o, rfl⟩, rl, rr, hD3⟩
          refine do_seqG (fun Γ' M' => ∃ rs : List D, Γ' = [some (.ref p), some (.int j), some (.int way), o, some (.lst rs), none, none] ∧ rs.length ≤ 3 ∧ (∀ x ∈ rs, good x = true) ∧ Dr B p ns (b + 8) M') (fun nx hnx => ?_) ?_
          · refine do_if (v := decide (way = 7) && !rs.isEmpty) (fun k kx h => ?_) (fun hv => ?_) (fun hv => ?_)
            · simp only [ap_var, ap_C, ap_op, ap_un, ap_cb, ap_test, ap_chain, ap_and, ap_or, ap_not, ap_andV, ap_orV, ap_notV, ap_if, ap_nil, ap_cons, ap_lst, ap_tup, ap_noP, ap_part, ap_sl, ap_next, ap_ret, ap_set, ap_drop, ap_asg, ap_par, ap_nm, ap_no, ap_cn, ap_tp, ap_itL, ap_itZ, ap_itT, ap_itS, ap_rng1, ap_zip, ap_lc, ap_yes, ap_call, ap_callK, ap_join, ap_pen, ap_penSet, ap_sortSet, ap_eq, ap_ne, ap_isi, ap_repr, ap_all, ap_I, ap_1I, ap_addI, ap_addS, ap_addL, ap_ltI, ap_ltS, ap_lenS, ap_lenL, ap_lenT, ap_lenZ, ap_ixL, ap_ixT, ap_ixS, ap_slL, ap_slZ, ap_slS, ap_abs, ap_int, ap_listL, ap_listT, ap_listZ, ap_listS, ap_tupL, ap_tupT, ap_inL, ap_inS, exists_eq_left', exists_eq_left, and_assoc, exists_and_left, D.bl.injEq, D.int.injEq, D.str.injEq, D.lst.injEq, D.tup.injEq, D.scr.injEq, Option.some.injEq, List.getElem?_cons_zero, List.getElem?_cons_succ, List.set_cons_zero, List.set_cons_succ, true_and, and_true, List.cons.injEq, List.nil_append, List.append_nil, List.map_cons, List.map_nil, wipeG, ndOf, List.length_cons, List.length_nil, eqOk_int, eqD_int, eqOk_nil, rows_eqOk rr, eqD_nil]
              refine ite_b (fun q => ?_) (fun q => ?_)
              · rw [q, Bool.true_and] at h
                exact ⟨Nat.zero_le _, h⟩
              · rw [q, Bool.false_and] at h
                exact h
            · have hne : rs ≠ [] := fun e => by
                have := (Bool.and_eq_true_iff.mp hv).2
                rw [e] at this
                cases this
              obtain ⟨d, e, hd⟩ := atI_last hne
              obtain ⟨x, y, rfl, fx, fy⟩ := rr d hd
              simp only [ap_var, ap_C, ap_op, ap_un, ap_cb, ap_test, ap_chain, ap_and, ap_or, ap_not, ap_andV, ap_orV, ap_notV, ap_if, ap_nil, ap_cons, ap_lst, ap_tup, ap_noP, ap_part, ap_sl, ap_next, ap_ret, ap_set, ap_drop, ap_asg, ap_par, ap_nm, ap_no, ap_cn, ap_tp, ap_itL, ap_itZ, ap_itT, ap_itS, ap_rng1, ap_zip, ap_lc, ap_yes, ap_call, ap_callK, ap_join, ap_pen, ap_penSet, ap_sortSet, ap_eq, ap_ne, ap_isi, ap_repr, ap_all, ap_I, ap_1I, ap_addI, ap_addS, ap_addL, ap_ltI, ap_ltS, ap_lenS, ap_lenL, ap_lenT, ap_lenZ, ap_ixL, ap_ixT, ap_ixS, ap_slL, ap_slZ, ap_slS, ap_abs, ap_int, ap_listL, ap_listT, ap_listZ, ap_listS, ap_tupL, ap_tupT, ap_inL, ap_inS, exists_eq_left', exists_eq_left, and_assoc, exists_and_left, D.bl.injEq, D.int.injEq, D.str.injEq, D.lst.injEq, D.tup.injEq, D.scr.injEq, Option.some.injEq, List.getElem?_cons_zero, List.getElem?_cons_succ, List.set_cons_zero, List.set_cons_succ, true_and, and_true, List.cons.injEq, List.nil_append, List.append_nil, List.map_cons, List.map_nil, wipeG, ndOf, List.length_cons, List.length_nil, e]
              have hc := cut_len rs none (some (-1))
              refine ⟨by decide, Nat.le_trans (m := 4) (by omega) (by decide), hnx _ _ ⟨_, rfl, ?_, fun z hz => ?_, hD3⟩⟩
              · rw [List.length_append]
                have hz : (Dl.cutD rs none (some (-1))).length + 1 ≤ 3 := by
                  have hrl : rs.length ≠ 0 := fun e => hne (List.length_eq_zero_iff.mp e)
                  obtain ⟨m, em⟩ : ∃ m, rs.length = m + 1 := ⟨rs.length - 1, by omega⟩
                  unfold Dl.cutD
                  rw [em, sIx_last, HT.sIx_none, List.length_take]
                  omega
                exact hz
              · rcases List.mem_append.mp hz with hz | hz
                · exact row_good (rr z (cut_mem hz))
                · rw [List.mem_singleton.mp hz]
                  rfl
            · exact do_next (hnx _ _ ⟨rs, rfl, rl, fun x hx => row_good (rr x hx), hD3⟩)
          · rintro Γ3 M4 ⟨rs, rfl, rl, rr, hD4⟩
            refine do_seqG (fun Γ' M' => ∃ rs : List D, Γ' = [some (.ref p), some (.int j), some (.int way), o, some (.lst rs), none, none] ∧ rs.length ≤ 4 ∧ (∀ x ∈ rs, good x = true) ∧ Dr B p ns (b + 60 * (n + 1)) M') (fun nx hnx => ?_) ?_
            · refine do_if (v := decide (way = 8)) (fun k kx h => ?_) (fun hv => ?_) (fun hv => ?_)
              · simp only [ap_var, ap_C, ap_op, ap_un, ap_cb, ap_test, ap_chain, ap_and, ap_or, ap_not, ap_andV, ap_orV, ap_notV, ap_if, ap_nil, ap_cons, ap_lst, ap_tup, ap_noP, ap_part, ap_sl, ap_next, ap_ret, ap_set, ap_drop, ap_asg, ap_par, ap_nm, ap_no, ap_cn, ap_tp, ap_itL, ap_itZ, ap_itT, ap_itS, ap_rng1, ap_zip, ap_lc, ap_yes, ap_call, ap_callK, ap_join, ap_pen, ap_penSet, ap_sortSet, ap_eq, ap_ne, ap_isi, ap_repr, ap_all, ap_I, ap_1I, ap_addI, ap_addS, ap_addL, ap_ltI, ap_ltS, ap_lenS, ap_lenL, ap_lenT, ap_lenZ, ap_ixL, ap_ixT, ap_ixS, ap_slL, ap_slZ, ap_slS, ap_abs, ap_int, ap_listL, ap_listT, ap_listZ, ap_listS, ap_tupL, ap_tupT, ap_inL, ap_inS, exists_eq_left', exists_eq_left, and_assoc, exists_and_left, D.bl.injEq, D.int.injEq, D.str.injEq, D.lst.injEq, D.tup.injEq, D.scr.injEq, Option.some.injEq, List.getElem?_cons_zero, List.getElem?_cons_succ, List.set_cons_zero, List.set_cons_succ, true_and, and_true, List.cons.injEq, List.nil_append, List.append_nil, List.map_cons, List.map_nil, wipeG, ndOf, List.length_cons, List.length_nil, eqOk_int, eqD_int]
                exact h
              · simp only [ap_var, ap_C, ap_op, ap_un, ap_cb, ap_test, ap_chain, ap_and, ap_or, ap_not, ap_andV, ap_orV, ap_notV, ap_if, ap_nil, ap_cons, ap_lst, ap_tup, ap_noP, ap_part, ap_sl, ap_next, ap_ret, ap_set, ap_drop, ap_asg, ap_par, ap_nm, ap_no, ap_cn, ap_tp, ap_itL, ap_itZ, ap_itT, ap_itS, ap_rng1, ap_zip, ap_lc, ap_yes, ap_call, ap_callK, ap_join, ap_pen, ap_penSet, ap_sortSet, ap_eq, ap_ne, ap_isi, ap_repr, ap_all, ap_I, ap_1I, ap_addI, ap_addS, ap_addL, ap_ltI, ap_ltS, ap_lenS, ap_lenL, ap_lenT, ap_lenZ, ap_ixL, ap_ixT, ap_ixS, ap_slL, ap_slZ, ap_slS, ap_abs, ap_int, ap_listL, ap_listT, ap_listZ, ap_listS, ap_tupL, ap_tupT, ap_inL, ap_inS, exists_eq_left', exists_eq_left, and_assoc, exists_and_left, D.bl.injEq, D.int.injEq, D.str.injEq, D.lst.injEq, D.tup.injEq, D.scr.injEq, Option.some.injEq, List.getElem?_cons_zero, List.getElem?_cons_succ, List.set_cons_zero, List.set_cons_succ, true_and, and_true, List.cons.injEq, List.nil_append, List.append_nil, List.map_cons, List.map_nil, wipeG, ndOf, List.length_cons, List.length_nil]
                refine ⟨B, p, ns, _, j - 1, rfl, by omega, by omega, hD4, by omega, fun d M5 hd hD5 => ?_⟩
                refine ⟨by decide, Nat.le_trans (m := 4) (by show rs.length + 1 ≤ 4; omega) (by decide), hnx _ _ ⟨_, rfl, ?_, fun z hz => ?_, hD5.le (by omega)⟩⟩
                · rw [List.length_append]
                  show rs.length + 1 ≤ 4
                  omega
                · rcases List.mem_append.mp hz with hz | hz
                  · exact rr z hz
                  · rw [List.mem_singleton.mp hz]
                    exact hd
              · exact do_next (hnx _ _ ⟨rs, rfl, by omega, rr, hD4.le (by omega)⟩)
            · rintro Γ4 M5 ⟨rs, rfl, rl, rr, hD5⟩
              simp only [ap_var, ap_C, ap_op, ap_un, ap_cb, ap_test, ap_chain, ap_and, ap_or, ap_not, ap_andV, ap_orV, ap_notV, ap_if, ap_nil, ap_cons, ap_lst, ap_tup, ap_noP, ap_part, ap_sl, ap_next, ap_ret, ap_set, ap_drop, ap_asg, ap_par, ap_nm, ap_no, ap_cn, ap_tp, ap_itL, ap_itZ, ap_itT, ap_itS, ap_rng1, ap_zip, ap_lc, ap_yes, ap_call, ap_callK, ap_join, ap_pen, ap_penSet, ap_sortSet, ap_eq, ap_ne, ap_isi, ap_repr, ap_all, ap_I, ap_1I, ap_addI, ap_addS, ap_addL, ap_ltI, ap_ltS, ap_lenS, ap_lenL, ap_lenT, ap_lenZ, ap_ixL, ap_ixT, ap_ixS, ap_slL, ap_slZ, ap_slS, ap_abs, ap_int, ap_listL, ap_listT, ap_listZ, ap_listS, ap_tupL, ap_tupT, ap_inL, ap_inS, exists_eq_left', exists_eq_left, and_assoc, exists_and_left, D.bl.injEq, D.int.injEq, D.str.injEq, D.lst.injEq, D.tup.injEq, D.scr.injEq, Option.some.injEq, List.getElem?_cons_zero, List.getElem?_cons_succ, List.set_cons_zero, List.set_cons_succ, true_and, and_true, List.cons.injEq, List.nil_append, List.append_nil, List.map_cons, List.map_nil, wipeG, ndOf, List.length_cons, List.length_nil, eqOk_int, eqD_int]
              refine ite_b (fun q => ?_) (fun q => ?_)
              · exact hk _ _ rfl hD5
              · exact hk _ _ (good_tupl (by omega) rr) hD5
end
end Loneboard_k01_checks_of_any_values

set_option Elab.async false
set_option linter.all false
set_option maxRecDepth 100000
set_option maxHeartbeats 4000000
namespace Loneboard_k01_checks_of_any_values
open PySem PySem.Spec PyProof.Rows L2 Dl
theorem shown4 : ∀ a b c d : Bool, shownOk (.lst [.bl a, .bl b, .bl c, .bl d]) ∧ eqOk (.str (toPy (.lst [.bl a, .bl b, .bl c, .bl d])).shown) = true := by
  intro a b c d
  cases a <;> cases b <;> cases c <;> cases d <;> exact ⟨⟨by decide +kernel, by decide +kernel, by decide +kernel, by decide +kernel, by decide +kernel⟩, by decide +kernel⟩
theorem shown2 : ∀ a b : Bool, shownOk (.lst [.bl a, .bl b]) ∧ eqOk (.str (toPy (.lst [.bl a, .bl b])).shown) = true := by
  intro a b
  cases a <;> cases b <;> exact ⟨⟨by decide +kernel, by decide +kernel, by decide +kernel, by decide +kernel, by decide +kernel⟩, by decide +kernel⟩
theorem shown1 : ∀ a : Bool, shownOk (.bl a) ∧ eqOk (.str (toPy (.bl a)).shown) = true := by
  intro a
  cases a <;> exact ⟨⟨by decide +kernel, by decide +kernel, by decide +kernel, by decide +kernel, by decide +kernel⟩, by decide +kernel⟩
theorem sz0 : 0 ≤ sizeLine := by decide
theorem sz1 : 0 + 1 ≤ sizeLine := by decide
theorem sz2 : 0 + 1 + 1 ≤ sizeLine := by decide
theorem sz4 : 0 + 1 + 1 + 1 + 1 ≤ sizeLine := by decide
theorem sz5 : 0 + 1 + 1 + 1 + 1 + 1 ≤ sizeLine := by decide
section
variable {P : Program} {w : World} {K : PySem.W.Frag} {mg : Str → Option Value} {base : Heap} {a : Nat → Addr} {fd : Nat → FuncData}
def pfLaw : FN := fun ds M k => ∃ ns : List Int, ds = [.scr ns] ∧ ∀ M', k (.bl true) M'
theorem ok_law (T : Txt K mg a fd) : FnG P w K mg base CX0 7 (a 20) (fd 20) ["script"] (spD K pfLaw) := by
  have G_is_integer := ok_is_integer (P := P) (w := w) (base := base) T
  have G_is_name := ok_is_name (P := P) (w := w) (base := base) T
  have G_is_letter := ok_is_letter (P := P) (w := w) (base := base) T
  have G_is_stamp := ok_is_stamp (P := P) (w := w) (base := base) T
  have G_is_part := ok_is_part (P := P) (w := w) (base := base) T
  have G__law_is_name := ok_law_is_name (P := P) (w := w) (base := base) T
  have G__law_is_letter := ok_law_is_letter (P := P) (w := w) (base := base) T
  have G__law_is_stamp := ok_law_is_stamp (P := P) (w := w) (base := base) T
  have G__law_is_part := ok_law_is_part (P := P) (w := w) (base := base) T
  have G__law_pen := ok_law_pen (P := P) (w := w) (base := base) T
  have G__law_text := ok_law_text (P := P) (w := w) (base := base) T
  have G__law_value := ok_law_value (P := P) (w := w) (base := base) T 3
  refine okD T.F_law sc_law (fun ds M k ⟨_, e, _⟩ => by rw [e]; rfl) fun cdv A outer s H E hg hr => ⟨_, (ds_cons (ds_set 1 sc_law.nd rfl (by first | exact .inl rfl | exact .inr rfl) (de_call G__law_pen hg (hr.mono (by omega)) rfl T.g__law_pen T.k__law_pen T.bb__law_pen .nil (fun _ _ => .nil) (da_cons (de_var 0) da_nil)))
  (ds_cons (ds_for PassesOwn.never rfl (di_rng1 rfl T.b_range (da_cons de_int da_nil)) (dg_name 2 sc_law.nd rfl (by first | exact .inl rfl | exact .inr rfl))
  (ds_cons (ds_par 3 4 rfl sc_law.nd rfl rfl (by decide) rfl rfl (da_cons (de_call G__law_value hg (hr.mono (by omega)) rfl T.g__law_value T.k__law_value T.bb__law_value .nil (fun _ _ => .nil) (da_cons (de_var 1) (da_cons de_int da_nil))) (da_cons (de_call G__law_text hg (hr.mono (by omega)) rfl T.g__law_text T.k__law_text T.bb__law_text .nil (fun _ _ => .nil) (da_cons (de_var 1) da_nil)) da_nil)) (by rfl))
  (ds_cons (ds_set 5 sc_law.nd rfl (by first | exact .inl rfl | exact .inr rfl) (de_lst (da_cons (de_call G__law_is_name hg (hr.mono (by omega)) rfl T.g__law_is_name T.k__law_is_name T.bb__law_is_name .nil (fun _ _ => .nil) (da_cons (de_var 3) da_nil)) (da_cons (de_call G__law_is_letter hg (hr.mono (by omega)) rfl T.g__law_is_letter T.k__law_is_letter T.bb__law_is_letter .nil (fun _ _ => .nil) (da_cons (de_var 3) da_nil)) (da_cons (de_call G__law_is_stamp hg (hr.mono (by omega)) rfl T.g__law_is_stamp T.k__law_is_stamp T.bb__law_is_stamp .nil (fun _ _ => .nil) (da_cons (de_var 3) da_nil)) (da_cons (de_call G__law_is_part hg (hr.mono (by omega)) rfl T.g__law_is_part T.k__law_is_part T.bb__law_is_part .nil (fun _ _ => .nil) (da_cons (de_var 3) da_nil)) da_nil))))))
  (ds_cons (ds_if (t_ne hr.units (c_repr hg hr.units rfl T.b_repr (da_cons (de_lst (da_cons (de_call G_is_name hg (hr.mono (by omega)) rfl T.g_is_name T.k_is_name T.bb_is_name .nil (fun _ _ => .nil) (da_cons (de_var 3) da_nil)) (da_cons (de_call G_is_letter hg (hr.mono (by omega)) rfl T.g_is_letter T.k_is_letter T.bb_is_letter .nil (fun _ _ => .nil) (da_cons (de_var 3) da_nil)) (da_cons (de_call G_is_stamp hg (hr.mono (by omega)) rfl T.g_is_stamp T.k_is_stamp T.bb_is_stamp .nil (fun _ _ => .nil) (da_cons (de_var 3) da_nil)) (da_cons (de_call G_is_part hg (hr.mono (by omega)) rfl T.g_is_part T.k_is_part T.bb_is_part .nil (fun _ _ => .nil) (da_cons (de_var 3) da_nil)) da_nil))))) da_nil)) (c_repr hg hr.units rfl T.b_repr (da_cons (de_var 5) da_nil)))
  (ds_one (ds_ret de_bl))
  ds_nil)
  (ds_cons (ds_if (t_ne hr.units (c_repr hg hr.units rfl T.b_repr (da_cons (de_lst (da_cons (de_callK0 G_is_name hg (hr.mono (by omega)) rfl T.g_is_name T.k_is_name T.bk_is_name (fun _ _ _ _ h => h) (dk_cons (de_var 4) dk_nil)) (da_cons (de_callK0 G_is_letter hg (hr.mono (by omega)) rfl T.g_is_letter T.k_is_letter T.bk_is_letter (fun _ _ _ _ h => h) (dk_cons (de_var 4) dk_nil)) da_nil))) da_nil)) (c_repr hg hr.units rfl T.b_repr (da_cons (de_lst (da_cons (de_call G__law_is_name hg (hr.mono (by omega)) rfl T.g__law_is_name T.k__law_is_name T.bb__law_is_name .nil (fun _ _ => .nil) (da_cons (de_var 4) da_nil)) (da_cons (de_call G__law_is_letter hg (hr.mono (by omega)) rfl T.g__law_is_letter T.k__law_is_letter T.bb__law_is_letter .nil (fun _ _ => .nil) (da_cons (de_var 4) da_nil)) da_nil))) da_nil)))
  (ds_one (ds_ret de_bl))
  ds_nil)
  (ds_one (ds_if (t_ne hr.units (c_repr hg hr.units rfl T.b_repr (da_cons (de_call G_is_integer hg (hr.mono (by omega)) rfl T.g_is_integer T.k_is_integer T.bb_is_integer .nil (fun _ _ => .nil) (da_cons (de_var 3) da_nil)) da_nil)) (c_repr hg hr.units rfl T.b_repr (da_cons (de_and (c_isi rfl T.b_isinstance (da_cons (de_var 3) (da_cons (de_ty (n := "int") rfl T.b_int (by decide +kernel)) da_nil))) (de_one (de_not (c_isi rfl T.b_isinstance (da_cons (de_var 3) (da_cons (de_ty (n := "bool") rfl T.b_bool (by decide +kernel)) da_nil)))))) da_nil)))
  (ds_one (ds_ret de_bl))
  ds_nil)))))))
  (ds_cons (ds_set 6 sc_law.nd rfl (by first | exact .inl rfl | exact .inr rfl) (de_lst (da_cons (de_callK0 G_is_stamp hg (hr.mono (by omega)) rfl T.g_is_stamp T.k_is_stamp T.bk_is_stamp (fun _ _ _ _ h => h) (dk_cons (de_tup (da_cons de_int (da_cons de_str da_nil))) dk_nil)) (da_cons (de_callK0 G_is_part hg (hr.mono (by omega)) rfl T.g_is_part T.k_is_part T.bk_is_part (fun _ _ _ _ h => h) (dk_cons (de_tup da_nil) dk_nil)) (da_cons (de_call G_is_part hg (hr.mono (by omega)) rfl T.g_is_part T.k_is_part T.bb_is_part .nil (fun _ _ => .nil) (da_cons (de_tup (da_cons (de_tup (da_cons de_str (da_cons de_int da_nil))) (da_cons (de_tup (da_cons de_str (da_cons de_int da_nil))) da_nil))) da_nil)) (da_cons (de_call G_is_part hg (hr.mono (by omega)) rfl T.g_is_part T.k_is_part T.bb_is_part .nil (fun _ _ => .nil) (da_cons (de_tup (da_cons (de_tup (da_cons de_str (da_cons de_int da_nil))) (da_cons (de_tup (da_cons de_str (da_cons de_int da_nil))) da_nil))) da_nil)) (da_cons (de_callK0 G_is_integer hg (hr.mono (by omega)) rfl T.g_is_integer T.k_is_integer T.bk_is_integer (fun _ _ _ _ h => h) (dk_cons de_bl dk_nil)) da_nil)))))))
  (ds_one (ds_ret (de_and (d_eq hr.units (de_var 6) (de_lst (da_cons de_bl (da_cons de_bl (da_cons de_bl (da_cons de_bl (da_cons de_bl da_nil))))))) (de_and (de_call G_is_name hg (hr.mono (by omega)) rfl T.g_is_name T.k_is_name T.bb_is_name .nil (fun _ _ => .nil) (da_cons de_str da_nil)) (de_and (de_not (de_call G_is_name hg (hr.mono (by omega)) rfl T.g_is_name T.k_is_name T.bb_is_name .nil (fun _ _ => .nil) (da_cons de_str da_nil))) (de_one (de_call G_is_letter hg (hr.mono (by omega)) rfl T.g_is_letter T.k_is_letter T.bb_is_letter .nil (fun _ _ => .nil) (da_cons de_str da_nil))))))))))), fun ds M k h => ?_⟩
  obtain ⟨ns, rfl, hk⟩ := h
  rw [show startG N_law [.scr ns] = [some (.scr ns), none, none, none, none, none, none] from rfl]
  rw [ap_seq]
  simp only [ap_var, ap_C, ap_op, ap_un, ap_cb, ap_test, ap_chain, ap_and, ap_or, ap_not, ap_andV, ap_orV, ap_notV, ap_if, ap_nil, ap_cons, ap_lst, ap_tup, ap_noP, ap_part, ap_sl, ap_next, ap_ret, ap_set, ap_drop, ap_asg, ap_par, ap_nm, ap_no, ap_cn, ap_tp, ap_itL, ap_itZ, ap_itT, ap_itS, ap_rng1, ap_zip, ap_lc, ap_yes, ap_call, ap_callK, ap_join, ap_pen, ap_penSet, ap_sortSet, ap_eq, ap_ne, ap_isi, ap_repr, ap_all, ap_I, ap_1I, ap_addI, ap_addS, ap_addL, ap_ltI, ap_ltS, ap_lenS, ap_lenL, ap_lenT, ap_lenZ, ap_ixL, ap_ixT, ap_ixS, ap_slL, ap_slZ, ap_slS, ap_abs, ap_int, ap_listL, ap_listT, ap_listZ, ap_listS, ap_tupL, ap_tupT, ap_inL, ap_inS, exists_eq_left', exists_eq_left, and_assoc, exists_and_left, D.bl.injEq, D.int.injEq, D.str.injEq, D.lst.injEq, D.tup.injEq, D.scr.injEq, Option.some.injEq, List.getElem?_cons_zero, List.getElem?_cons_succ, List.set_cons_zero, List.set_cons_succ, true_and, and_true, List.cons.injEq, List.nil_append, List.append_nil, List.map_cons, List.map_nil, wipeG, ndOf, List.length_cons, List.length_nil]
  refine ⟨ns, rfl, fun p hp => ?_⟩
  generalize Dl.cutD ns none (some 63) = cs
  refine do_seqG (fun Γ' M' => ∃ o2 o3 o4 o5, Γ' = [some (.scr ns), some (.ref p), o2, o3, o4, o5, none]) (fun nx hnx => ?_) ?_
  · refine ⟨40, rfl, by decide, by decide, ?_⟩
    refine ForD_inv (J := fun i Γ M1 => i ≤ 40 ∧ Dr M p cs (i * 300) M1 ∧ ∃ o2 o3 o4 o5, Γ = [some (.scr ns), some (.ref p), o2, o3, o4, o5, none]) (rngD 0 (Int.toNat 40)) 0 _ _ ⟨by decide, ⟨0, Nat.le_refl _, rfl⟩, none, none, none, none, rfl⟩ (fun i x hx Γ M1 ⟨_, hD, o2, o3, o4, o5, hΓ⟩ nx hn => ?_) (fun Γ M1 ⟨_, hD, hΓ⟩ => hnx _ _ hΓ)
    subst hΓ
    have hi : i < 40 := by
      have := (List.getElem?_eq_some_iff.mp hx).1
      rw [rngD_len] at this
      exact this
    rw [Nat.zero_add] at hD
    rw [ap_nm, ap_seq]
    simp only [ap_var, ap_C, ap_op, ap_un, ap_cb, ap_test, ap_chain, ap_and, ap_or, ap_not, ap_andV, ap_orV, ap_notV, ap_if, ap_nil, ap_cons, ap_lst, ap_tup, ap_noP, ap_part, ap_sl, ap_next, ap_ret, ap_set, ap_drop, ap_asg, ap_par, ap_nm, ap_no, ap_cn, ap_tp, ap_itL, ap_itZ, ap_itT, ap_itS, ap_rng1, ap_zip, ap_lc, ap_yes, ap_call, ap_callK, ap_join, ap_pen, ap_penSet, ap_sortSet, ap_eq, ap_ne, ap_isi, ap_repr, ap_all, ap_I, ap_1I, ap_addI, ap_addS, ap_addL, ap_ltI, ap_ltS, ap_lenS, ap_lenL, ap_lenT, ap_lenZ, ap_ixL, ap_ixT, ap_ixS, ap_slL, ap_slZ, ap_slS, ap_abs, ap_int, ap_listL, ap_listT, ap_listZ, ap_listS, ap_tupL, ap_tupT, ap_inL, ap_inS, exists_eq_left', exists_eq_left, and_assoc, exists_and_left, D.bl.injEq, D.int.injEq, D.str.injEq, D.lst.injEq, D.tup.injEq, D.scr.injEq, Option.some.injEq, List.getElem?_cons_zero, List.getElem?_cons_succ, List.set_cons_zero, List.set_cons_succ, true_and, and_true, List.cons.injEq, List.nil_append, List.append_nil, List.map_cons, List.map_nil, wipeG, ndOf, List.length_cons, List.length_nil]
    refine ⟨M, p, cs, _, 2, rfl, by decide, by decide, hD, by omega, fun v M2 gv hD2 => ⟨M, p, cs, _, rfl, hD2, by omega, fun t M3 ht hD3 => ?_⟩⟩
    have gt := good_text ht (by decide)
    have hD4 : Dr M p cs ((i + 1) * 300) M3 := hD3.le (by omega)
    dsimp only
    rw [ap_seq]
    simp only [ap_var, ap_C, ap_op, ap_un, ap_cb, ap_test, ap_chain, ap_and, ap_or, ap_not, ap_andV, ap_orV, ap_notV, ap_if, ap_nil, ap_cons, ap_lst, ap_tup, ap_noP, ap_part, ap_sl, ap_next, ap_ret, ap_set, ap_drop, ap_asg, ap_par, ap_nm, ap_no, ap_cn, ap_tp, ap_itL, ap_itZ, ap_itT, ap_itS, ap_rng1, ap_zip, ap_lc, ap_yes, ap_call, ap_callK, ap_join, ap_pen, ap_penSet, ap_sortSet, ap_eq, ap_ne, ap_isi, ap_repr, ap_all, ap_I, ap_1I, ap_addI, ap_addS, ap_addL, ap_ltI, ap_ltS, ap_lenS, ap_lenL, ap_lenT, ap_lenZ, ap_ixL, ap_ixT, ap_ixS, ap_slL, ap_slZ, ap_slS, ap_abs, ap_int, ap_listL, ap_listT, ap_listZ, ap_listS, ap_tupL, ap_tupT, ap_inL, ap_inS, exists_eq_left', exists_eq_left, and_assoc, exists_and_left, D.bl.injEq, D.int.injEq, D.str.injEq, D.lst.injEq, D.tup.injEq, D.scr.injEq, Option.some.injEq, List.getElem?_cons_zero, List.getElem?_cons_succ, List.set_cons_zero, List.set_cons_succ, true_and, and_true, List.cons.injEq, List.nil_append, List.append_nil, List.map_cons, List.map_nil, wipeG, ndOf, List.length_cons, List.length_nil, pf1, gv, sz4]
    refine do_if (v := false) (fun k kx h => ?_) (fun hv => ?_) (fun hv => ?_)
    · obtain ⟨q1, q2⟩ := shown4 (nameB v) (letB v) (stampB v) (partB v)
      simp only [ap_var, ap_C, ap_op, ap_un, ap_cb, ap_test, ap_chain, ap_and, ap_or, ap_not, ap_andV, ap_orV, ap_notV, ap_if, ap_nil, ap_cons, ap_lst, ap_tup, ap_noP, ap_part, ap_sl, ap_next, ap_ret, ap_set, ap_drop, ap_asg, ap_par, ap_nm, ap_no, ap_cn, ap_tp, ap_itL, ap_itZ, ap_itT, ap_itS, ap_rng1, ap_zip, ap_lc, ap_yes, ap_call, ap_callK, ap_join, ap_pen, ap_penSet, ap_sortSet, ap_eq, ap_ne, ap_isi, ap_repr, ap_all, ap_I, ap_1I, ap_addI, ap_addS, ap_addL, ap_ltI, ap_ltS, ap_lenS, ap_lenL, ap_lenT, ap_lenZ, ap_ixL, ap_ixT, ap_ixS, ap_slL, ap_slZ, ap_slS, ap_abs, ap_int, ap_listL, ap_listT, ap_listZ, ap_listS, ap_tupL, ap_tupT, ap_inL, ap_inS, exists_eq_left', exists_eq_left, and_assoc, exists_and_left, D.bl.injEq, D.int.injEq, D.str.injEq, D.lst.injEq, D.tup.injEq, D.scr.injEq, Option.some.injEq, List.getElem?_cons_zero, List.getElem?_cons_succ, List.set_cons_zero, List.set_cons_succ, true_and, and_true, List.cons.injEq, List.nil_append, List.append_nil, List.map_cons, List.map_nil, wipeG, ndOf, List.length_cons, List.length_nil, pf1, gv, sz4, q1, q2, eqD_str, decide_true, Bool.not_true]
      exact h
    · cases hv
    · refine do_next ?_
      refine do_if (v := false) (fun k kx h => ?_) (fun hv => ?_) (fun hv => ?_)
      · obtain ⟨q1, q2⟩ := shown2 (nameB t) (letB t)
        simp only [ap_var, ap_C, ap_op, ap_un, ap_cb, ap_test, ap_chain, ap_and, ap_or, ap_not, ap_andV, ap_orV, ap_notV, ap_if, ap_nil, ap_cons, ap_lst, ap_tup, ap_noP, ap_part, ap_sl, ap_next, ap_ret, ap_set, ap_drop, ap_asg, ap_par, ap_nm, ap_no, ap_cn, ap_tp, ap_itL, ap_itZ, ap_itT, ap_itS, ap_rng1, ap_zip, ap_lc, ap_yes, ap_call, ap_callK, ap_join, ap_pen, ap_penSet, ap_sortSet, ap_eq, ap_ne, ap_isi, ap_repr, ap_all, ap_I, ap_1I, ap_addI, ap_addS, ap_addL, ap_ltI, ap_ltS, ap_lenS, ap_lenL, ap_lenT, ap_lenZ, ap_ixL, ap_ixT, ap_ixS, ap_slL, ap_slZ, ap_slS, ap_abs, ap_int, ap_listL, ap_listT, ap_listZ, ap_listS, ap_tupL, ap_tupT, ap_inL, ap_inS, exists_eq_left', exists_eq_left, and_assoc, exists_and_left, D.bl.injEq, D.int.injEq, D.str.injEq, D.lst.injEq, D.tup.injEq, D.scr.injEq, Option.some.injEq, List.getElem?_cons_zero, List.getElem?_cons_succ, List.set_cons_zero, List.set_cons_succ, true_and, and_true, List.cons.injEq, List.nil_append, List.append_nil, List.map_cons, List.map_nil, wipeG, ndOf, List.length_cons, List.length_nil, pf1, gt, sz2, q1, q2, eqD_str, decide_true, Bool.not_true]
        exact h
      · cases hv
      · refine do_next ?_
        refine do_if (v := false) (fun k kx h => ?_) (fun hv => ?_) (fun hv => ?_)
        · obtain ⟨q1, q2⟩ := shown1 (intB v)
          have ht := good_ty gv
          simp only [ap_var, ap_C, ap_op, ap_un, ap_cb, ap_test, ap_chain, ap_and, ap_or, ap_not, ap_andV, ap_orV, ap_notV, ap_if, ap_nil, ap_cons, ap_lst, ap_tup, ap_noP, ap_part, ap_sl, ap_next, ap_ret, ap_set, ap_drop, ap_asg, ap_par, ap_nm, ap_no, ap_cn, ap_tp, ap_itL, ap_itZ, ap_itT, ap_itS, ap_rng1, ap_zip, ap_lc, ap_yes, ap_call, ap_callK, ap_join, ap_pen, ap_penSet, ap_sortSet, ap_eq, ap_ne, ap_isi, ap_repr, ap_all, ap_I, ap_1I, ap_addI, ap_addS, ap_addL, ap_ltI, ap_ltS, ap_lenS, ap_lenL, ap_lenT, ap_lenZ, ap_ixL, ap_ixT, ap_ixS, ap_slL, ap_slZ, ap_slS, ap_abs, ap_int, ap_listL, ap_listT, ap_listZ, ap_listS, ap_tupL, ap_tupT, ap_inL, ap_inS, exists_eq_left', exists_eq_left, and_assoc, exists_and_left, D.bl.injEq, D.int.injEq, D.str.injEq, D.lst.injEq, D.tup.injEq, D.scr.injEq, Option.some.injEq, List.getElem?_cons_zero, List.getElem?_cons_succ, List.set_cons_zero, List.set_cons_succ, true_and, and_true, List.cons.injEq, List.nil_append, List.append_nil, List.map_cons, List.map_nil, wipeG, ndOf, List.length_cons, List.length_nil, pf1, gv, q1, q2, isT_int, isTok_int ht, isT_bool, isTok_bool ht]
          have hh : ∀ b : Bool, b = intB v → k (!eqD (.str (toPy (.bl (intB v))).shown) (.str (toPy (.bl b)).shown)) M3 := fun b e => by
            rw [e, eqD_str, decide_eq_true rfl]
            exact h
          have hs : ∀ b : Bool, b = intB v → shownOk (.bl b) ∧ eqOk (.str (toPy (.bl b)).shown) = true := fun b e => by rw [e]; exact ⟨q1, q2⟩
          cases v with
          | int i => exact ite_b (fun _ => ⟨(hs true rfl).1, (hs true rfl).2, hh true rfl⟩) (fun e => by cases e)
          | bl i => exact ite_b (fun _ => ⟨(hs false rfl).1, (hs false rfl).2, hh false rfl⟩) (fun e => by cases e)
          | _ => exact ite_b (fun e => by cases e) (fun _ => ⟨(hs false rfl).1, (hs false rfl).2, hh false rfl⟩)
        · cases hv
        · refine do_next (hn _ _ ⟨by omega, ?_, _, _, _, _, rfl⟩)
          rw [Nat.zero_add]
          exact hD4
  · rintro Γ1 M1 ⟨o2, o3, o4, o5, rfl⟩
    rw [ap_seq]
    have g1 : good (.tup [.int 1, .str "a"]) = true := by decide +kernel
    have g2 : good (.tup []) = true := rfl
    have g3 : good (.tup [.tup [.str "a", .int 1], .tup [.str "b", .int 2]]) = true := by decide +kernel
    have g4 : good (.tup [.tup [.str "b", .int 1], .tup [.str "a", .int 1]]) = true := by decide +kernel
    have g5 : good (.bl false) = true := rfl
    have s1 : stampB (.tup [.int 1, .str "a"]) = true := by decide +kernel
    have s2 : partB (.tup []) = true := rfl
    have s3 : partB (.tup [.tup [.str "a", .int 1], .tup [.str "b", .int 2]]) = true := by decide +kernel
    have s4 : partB (.tup [.tup [.str "b", .int 1], .tup [.str "a", .int 1]]) = false := by decide +kernel
    simp only [ap_var, ap_C, ap_op, ap_un, ap_cb, ap_test, ap_chain, ap_and, ap_or, ap_not, ap_andV, ap_orV, ap_notV, ap_if, ap_nil, ap_cons, ap_lst, ap_tup, ap_noP, ap_part, ap_sl, ap_next, ap_ret, ap_set, ap_drop, ap_asg, ap_par, ap_nm, ap_no, ap_cn, ap_tp, ap_itL, ap_itZ, ap_itT, ap_itS, ap_rng1, ap_zip, ap_lc, ap_yes, ap_call, ap_callK, ap_join, ap_pen, ap_penSet, ap_sortSet, ap_eq, ap_ne, ap_isi, ap_repr, ap_all, ap_I, ap_1I, ap_addI, ap_addS, ap_addL, ap_ltI, ap_ltS, ap_lenS, ap_lenL, ap_lenT, ap_lenZ, ap_ixL, ap_ixT, ap_ixS, ap_slL, ap_slZ, ap_slS, ap_abs, ap_int, ap_listL, ap_listT, ap_listZ, ap_listS, ap_tupL, ap_tupT, ap_inL, ap_inS, exists_eq_left', exists_eq_left, and_assoc, exists_and_left, D.bl.injEq, D.int.injEq, D.str.injEq, D.lst.injEq, D.tup.injEq, D.scr.injEq, Option.some.injEq, List.getElem?_cons_zero, List.getElem?_cons_succ, List.set_cons_zero, List.set_cons_succ, true_and, and_true, List.cons.injEq, List.nil_append, List.append_nil, List.map_cons, List.map_nil, wipeG, ndOf, List.length_cons, List.length_nil, pf1, g1, g2, g3, g4, g5, s1, s2, s3, s4, show intB (.bl false) = false from rfl, sz0, sz2, sz5]
    have eb : eqOk (.lst [.bl true, .bl true, .bl true, .bl false, .bl false]) = true := eqOk_bls [true, true, true, false, false]
    have ed : eqD (.lst [.bl true, .bl true, .bl true, .bl false, .bl false]) (.lst [.bl true, .bl true, .bl true, .bl false, .bl false]) = true := eqD_bls [true, true, true, false, false] [true, true, true, false, false]
    have n1 : good (.str "abcdefgh") = true := by decide +kernel
    have n2 : good (.str "abcdefghi") = true := by decide +kernel
    have n3 : good (.str "abcdefgh>") = true := by decide +kernel
    have m1 : nameB (.str "abcdefgh") = true := by decide +kernel
    have m2 : nameB (.str "abcdefghi") = false := by decide +kernel
    have m3 : letB (.str "abcdefgh>") = true := by decide +kernel
    simp only [ap_var, ap_C, ap_op, ap_un, ap_cb, ap_test, ap_chain, ap_and, ap_or, ap_not, ap_andV, ap_orV, ap_notV, ap_if, ap_nil, ap_cons, ap_lst, ap_tup, ap_noP, ap_part, ap_sl, ap_next, ap_ret, ap_set, ap_drop, ap_asg, ap_par, ap_nm, ap_no, ap_cn, ap_tp, ap_itL, ap_itZ, ap_itT, ap_itS, ap_rng1, ap_zip, ap_lc, ap_yes, ap_call, ap_callK, ap_join, ap_pen, ap_penSet, ap_sortSet, ap_eq, ap_ne, ap_isi, ap_repr, ap_all, ap_I, ap_1I, ap_addI, ap_addS, ap_addL, ap_ltI, ap_ltS, ap_lenS, ap_lenL, ap_lenT, ap_lenZ, ap_ixL, ap_ixT, ap_ixS, ap_slL, ap_slZ, ap_slS, ap_abs, ap_int, ap_listL, ap_listT, ap_listZ, ap_listS, ap_tupL, ap_tupT, ap_inL, ap_inS, exists_eq_left', exists_eq_left, and_assoc, exists_and_left, D.bl.injEq, D.int.injEq, D.str.injEq, D.lst.injEq, D.tup.injEq, D.scr.injEq, Option.some.injEq, List.getElem?_cons_zero, List.getElem?_cons_succ, List.set_cons_zero, List.set_cons_succ, true_and, and_true, List.cons.injEq, List.nil_append, List.append_nil, List.map_cons, List.map_nil, wipeG, ndOf, List.length_cons, List.length_nil, pf1, eb, ed, sz5, n1, n2, n3, m1, m2, m3, if_true, Bool.not_false]
    exact hk _
end
end Loneboard_k01_checks_of_any_values

set_option Elab.async false
set_option linter.all false
set_option maxRecDepth 100000
set_option maxHeartbeats 0
namespace Loneboard_k01_checks_of_any_values
open PySem PySem.Spec PyProof.Rows L2 Dl
/-! ### the head -/
def d_is_integer : He.DefD := ⟨("is_integer", none), "is_integer", "is_integer", defArgs s_is_integer, defBody s_is_integer, defScope s_is_integer, [], []⟩
def d_is_name : He.DefD := ⟨("is_name", none), "is_name", "is_name", defArgs s_is_name, defBody s_is_name, defScope s_is_name, [], []⟩
def d_is_letter : He.DefD := ⟨("is_letter", none), "is_letter", "is_letter", defArgs s_is_letter, defBody s_is_letter, defScope s_is_letter, [], []⟩
def d_is_ascending : He.DefD := ⟨("is_ascending", none), "is_ascending", "is_ascending", defArgs s_is_ascending, defBody s_is_ascending, defScope s_is_ascending, [], []⟩
def d_is_stamp : He.DefD := ⟨("is_stamp", none), "is_stamp", "is_stamp", defArgs s_is_stamp, defBody s_is_stamp, defScope s_is_stamp, [], []⟩
def d_is_part : He.DefD := ⟨("is_part", none), "is_part", "is_part", defArgs s_is_part, defBody s_is_part, defScope s_is_part, [], []⟩
def d__law_pen : He.DefD := ⟨("_law_pen", none), "_law_pen", "_law_pen", defArgs s__law_pen, defBody s__law_pen, defScope s__law_pen, [], []⟩
def d__law_draw : He.DefD := ⟨("_law_draw", none), "_law_draw", "_law_draw", defArgs s__law_draw, defBody s__law_draw, defScope s__law_draw, [], []⟩
def d__law_pick : He.DefD := ⟨("_law_pick", none), "_law_pick", "_law_pick", defArgs s__law_pick, defBody s__law_pick, defScope s__law_pick, [], []⟩
def d__law_is_name : He.DefD := ⟨("_law_is_name", none), "_law_is_name", "_law_is_name", defArgs s__law_is_name, defBody s__law_is_name, defScope s__law_is_name, [], []⟩
def d__law_is_letter : He.DefD := ⟨("_law_is_letter", none), "_law_is_letter", "_law_is_letter", defArgs s__law_is_letter, defBody s__law_is_letter, defScope s__law_is_letter, [], []⟩
def d__law_is_count : He.DefD := ⟨("_law_is_count", none), "_law_is_count", "_law_is_count", defArgs s__law_is_count, defBody s__law_is_count, defScope s__law_is_count, [], []⟩
def d__law_is_stamp : He.DefD := ⟨("_law_is_stamp", none), "_law_is_stamp", "_law_is_stamp", defArgs s__law_is_stamp, defBody s__law_is_stamp, defScope s__law_is_stamp, [], []⟩
def d__law_is_part : He.DefD := ⟨("_law_is_part", none), "_law_is_part", "_law_is_part", defArgs s__law_is_part, defBody s__law_is_part, defScope s__law_is_part, [], []⟩
def d__law_text : He.DefD := ⟨("_law_text", none), "_law_text", "_law_text", defArgs s__law_text, defBody s__law_text, defScope s__law_text, [], []⟩
def d__law_value : He.DefD := ⟨("_law_value", none), "_law_value", "_law_value", defArgs s__law_value, defBody s__law_value, defScope s__law_value, [], []⟩
def d_law : He.DefD := ⟨("law", none), "law", "law", defArgs s_law, defBody s_law, defScope s_law, [], []⟩
def fnL : List He.DefD := [d_is_integer, d_is_name, d_is_letter, d_is_ascending, d_is_stamp, d_is_part, d__law_pen, d__law_draw, d__law_pick, d__law_is_name, d__law_is_letter, d__law_is_count, d__law_is_stamp, d__law_is_part, d__law_text, d__law_value, d_law]
def faL : List He.Fa := [.glo "is_integer", .glo "is_name", .glo "is_letter", .glo "is_ascending", .glo "is_stamp", .glo "is_part", .glo "_law_pen", .glo "_law_draw", .glo "_law_pick", .glo "_law_is_name", .glo "_law_is_letter", .glo "_law_is_count", .glo "_law_is_stamp", .glo "_law_is_part", .glo "_law_text", .glo "_law_value", .glo "law", .free "all", .free "range", .free "isinstance", .free "int", .free "str", .free "list", .free "tuple", .free "sorted", .free "bool", .free "len", .free "abs", .free "set", .free "repr", .free "zip", .int "MOST_SIGNS" 8, .str "LETTERS" "abcdefghijklmnopqrstuvwxyz"]
abbrev RR : PySem.W.OpenRow := PySem.W.OpenLaw.row PySem.Challenge.rw_oneboard_k01_checks_of_any_values
abbrev hkL : PySem.W.Hook := He.hookD 4 faL fnL
def obL (s : PySem.W.SharedT) : He.AlD := He.obsDG 4 faL fnL (HandSHeadRun.getT s)
theorem obL_eq (s : PySem.W.SharedT) : obL s = hkL.obs s.abs := He.obsDG_eq (HandSHeadRun.getT_eq s)
abbrev looseL : List PySem.Str := ["LETTERS", "MOST_SIGNS", "is_integer", "is_name", "is_letter", "is_ascending", "is_stamp", "is_part", "_law_pen", "_law_draw", "_law_pick", "_law_is_name", "_law_is_letter", "_law_is_count", "_law_is_stamp", "_law_is_part", "_law_text", "_law_value"]
theorem runL (w : World) : HandSHeadRun.RunEq RR (PySem.W.view RR.prog [20]) hkL obL 4000 looseL w := by
  intro os
  kernel_rfl
def nmOf : Nat → Str
  | 3 => "is_integer"
  | 4 => "is_name"
  | 5 => "is_letter"
  | 6 => "is_ascending"
  | 7 => "is_stamp"
  | 8 => "is_part"
  | 10 => "_law_pen"
  | 11 => "_law_draw"
  | 12 => "_law_pick"
  | 13 => "_law_is_name"
  | 14 => "_law_is_letter"
  | 15 => "_law_is_count"
  | 16 => "_law_is_stamp"
  | 17 => "_law_is_part"
  | 18 => "_law_text"
  | 19 => "_law_value"
  | 20 => "law"
  | _ => ""
def fdAt (f3 f4 f5 f6 f7 f8 f10 f11 f12 f13 f14 f15 f16 f17 f18 f19 f20 d : FuncData) : Nat → FuncData
  | 3 => f3
  | 4 => f4
  | 5 => f5
  | 6 => f6
  | 7 => f7
  | 8 => f8
  | 10 => f10
  | 11 => f11
  | 12 => f12
  | 13 => f13
  | 14 => f14
  | 15 => f15
  | 16 => f16
  | 17 => f17
  | 18 => f18
  | 19 => f19
  | 20 => f20
  | _ => d
theorem txt {K : PySem.W.Frag} {h : Heap} {mg : Str → Option Value} (X : K.In h) (G : h.Ns mainGlobals mg) (c : He.SaysD faL fnL K) : ∃ fd : Nat → FuncData, Txt K mg (fun i => He.fAd K (nmOf i, none)) fd := by
  obtain ⟨f3, F3⟩ := c.def_ 0 (d := d_is_integer) rfl
  obtain ⟨f4, F4⟩ := c.def_ 1 (d := d_is_name) rfl
  obtain ⟨f5, F5⟩ := c.def_ 2 (d := d_is_letter) rfl
  obtain ⟨f6, F6⟩ := c.def_ 3 (d := d_is_ascending) rfl
  obtain ⟨f7, F7⟩ := c.def_ 4 (d := d_is_stamp) rfl
  obtain ⟨f8, F8⟩ := c.def_ 5 (d := d_is_part) rfl
  obtain ⟨f10, F10⟩ := c.def_ 6 (d := d__law_pen) rfl
  obtain ⟨f11, F11⟩ := c.def_ 7 (d := d__law_draw) rfl
  obtain ⟨f12, F12⟩ := c.def_ 8 (d := d__law_pick) rfl
  obtain ⟨f13, F13⟩ := c.def_ 9 (d := d__law_is_name) rfl
  obtain ⟨f14, F14⟩ := c.def_ 10 (d := d__law_is_letter) rfl
  obtain ⟨f15, F15⟩ := c.def_ 11 (d := d__law_is_count) rfl
  obtain ⟨f16, F16⟩ := c.def_ 12 (d := d__law_is_stamp) rfl
  obtain ⟨f17, F17⟩ := c.def_ 13 (d := d__law_is_part) rfl
  obtain ⟨f18, F18⟩ := c.def_ 14 (d := d__law_text) rfl
  obtain ⟨f19, F19⟩ := c.def_ 15 (d := d__law_value) rfl
  obtain ⟨f20, F20⟩ := c.def_ 16 (d := d_law) rfl
  refine ⟨fdAt f3 f4 f5 f6 f7 f8 f10 f11 f12 f13 f14 f15 f16 f17 f18 f19 f20 f20, { b_all := He.free_ok X G (c.fact 17 (f := .free "all") rfl), b_range := He.free_ok X G (c.fact 18 (f := .free "range") rfl), b_isinstance := He.free_ok X G (c.fact 19 (f := .free "isinstance") rfl), b_int := He.free_ok X G (c.fact 20 (f := .free "int") rfl), b_str := He.free_ok X G (c.fact 21 (f := .free "str") rfl), b_list := He.free_ok X G (c.fact 22 (f := .free "list") rfl), b_tuple := He.free_ok X G (c.fact 23 (f := .free "tuple") rfl), b_sorted := He.free_ok X G (c.fact 24 (f := .free "sorted") rfl), b_bool := He.free_ok X G (c.fact 25 (f := .free "bool") rfl), b_len := He.free_ok X G (c.fact 26 (f := .free "len") rfl), b_abs := He.free_ok X G (c.fact 27 (f := .free "abs") rfl), b_set := He.free_ok X G (c.fact 28 (f := .free "set") rfl), b_repr := He.free_ok X G (c.fact 29 (f := .free "repr") rfl), b_zip := He.free_ok X G (c.fact 30 (f := .free "zip") rfl), c_MOST_SIGNS := He.int_ok X G (c.fact 31 (f := .int "MOST_SIGNS" 8) rfl), c_LETTERS := He.str_ok X G (c.fact 32 (f := .str "LETTERS" "abcdefghijklmnopqrstuvwxyz") rfl), F_is_integer := F3, g_is_integer := He.glo_ok X G (c.fact 0 (f := .glo "is_integer") rfl), k_is_integer := F3.kp, bb_is_integer := (F3.bindsN (ps := ["value"]) (fun _ _ _ _ _ _ us hl => match us, hl with | [_], _ => rfl)), bk_is_integer := kb1 F3 (fun _ _ _ _ _ _ _ => rfl) (fun _ _ _ _ _ _ _ => rfl), F_is_name := F4, g_is_name := He.glo_ok X G (c.fact 1 (f := .glo "is_name") rfl), k_is_name := F4.kp, bb_is_name := (F4.bindsN (ps := ["value"]) (fun _ _ _ _ _ _ us hl => match us, hl with | [_], _ => rfl)), bk_is_name := kb1 F4 (fun _ _ _ _ _ _ _ => rfl) (fun _ _ _ _ _ _ _ => rfl), F_is_letter := F5, g_is_letter := He.glo_ok X G (c.fact 2 (f := .glo "is_letter") rfl), k_is_letter := F5.kp, bb_is_letter := (F5.bindsN (ps := ["value"]) (fun _ _ _ _ _ _ us hl => match us, hl with | [_], _ => rfl)), bk_is_letter := kb1 F5 (fun _ _ _ _ _ _ _ => rfl) (fun _ _ _ _ _ _ _ => rfl), F_is_ascending := F6, g_is_ascending := He.glo_ok X G (c.fact 3 (f := .glo "is_ascending") rfl), k_is_ascending := F6.kp, bb_is_ascending := (F6.bindsN (ps := ["values"]) (fun _ _ _ _ _ _ us hl => match us, hl with | [_], _ => rfl)), F_is_stamp := F7, g_is_stamp := He.glo_ok X G (c.fact 4 (f := .glo "is_stamp") rfl), k_is_stamp := F7.kp, bb_is_stamp := (F7.bindsN (ps := ["value"]) (fun _ _ _ _ _ _ us hl => match us, hl with | [_], _ => rfl)), bk_is_stamp := kb1 F7 (fun _ _ _ _ _ _ _ => rfl) (fun _ _ _ _ _ _ _ => rfl), F_is_part := F8, g_is_part := He.glo_ok X G (c.fact 5 (f := .glo "is_part") rfl), k_is_part := F8.kp, bb_is_part := (F8.bindsN (ps := ["value"]) (fun _ _ _ _ _ _ us hl => match us, hl with | [_], _ => rfl)), bk_is_part := kb1 F8 (fun _ _ _ _ _ _ _ => rfl) (fun _ _ _ _ _ _ _ => rfl), F__law_pen := F10, g__law_pen := He.glo_ok X G (c.fact 6 (f := .glo "_law_pen") rfl), k__law_pen := F10.kp, bb__law_pen := (F10.bindsN (ps := ["script"]) (fun _ _ _ _ _ _ us hl => match us, hl with | [_], _ => rfl)), F__law_draw := F11, g__law_draw := He.glo_ok X G (c.fact 7 (f := .glo "_law_draw") rfl), k__law_draw := F11.kp, bb__law_draw := (F11.bindsN (ps := ["pen", "many"]) (fun _ _ _ _ _ _ us hl => match us, hl with | [_, _], _ => rfl)), F__law_pick := F12, g__law_pick := He.glo_ok X G (c.fact 8 (f := .glo "_law_pick") rfl), k__law_pick := F12.kp, bb__law_pick := (F12.bindsN (ps := ["pen", "some"]) (fun _ _ _ _ _ _ us hl => match us, hl with | [_, _], _ => rfl)), F__law_is_name := F13, g__law_is_name := He.glo_ok X G (c.fact 9 (f := .glo "_law_is_name") rfl), k__law_is_name := F13.kp, bb__law_is_name := (F13.bindsN (ps := ["value"]) (fun _ _ _ _ _ _ us hl => match us, hl with | [_], _ => rfl)), F__law_is_letter := F14, g__law_is_letter := He.glo_ok X G (c.fact 10 (f := .glo "_law_is_letter") rfl), k__law_is_letter := F14.kp, bb__law_is_letter := (F14.bindsN (ps := ["value"]) (fun _ _ _ _ _ _ us hl => match us, hl with | [_], _ => rfl)), F__law_is_count := F15, g__law_is_count := He.glo_ok X G (c.fact 11 (f := .glo "_law_is_count") rfl), k__law_is_count := F15.kp, bb__law_is_count := (F15.bindsN (ps := ["value"]) (fun _ _ _ _ _ _ us hl => match us, hl with | [_], _ => rfl)), F__law_is_stamp := F16, g__law_is_stamp := He.glo_ok X G (c.fact 12 (f := .glo "_law_is_stamp") rfl), k__law_is_stamp := F16.kp, bb__law_is_stamp := (F16.bindsN (ps := ["value"]) (fun _ _ _ _ _ _ us hl => match us, hl with | [_], _ => rfl)), F__law_is_part := F17, g__law_is_part := He.glo_ok X G (c.fact 13 (f := .glo "_law_is_part") rfl), k__law_is_part := F17.kp, bb__law_is_part := (F17.bindsN (ps := ["value"]) (fun _ _ _ _ _ _ us hl => match us, hl with | [_], _ => rfl)), F__law_text := F18, g__law_text := He.glo_ok X G (c.fact 14 (f := .glo "_law_text") rfl), k__law_text := F18.kp, bb__law_text := (F18.bindsN (ps := ["pen"]) (fun _ _ _ _ _ _ us hl => match us, hl with | [_], _ => rfl)), F__law_value := F19, g__law_value := He.glo_ok X G (c.fact 15 (f := .glo "_law_value") rfl), k__law_value := F19.kp, bb__law_value := (F19.bindsN (ps := ["pen", "deep"]) (fun _ _ _ _ _ _ us hl => match us, hl with | [_, _], _ => rfl)), F_law := F20, g_law := He.glo_ok X G (c.fact 16 (f := .glo "law") rfl), k_law := F20.kp, bb_law := (F20.bindsN (ps := ["script"]) (fun _ _ _ _ _ _ us hl => match us, hl with | [_], _ => rfl)) }⟩
theorem factsL {P : Program} {w : World} {K : PySem.W.Frag} {h : Heap} {mg : Str → Option Value} {f : Addr} (X : K.In h) (G : h.Ns mainGlobals mg) (hfa : mg ("law" : Str) = some (.ref f)) (c : He.SaysD faL fnL K) :
    ∃ fd : FuncData, (∀ (s : Shared) (v : Value), BindsTo s fd ⟨[v], []⟩ [("script", v)]) ∧ ∀ base : Heap, K.In base → base.Ns mainGlobals mg → FnG P w K mg base CX0 7 f fd ["script"] (spD K pfLaw) := by
  obtain ⟨fd, T⟩ := txt X G c
  have e := hfa.symm.trans T.g_law
  cases e
  have b := FunD.bindsA (ps := ["script"]) T.F_law fun _ _ _ _ _ _ us hl => match us, hl with | [_], _ => rfl
  exact ⟨fd 20, fun s v => b s [v] rfl, fun base _ _ => ok_law T⟩
theorem start_pfLaw (ns : List Int) (_ : ns.length ≤ 63) : pfLaw [.scr ns] M0 (fun d _ => d = .bl true) := ⟨ns, rfl, fun _ => rfl⟩
end Loneboard_k01_checks_of_any_values
open PySem PySem.W PySem.Calls PyProof.Rows
theorem PySem.Challenge.cw_oneboard_k01_checks_of_any_values_holds : PySem.Challenge.rw_oneboard_k01_checks_of_any_values.Holds := by
  w_on; o_law
  refine HandSHeadRun.head_any (r := OpenLaw.row PySem.Challenge.rw_oneboard_k01_checks_of_any_values) (q := view (OpenLaw.row PySem.Challenge.rw_oneboard_k01_checks_of_any_values).prog [20]) (H := Loneboard_k01_checks_of_any_values.hkL) (ob := Loneboard_k01_checks_of_any_values.obL) (M := 4000) (loose := Loneboard_k01_checks_of_any_values.looseL) (d := HandSHeadRun.topDef (OpenLaw.row PySem.Challenge.rw_oneboard_k01_checks_of_any_values).prog 20) (kwd := []) Loneboard_k01_checks_of_any_values.obL_eq
    (by kernel_rfl) (fun s => by kernel_rfl) Loneboard_k01_checks_of_any_values.runL (by kernel_rfl) (by kernel_rfl) (by kernel_rfl) (by rfl) (by first | assumption | decide +kernel) (by decide +kernel) ⟨rfl, rfl, rfl, rfl, rfl, by decide +kernel⟩ ?hw ?hc
  case hw => w_witness2
  case hc =>
    refine Dl.walkG (l := PySem.Challenge.rw_oneboard_k01_checks_of_any_values) (n := 63) (k := 7) (x := "script") rfl (by decide) (by kernel_rfl) ⟨rfl, by decide, by decide⟩ ?F
    intro w mg fa h Y G hmg0
    obtain ⟨K, KX, c⟩ := Y
    have hmg : mg ("law" : PySem.Str) = some (.ref fa) := by
      have e : (HandSHeadRun.topDef (OpenLaw.row PySem.Challenge.rw_oneboard_k01_checks_of_any_values).prog 20).name = ("law" : PySem.Str) := by kernel_rfl
      rw [← e]
      exact hmg0
    obtain ⟨fd, hb, hF⟩ := Loneboard_k01_checks_of_any_values.factsL (P := (PySem.Challenge.rw_oneboard_k01_checks_of_any_values).prog) (w := w) KX G hmg c
    exact ⟨K, fd, Loneboard_k01_checks_of_any_values.pfLaw, KX, hb, fun ns hl => Loneboard_k01_checks_of_any_values.start_pfLaw ns hl, hF⟩
