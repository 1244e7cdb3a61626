import PyProof.Rows.All
import Wide.All
import OpenK.AllK
import Wide.FinOn
import HandS.ForMost
import HandS.IsInst
import HandS.Wide
import HandS.Defaults
import HandS.HeadEnd
import HandS.Exc
import PyProof.ListStr
import PyProof.CallFns
import PyProof.ReprRoads
import HandS.Set
import HandS.Strs
import HandS.ExcInit
import HandS.TryOnly
import HandS.ExcOwn
import HandS.ExcIs
import HandS.ExcField
import HandS.ExcValue
import HandS.WordsExc
import KE.KExcIs
import HandS.Head2
import HandS.HeadHook2
import HandS.Property
import HandS.Dict
import HandS.MakeKw
import HandS.NoneIn
import HandS.Style
import HandS.OwnEq
import PyProof.InstEq
import HandS.FStr
import HandS.RaiseMore
import PyProof.Rows.Range3
import HandS.Zip
import HandS.Deep
import PyProof.EqKinds
import PyProof.Raises
import PyProof.StrLawsRepr
import PyProof.ReprLoop
import PyProof.Rows.RegStrFacts
import PyProof.Rows.ReprOcc
import PySem.Challenge.RW_oneboard_k48_boxes
set_option Elab.async false
set_option linter.all false
set_option maxRecDepth 100000
set_option maxHeartbeats 2000000
/-! D1: readings of the hand layer told by data alone: values as trees (D), the few changing objects by address (MS), no heap. -/
namespace Dl
open PySem PySem.Spec PyProof.Rows L2

/-- a value as a tree; ref: an object told by its address alone -/
inductive D where
  | non | bl (b : Bool) | int (i : Int) | str (x : Str) | ty (n : String) | ref (a : Addr)
  | lst (xs : List D) | tup (xs : List D) | dct (ks : List (Key × D))
  /-- the script: a list of ints that nothing changes -/
  | scr (ns : List Int)
  /-- an instance of the class at C that nothing changes; a caught exception of it -/
  | ins (C : Addr) (fs : List (Str × D)) | exv (C : Addr) (fs : List (Str × D))

/-- a caught exception, held as a value: its class, its dict -/
def ExV (C : Addr) (d : Option Addr) (a : Addr) : HO := .ext fun h => ∃ (oe : Obj) (vs : Array Value), h.get? a = some oe ∧ oe.cls = .ref C ∧ oe.dict = d ∧ oe.data = .fields vs

/-- a list at a, away from P, or one of the written part -/
def SqP (K : PySem.W.Frag) (P : Addr → Prop) (H : Hp) (a : Addr) (vs : List V) : Prop := (¬ P a ∧ Rd H a (.lst vs)) ∨ SqL K (fun _ => none) a vs
def TqP (K : PySem.W.Frag) (P : Addr → Prop) (H : Hp) (a : Addr) (vs : List V) : Prop := (¬ P a ∧ Rd H a (.tup vs)) ∨ SqT K (fun _ => none) a vs
mutual
/-- the value v is the tree d in H, and leans on no address of P -/
inductive IsV (K : PySem.W.Frag) (P : Addr → Prop) (H : Hp) : V → D → Prop
  | non : IsV K P H .non .non
  | bl (b : Bool) : IsV K P H (.bl b) (.bl b)
  | int (i : Int) : IsV K P H (.int i) (.int i)
  | str (x : Str) : IsV K P H (.str x) (.str x)
  | ty (n : String) : IsV K P H (.ty n) (.ty n)
  | ref (a : Addr) : IsV K P H (.ref a) (.ref a)
  | lst {a : Addr} {vs : List V} {ds : List D} : ¬ P a → H a = some (.lst vs) → IsVs K P H vs ds → IsV K P H (.ref a) (.lst ds)
  | scr {a : Addr} {ns : List Int} : SqP K P H a (ns.map V.int) → IsV K P H (.ref a) (.scr ns)
  | tup {a : Addr} {vs : List V} {ds : List D} : TqP K P H a vs → IsVs K P H vs ds → IsV K P H (.ref a) (.tup ds)
  | dct {a : Addr} {kvs : List (Key × V)} {ks : List (Key × D)} : ¬ P a → Rd H a (.dK kvs) → IsKs K P H kvs ks → IsV K P H (.ref a) (.dct ks)
  | ins {a dx C : Addr} {fv : List (Str × V)} {fs : List (Str × D)} : ¬ P a → H a = some (.ins C dx fv) → IsFs K P H fv fs → IsV K P H (.ref a) (.ins C fs)
  | exv0 {a C : Addr} : ¬ P a → H a = some (ExV C none a) → IsV K P H (.ref a) (.exv C [])
  | exv {a C dx : Addr} {fv : List (Str × V)} {fs : List (Str × D)} : ¬ P a → H a = some (ExV C (some dx) a) → ¬ P dx → H dx = some (.xd fv) → IsFs K P H fv fs → IsV K P H (.ref a) (.exv C fs)
inductive IsVs (K : PySem.W.Frag) (P : Addr → Prop) (H : Hp) : List V → List D → Prop
  | nil : IsVs K P H [] []
  | cons {v : V} {d : D} {vs : List V} {ds : List D} : IsV K P H v d → IsVs K P H vs ds → IsVs K P H (v :: vs) (d :: ds)
inductive IsKs (K : PySem.W.Frag) (P : Addr → Prop) (H : Hp) : List (Key × V) → List (Key × D) → Prop
  | nil : IsKs K P H [] []
  | cons {k : Key} {v : V} {d : D} {kvs : List (Key × V)} {ks : List (Key × D)} : IsV K P H v d → IsKs K P H kvs ks → IsKs K P H ((k, v) :: kvs) ((k, d) :: ks)
inductive IsFs (K : PySem.W.Frag) (P : Addr → Prop) (H : Hp) : List (Str × V) → List (Str × D) → Prop
  | nil : IsFs K P H [] []
  | cons {k : Str} {v : V} {d : D} {kvs : List (Str × V)} {ks : List (Str × D)} : IsV K P H v d → IsFs K P H kvs ks → IsFs K P H ((k, v) :: kvs) ((k, d) :: ks)
end

/-- from (P, H) to (P', H') nothing that a tree leans on is lost -/
def Kp (P P' : Addr → Prop) (H H' : Hp) : Prop := ∀ a o, ¬ P a → H a = some o → ¬ P' a ∧ H' a = some o
theorem Kp.rd {P P' : Addr → Prop} {H H' : Hp} {a : Addr} {u : HO} (k : Kp P P' H H') (n : ¬ P a) (h : Rd H a u) : ¬ P' a ∧ Rd H' a u := by
  rcases h with h | ⟨o, h⟩
  · exact ⟨(k a _ n h).1, .inl (k a _ n h).2⟩
  · exact ⟨(k a _ n h).1, .inr ⟨o, (k a _ n h).2⟩⟩
theorem SqP.kp {K : PySem.W.Frag} {P P' : Addr → Prop} {H H' : Hp} {a : Addr} {vs : List V} (k : Kp P P' H H') (h : SqP K P H a vs) : SqP K P' H' a vs := by
  rcases h with ⟨n, h⟩ | h
  · exact .inl (k.rd n h)
  · exact .inr h
theorem TqP.kp {K : PySem.W.Frag} {P P' : Addr → Prop} {H H' : Hp} {a : Addr} {vs : List V} (k : Kp P P' H H') (h : TqP K P H a vs) : TqP K P' H' a vs := by
  rcases h with ⟨n, h⟩ | h
  · exact .inl (k.rd n h)
  · exact .inr h
mutual
theorem IsV.kp {K : PySem.W.Frag} {P P' : Addr → Prop} {H H' : Hp} (k : Kp P P' H H') : ∀ (d : D) (v : V), IsV K P H v d → IsV K P' H' v d
  | .non, _, h => by cases h; exact .non
  | .bl _, _, h => by cases h; exact .bl _
  | .int _, _, h => by cases h; exact .int _
  | .str _, _, h => by cases h; exact .str _
  | .ty _, _, h => by cases h; exact .ty _
  | .ref _, _, h => by cases h; exact .ref _
  | .lst ds, _, h => by
    cases h with
    | lst h0 h1 h2 => exact .lst (k _ _ h0 h1).1 (k _ _ h0 h1).2 (IsVs.kp k ds _ h2)
  | .scr _, _, h => by
    cases h with
    | scr h1 => exact .scr (h1.kp k)
  | .tup ds, _, h => by
    cases h with
    | tup h1 h2 => exact .tup (h1.kp k) (IsVs.kp k ds _ h2)
  | .dct ks, _, h => by
    cases h with
    | dct h0 h1 h2 => exact .dct (k.rd h0 h1).1 (k.rd h0 h1).2 (IsKs.kp k ks _ h2)
  | .ins _ fs, _, h => by
    cases h with
    | ins h0 h1 h2 => exact .ins (k _ _ h0 h1).1 (k _ _ h0 h1).2 (IsFs.kp k fs _ h2)
  | .exv _ fs, _, h => by
    cases h with
    | exv0 h0 h1 => exact .exv0 (k _ _ h0 h1).1 (k _ _ h0 h1).2
    | exv h0 h1 h2 h3 h4 => exact .exv (k _ _ h0 h1).1 (k _ _ h0 h1).2 (k _ _ h2 h3).1 (k _ _ h2 h3).2 (IsFs.kp k fs _ h4)
theorem IsVs.kp {K : PySem.W.Frag} {P P' : Addr → Prop} {H H' : Hp} (k : Kp P P' H H') : ∀ (ds : List D) (vs : List V), IsVs K P H vs ds → IsVs K P' H' vs ds
  | [], _, h => by cases h; exact .nil
  | d :: ds, _, h => by
    cases h with
    | cons h1 h2 => exact .cons (IsV.kp k d _ h1) (IsVs.kp k ds _ h2)
theorem IsKs.kp {K : PySem.W.Frag} {P P' : Addr → Prop} {H H' : Hp} (k : Kp P P' H H') : ∀ (ks : List (Key × D)) (kvs : List (Key × V)), IsKs K P H kvs ks → IsKs K P' H' kvs ks
  | [], _, h => by cases h; exact .nil
  | (_, d) :: ks, _, h => by
    cases h with
    | cons h1 h2 => exact .cons (IsV.kp k d _ h1) (IsKs.kp k ks _ h2)
theorem IsFs.kp {K : PySem.W.Frag} {P P' : Addr → Prop} {H H' : Hp} (k : Kp P P' H H') : ∀ (ks : List (Str × D)) (kvs : List (Str × V)), IsFs K P H kvs ks → IsFs K P' H' kvs ks
  | [], _, h => by cases h; exact .nil
  | (_, d) :: ks, _, h => by
    cases h with
    | cons h1 h2 => exact .cons (IsV.kp k d _ h1) (IsFs.kp k ks _ h2)
end
theorem sqL_up {K : PySem.W.Frag} {H : Hp} {a : Addr} {vs : List V} (h : SqL K (fun _ => none) a vs) : SqL K H a vs := by
  rcases h with (h | ⟨o, h⟩) | h
  · cases h
  · cases h
  · exact .inr h
theorem sqT_up {K : PySem.W.Frag} {H : Hp} {a : Addr} {vs : List V} (h : SqT K (fun _ => none) a vs) : SqT K H a vs := by
  rcases h with (h | ⟨o, h⟩) | h
  · cases h
  · cases h
  · exact .inr h
theorem SqP.sq {K : PySem.W.Frag} {P : Addr → Prop} {H : Hp} {a : Addr} {vs : List V} (h : SqP K P H a vs) : SqL K H a vs := by
  rcases h with ⟨_, h⟩ | h
  · exact .inl h
  · exact sqL_up h
theorem TqP.sq {K : PySem.W.Frag} {P : Addr → Prop} {H : Hp} {a : Addr} {vs : List V} (h : TqP K P H a vs) : SqT K H a vs := by
  rcases h with ⟨_, h⟩ | h
  · exact .inl h
  · exact sqT_up h

/-! ### lists of values -/
section
variable {K : PySem.W.Frag} {P P' : Addr → Prop} {H H' : Hp}
theorem IsVs.length : ∀ {vs : List V} {ds : List D}, IsVs K P H vs ds → vs.length = ds.length
  | _, _, .nil => rfl
  | _, _, .cons _ t => congrArg Nat.succ t.length
theorem IsVs.get : ∀ {vs : List V} {ds : List D} {i : Nat} {d : D}, IsVs K P H vs ds → ds[i]? = some d → ∃ v, vs[i]? = some v ∧ IsV K P H v d
  | _, _, _, _, .nil, e => by simp at e
  | _, _, 0, _, .cons h _, e => ⟨_, rfl, (Option.some.inj e) ▸ h⟩
  | _, _, i + 1, d, .cons _ t, e => by
    have e' := e
    rw [List.getElem?_cons_succ] at e'
    obtain ⟨v, h1, h2⟩ := t.get e'
    exact ⟨v, by rw [List.getElem?_cons_succ]; exact h1, h2⟩
theorem IsVs.getV : ∀ {vs : List V} {ds : List D} {i : Nat} {v : V}, IsVs K P H vs ds → vs[i]? = some v → ∃ d, ds[i]? = some d ∧ IsV K P H v d
  | _, _, _, _, .nil, e => by simp at e
  | _, _, 0, _, .cons h _, e => ⟨_, rfl, (Option.some.inj e) ▸ h⟩
  | _, _, i + 1, d, .cons _ t, e => by
    have e' := e
    rw [List.getElem?_cons_succ] at e'
    obtain ⟨v, h1, h2⟩ := t.getV e'
    exact ⟨v, by rw [List.getElem?_cons_succ]; exact h1, h2⟩
theorem IsVs.append : ∀ {vs ws : List V} {ds es : List D}, IsVs K P H vs ds → IsVs K P H ws es → IsVs K P H (vs ++ ws) (ds ++ es)
  | _, _, _, _, .nil, s => s
  | _, _, _, _, .cons h t, s => .cons h (t.append s)
theorem IsVs.take : ∀ {vs : List V} {ds : List D} (n : Nat), IsVs K P H vs ds → IsVs K P H (vs.take n) (ds.take n)
  | _, _, 0, _ => .nil
  | _, _, _ + 1, .nil => .nil
  | _, _, n + 1, .cons h t => .cons h (t.take n)
theorem IsVs.drop : ∀ {vs : List V} {ds : List D} (n : Nat), IsVs K P H vs ds → IsVs K P H (vs.drop n) (ds.drop n)
  | _, _, 0, r => r
  | _, _, _ + 1, .nil => .nil
  | _, _, n + 1, .cons _ t => t.drop n
theorem IsVs.set {v : V} {d : D} (h : IsV K P H v d) : ∀ {vs : List V} {ds : List D} (i : Nat), IsVs K P H vs ds → IsVs K P H (vs.set i v) (ds.set i d)
  | _, _, _, .nil => .nil
  | _, _, 0, .cons _ t => .cons h t
  | _, _, i + 1, .cons q t => .cons q (IsVs.set h i t)
theorem IsVs.ints : ∀ ns : List Int, IsVs K P H (ns.map V.int) (ns.map D.int)
  | [] => .nil
  | n :: ns => .cons (.int n) (IsVs.ints ns)
theorem IsVs.strs : ∀ ns : List Str, IsVs K P H (ns.map V.str) (ns.map D.str)
  | [] => .nil
  | n :: ns => .cons (.str n) (IsVs.strs ns)
theorem IsVs.of_ints : ∀ {ns : List Int} {vs : List V}, IsVs K P H vs (ns.map D.int) → vs = ns.map V.int
  | [], _, h => by cases h; rfl
  | n :: ns, _, h => by
    cases h with
    | cons h1 h2 =>
      cases h1
      rw [IsVs.of_ints h2]
      rfl
theorem IsVs.of_strs : ∀ {ns : List Str} {vs : List V}, IsVs K P H vs (ns.map D.str) → vs = ns.map V.str
  | [], _, h => by cases h; rfl
  | n :: ns, _, h => by
    cases h with
    | cons h1 h2 =>
      cases h1
      rw [IsVs.of_strs h2]
      rfl
theorem IsVs.of_bls : ∀ {ns : List Bool} {vs : List V}, IsVs K P H vs (ns.map D.bl) → vs = ns.map V.bl
  | [], _, h => by cases h; rfl
  | n :: ns, _, h => by
    cases h with
    | cons h1 h2 =>
      cases h1
      rw [IsVs.of_bls h2]
      rfl
theorem IsV.to_lst {v : V} {ds : List D} (h : IsV K P H v (.lst ds)) : ∃ a vs, v = .ref a ∧ ¬ P a ∧ H a = some (.lst vs) ∧ IsVs K P H vs ds := by
  cases h with
  | lst h0 h1 h2 => exact ⟨_, _, rfl, h0, h1, h2⟩
theorem IsV.to_tup {v : V} {ds : List D} (h : IsV K P H v (.tup ds)) : ∃ a vs, v = .ref a ∧ TqP K P H a vs ∧ IsVs K P H vs ds := by
  cases h with
  | tup h1 h2 => exact ⟨_, _, rfl, h1, h2⟩
end

/-! ### the changing objects -/
inductive Cell where
  | lst (ds : List D) | dct (ks : List (Key × D))
  /-- an instance of the class at C, its fields so far -/
  | ins (C : Addr) (fs : List (Str × D))
  /-- what draws: the list of the cells ns, how many were begun (at most n), the rest of a great one -/
  | pen (ns : List Int) (n : Nat)
abbrev MS := Addr → Option Cell
abbrev M0 : MS := fun _ => none
def upM (M : MS) (a : Addr) (c : Cell) : MS := fun b => if b = a then some c else M b
theorem upM_same {M : MS} {a : Addr} {c : Cell} : upM M a c a = some c := if_pos rfl
theorem upM_ne {M : MS} {a b : Addr} {c : Cell} (h : b ≠ a) : upM M a c b = M b := if_neg h
theorem upM_upM {M : MS} {a : Addr} {c d : Cell} : upM (upM M a c) a d = upM M a d := by
  funext b
  by_cases h : b = a
  · rw [h, upM_same, upM_same]
  · rw [upM_ne h, upM_ne h, upM_ne h]
theorem upM_id {M : MS} {a : Addr} {c : Cell} (h : M a = some c) : upM M a c = M := by
  funext b
  by_cases e : b = a
  · rw [e, upM_same, h]
  · rw [upM_ne e]
/-- the addresses on which no tree may lean -/
def dm (F : Addr → Prop) (M : MS) : Addr → Prop := fun a => F a ∨ M a ≠ none
def PenOk (P : Addr → Prop) (H : Hp) (a : Addr) (ns : List Int) (n : Nat) : Prop :=
  ∃ (q : Addr) (t r : Int), H a = some (.lst [.ref q, .int t, .int r]) ∧ ¬ P q ∧ H q = some (.lst (ns.map V.int)) ∧ 0 ≤ t ∧ t ≤ (n : Int) ∧ 0 ≤ r
def CellOk (K : PySem.W.Frag) (P : Addr → Prop) (H : Hp) (a : Addr) : Cell → Prop
  | .lst ds => ∃ vs, H a = some (.lst vs) ∧ IsVs K P H vs ds
  | .dct ks => ∃ kvs, H a = some (.dK kvs) ∧ IsKs K P H kvs ks
  | .ins C fs => ∃ dx fv, H a = some (.ins C dx fv) ∧ IsFs K P H fv fs
  | .pen ns n => PenOk P H a ns n
theorem CellOk.there {K : PySem.W.Frag} {P : Addr → Prop} {H : Hp} {a : Addr} {c : Cell} (h : CellOk K P H a c) : H a ≠ none := by
  cases c with
  | lst ds => obtain ⟨_, e, _⟩ := h; rw [e]; exact nofun
  | dct ks => obtain ⟨_, e, _⟩ := h; rw [e]; exact nofun
  | ins C fs => obtain ⟨_, _, e, _⟩ := h; rw [e]; exact nofun
  | pen ns n => obtain ⟨_, _, _, e, _⟩ := h; rw [e]; exact nofun
theorem CellOk.kp {K : PySem.W.Frag} {P P' : Addr → Prop} {H H' : Hp} {a : Addr} {c : Cell} (k : Kp P P' H H') (e : H' a = H a) (h : CellOk K P H a c) : CellOk K P' H' a c := by
  cases c with
  | lst ds => obtain ⟨vs, e1, h1⟩ := h; exact ⟨vs, e.trans e1, IsVs.kp k _ _ h1⟩
  | dct ks => obtain ⟨vs, e1, h1⟩ := h; exact ⟨vs, e.trans e1, IsKs.kp k _ _ h1⟩
  | ins C fs => obtain ⟨dx, vs, e1, h1⟩ := h; exact ⟨dx, vs, e.trans e1, IsFs.kp k _ _ h1⟩
  | pen ns n =>
    obtain ⟨q, t, r, e1, h0, h1, h2⟩ := h
    exact ⟨q, t, r, e.trans e1, (k _ _ h0 h1).1, (k _ _ h0 h1).2, h2⟩

structure RepM (K : PySem.W.Frag) (F : Addr → Prop) (H : Hp) (M : MS) : Prop where
  cel : ∀ a c, M a = some c → CellOk K (dm F M) H a c
  hid : ∀ a, F a → H a ≠ none
  sep : ∀ a, F a → M a = none
theorem RepM.there {K : PySem.W.Frag} {F : Addr → Prop} {H : Hp} {M : MS} (R : RepM K F H M) {a : Addr} (h : M a ≠ none) : H a ≠ none := by
  cases e : M a with
  | none => exact absurd e h
  | some c => exact (R.cel a c e).there
theorem RepM.fresh {K : PySem.W.Frag} {F : Addr → Prop} {H : Hp} {M : MS} (R : RepM K F H M) {a : Addr} (h : H a = none) : ¬ dm F M a := fun z => by
  rcases z with z | z
  · exact R.hid a z h
  · exact R.there z h
theorem RepM.freshM {K : PySem.W.Frag} {F : Addr → Prop} {H : Hp} {M : MS} (R : RepM K F H M) {a : Addr} (h : H a = none) : M a = none := by
  cases e : M a with
  | none => rfl
  | some c => exact absurd h (R.cel a c e).there

/-- a step of the run -/
structure Go (H : Hp) (M : MS) (H' : Hp) (M' : MS) : Prop where
  kp : ∀ a o, M a = none → H a = some o → H' a = some o
  dm : ∀ a, M a = none → M' a ≠ none → H a = none
  sm : ∀ a, H a ≠ none → H' a ≠ none
theorem Go.refl (H : Hp) (M : MS) : Go H M H M := ⟨fun _ _ _ h => h, fun _ h h' => absurd h h', fun _ h => h⟩
theorem Go.trans {H H1 H2 : Hp} {M M1 M2 : MS} (a : Go H M H1 M1) (b : Go H1 M1 H2 M2) : Go H M H2 M2 := by
  refine ⟨fun c o hm ho => ?_, fun c hm hm2 => ?_, fun c h => b.sm c (a.sm c h)⟩
  · refine b.kp c o ?_ (a.kp c o hm ho)
    cases e : M1 c with
    | none => rfl
    | some z =>
      have q := a.dm c hm (by rw [e]; exact nofun)
      rw [ho] at q
      cases q
  · cases e : M1 c with
    | some z => exact a.dm c hm (by rw [e]; exact nofun)
    | none =>
      have q := b.dm c e hm2
      cases e2 : H c with
      | none => rfl
      | some o =>
        have := a.sm c (by rw [e2]; exact nofun)
        exact absurd q this
theorem Go.to_kp {F : Addr → Prop} {H H' : Hp} {M M' : MS} (g : Go H M H' M') : Kp (Dl.dm F M) (Dl.dm F M') H H' := fun a o n h => by
  have hm : M a = none := by
    cases e : M a with
    | none => rfl
    | some z => exact absurd (Or.inr (by rw [e]; exact nofun)) n
  refine ⟨fun z => ?_, g.kp a o hm h⟩
  rcases z with z | z
  · exact n (.inl z)
  · have q := g.dm a hm z
    rw [h] at q
    cases q
theorem Go.new {K : PySem.W.Frag} {F : Addr → Prop} {H : Hp} {M : MS} {p : Addr} {o : HO} (h : H p = none) : Go H M (upd H p o) M :=
  ⟨fun a u _ e => by rw [upd_ne (ne_of_none e h)]; exact e, fun _ h h' => absurd h h', fun a e => by
    by_cases q : a = p
    · rw [q, upd_same]; exact nofun
    · rw [upd_ne q]; exact e⟩
theorem RepM.new {K : PySem.W.Frag} {F : Addr → Prop} {H : Hp} {M : MS} {p : Addr} {o : HO} (R : RepM K F H M) (h : H p = none) : RepM K F (upd H p o) M := by
  have g : Go H M (upd H p o) M := Go.new (K := K) (F := F) h
  refine ⟨fun a c e => (R.cel a c e).kp g.to_kp (upd_ne fun z => ?_), fun a z => g.sm a (R.hid a z), R.sep⟩
  subst z
  exact (R.cel a c e).there h
/-- a changing object is made -/
theorem Go.newM {K : PySem.W.Frag} {F : Addr → Prop} {H : Hp} {M : MS} {p : Addr} {o : HO} {c : Cell} (R : RepM K F H M) (h : H p = none) : Go H M (upd H p o) (upM M p c) :=
  ⟨fun a u _ e => by rw [upd_ne (ne_of_none e h)]; exact e, fun a h1 h2 => by
    by_cases q : a = p
    · rw [q]; exact h
    · rw [upM_ne q] at h2; exact absurd h1 h2, fun a e => by
    by_cases q : a = p
    · rw [q, upd_same]; exact nofun
    · rw [upd_ne q]; exact e⟩
theorem RepM.newM {K : PySem.W.Frag} {F : Addr → Prop} {H : Hp} {M : MS} {p : Addr} {o : HO} {c : Cell} (R : RepM K F H M) (h : H p = none) (hc : CellOk K (dm F (upM M p c)) (upd H p o) p c) : RepM K F (upd H p o) (upM M p c) := by
  have g : Go H M (upd H p o) (upM M p c) := Go.newM R h
  refine ⟨fun a d e => ?_, fun a z => g.sm a (R.hid a z), fun a z => ?_⟩
  · by_cases q : a = p
    · subst q
      rw [upM_same] at e
      cases e
      exact hc
    · rw [upM_ne q] at e
      exact (R.cel a d e).kp g.to_kp (upd_ne q)
  · have q : a ≠ p := fun q => R.hid a z (q ▸ h)
    rw [upM_ne q]
    exact R.sep a z
/-- a changing object is changed -/
theorem Go.chg {H : Hp} {M : MS} {p : Addr} {o : HO} {c : Cell} (h : M p ≠ none) : Go H M (upd H p o) (upM M p c) :=
  ⟨fun a u h1 e => by
    have q : a ≠ p := fun q => h (q ▸ h1)
    rw [upd_ne q]; exact e, fun a h1 h2 => by
    have q : a ≠ p := fun q => h (q ▸ h1)
    rw [upM_ne q] at h2
    exact absurd h1 h2, fun a e => by
    by_cases q : a = p
    · rw [q, upd_same]; exact nofun
    · rw [upd_ne q]; exact e⟩
theorem RepM.chg {K : PySem.W.Frag} {F : Addr → Prop} {H : Hp} {M : MS} {p : Addr} {o : HO} {c : Cell} (R : RepM K F H M) (h : M p ≠ none) (hc : CellOk K (dm F (upM M p c)) (upd H p o) p c) : RepM K F (upd H p o) (upM M p c) := by
  have g : Go H M (upd H p o) (upM M p c) := Go.chg h
  refine ⟨fun a d e => ?_, fun a z => g.sm a (R.hid a z), fun a z => ?_⟩
  · by_cases q : a = p
    · subst q
      rw [upM_same] at e
      cases e
      exact hc
    · rw [upM_ne q] at e
      exact (R.cel a d e).kp g.to_kp (upd_ne q)
  · have q : a ≠ p := fun q => h (q ▸ R.sep a z)
    rw [upM_ne q]
    exact R.sep a z

/-! ### the frame's values -/
abbrev GE := List (Option D)
structure Rep (K : PySem.W.Frag) (F : Addr → Prop) (σ : L2.St) (H : Hp) (Γ : GE) (M : MS) : Prop where
  env : ∀ (i : Nat) (d : D), Γ[i]? = some (some d) → ∃ v, σ[i]? = some (some v) ∧ IsV K (dm F M) H v d
  len : Γ.length = σ.length
  mem : RepM K F H M
theorem Rep.go {K : PySem.W.Frag} {F : Addr → Prop} {σ : L2.St} {H H' : Hp} {Γ : GE} {M M' : MS} (R : Rep K F σ H Γ M) (g : Go H M H' M') (R' : RepM K F H' M') : Rep K F σ H' Γ M' :=
  ⟨fun i d e => let ⟨v, h1, h2⟩ := R.env i d e; ⟨v, h1, IsV.kp g.to_kp _ _ h2⟩, R.len, R'⟩
theorem Rep.set {K : PySem.W.Frag} {F : Addr → Prop} {σ : L2.St} {H : Hp} {Γ : GE} {M : MS} {v : V} {d : D} (R : Rep K F σ H Γ M) (i : Nat) (h : IsV K (dm F M) H v d) : Rep K F (σ.set i (some v)) H (Γ.set i (some d)) M := by
  refine ⟨fun j e q => ?_, by rw [List.length_set, List.length_set]; exact R.len, R.mem⟩
  by_cases hj : i = j
  · subst hj
    have hl : i < Γ.length := by
      have := (List.getElem?_eq_some_iff.mp q).1
      rwa [List.length_set] at this
    rw [List.getElem?_set_self hl] at q
    cases q
    exact ⟨v, by rw [List.getElem?_set_self (by rw [← R.len]; exact hl)], h⟩
  · rw [List.getElem?_set_ne hj] at q
    obtain ⟨w, h1, h2⟩ := R.env j e q
    exact ⟨w, by rw [List.getElem?_set_ne hj]; exact h1, h2⟩
/-- less known -/
theorem Rep.less {K : PySem.W.Frag} {F : Addr → Prop} {σ : L2.St} {H : Hp} {Γ Γ' : GE} {M : MS} (R : Rep K F σ H Γ M) (hl : Γ'.length = Γ.length) (h : ∀ (i : Nat) (d : D), Γ'[i]? = some (some d) → Γ[i]? = some (some d)) : Rep K F σ H Γ' M :=
  ⟨fun i d e => R.env i d (h i d e), hl.trans R.len, R.mem⟩

/-! ### a value read through the changing objects -/
def vwC (p : Addr) : Option Cell → D
  | some (.lst ds) => .lst ds
  | some (.dct ks) => .dct ks
  | some (.ins C fs) => .ins C fs
  | _ => .ref p
def vw (M : MS) : D → D
  | .ref p => vwC p (M p)
  | d => d
/-- the head of a value; its parts are trees -/
inductive IsR (K : PySem.W.Frag) (F : Addr → Prop) (M : MS) (H : Hp) : V → D → Prop
  | non : IsR K F M H .non .non
  | bl (b : Bool) : IsR K F M H (.bl b) (.bl b)
  | int (i : Int) : IsR K F M H (.int i) (.int i)
  | str (x : Str) : IsR K F M H (.str x) (.str x)
  | ty (n : String) : IsR K F M H (.ty n) (.ty n)
  | ref (a : Addr) : IsR K F M H (.ref a) (.ref a)
  | lst {a : Addr} {vs : List V} {ds : List D} : H a = some (.lst vs) → IsVs K (dm F M) H vs ds → IsR K F M H (.ref a) (.lst ds)
  | scr {a : Addr} {ns : List Int} : SqP K (dm F M) H a (ns.map V.int) → IsR K F M H (.ref a) (.scr ns)
  | tup {a : Addr} {vs : List V} {ds : List D} : TqP K (dm F M) H a vs → IsVs K (dm F M) H vs ds → IsR K F M H (.ref a) (.tup ds)
  | dct {a : Addr} {kvs : List (Key × V)} {ks : List (Key × D)} : Rd H a (.dK kvs) → IsKs K (dm F M) H kvs ks → IsR K F M H (.ref a) (.dct ks)
  | ins {a dx C : Addr} {fv : List (Str × V)} {fs : List (Str × D)} : H a = some (.ins C dx fv) → IsFs K (dm F M) H fv fs → IsR K F M H (.ref a) (.ins C fs)
  | exv0 {a C : Addr} : H a = some (ExV C none a) → IsR K F M H (.ref a) (.exv C [])
  | exv {a C dx : Addr} {fv : List (Str × V)} {fs : List (Str × D)} : H a = some (ExV C (some dx) a) → H dx = some (.xd fv) → IsFs K (dm F M) H fv fs → IsR K F M H (.ref a) (.exv C fs)
theorem IsV.rd {K : PySem.W.Frag} {F : Addr → Prop} {H : Hp} {M : MS} {v : V} {d : D} (R : RepM K F H M) (h : IsV K (dm F M) H v d) : IsR K F M H v (vw M d) := by
  cases h with
  | non => exact .non
  | bl b => exact .bl b
  | int i => exact .int i
  | str x => exact .str x
  | ty n => exact .ty n
  | lst h0 h1 h2 => exact .lst h1 h2
  | scr h1 => exact .scr h1
  | tup h1 h2 => exact .tup h1 h2
  | dct h0 h1 h2 => exact .dct h1 h2
  | ins h0 h1 h2 => exact .ins h1 h2
  | exv0 h0 h1 => exact .exv0 h1
  | exv h0 h1 h2 h3 h4 => exact .exv h1 h3 h4
  | ref a =>
    show IsR K F M H (.ref a) (vwC a (M a))
    cases e : M a with
    | none => exact .ref a
    | some c =>
      have q := R.cel a c e
      cases c with
      | lst ds => obtain ⟨vs, e1, h1⟩ := q; exact .lst e1 h1
      | dct ks => obtain ⟨kvs, e1, h1⟩ := q; exact .dct (.inl e1) h1
      | ins C fs => obtain ⟨dx, fv, e1, h1⟩ := q; exact .ins e1 h1
      | pen ns n => exact .ref a
/-- a changing object that changes no more -/
def delM (M : MS) (p : Addr) : MS := fun b => if b = p then none else M b
theorem delM_same {M : MS} {p : Addr} : delM M p p = none := if_pos rfl
theorem delM_ne {M : MS} {p b : Addr} (h : b ≠ p) : delM M p b = M b := if_neg h
theorem delM_upM {M : MS} {p : Addr} {c : Cell} (h : M p = none) : delM (upM M p c) p = M := by
  funext b
  by_cases e : b = p
  · rw [e, delM_same, h]
  · rw [delM_ne e, upM_ne e]
theorem dm_del {F : Addr → Prop} {M : MS} {p : Addr} : ∀ a, dm F (delM M p) a → dm F M a := fun a z => z.elim .inl fun q => .inr fun e => q (by
  by_cases h : a = p
  · rw [h, delM_same]
  · rw [delM_ne h, e])
theorem kp_del {F : Addr → Prop} {M : MS} {p : Addr} {H : Hp} : Kp (dm F M) (dm F (delM M p)) H H := fun a o n e => ⟨fun z => n (dm_del a z), e⟩
theorem Go.del {H : Hp} {M : MS} {p : Addr} : Go H M H (delM M p) := ⟨fun _ _ _ h => h, fun a h1 h2 => absurd (by
  by_cases h : a = p
  · rw [h, delM_same]
  · rw [delM_ne h, h1]) h2, fun _ h => h⟩
theorem RepM.del {K : PySem.W.Frag} {F : Addr → Prop} {H : Hp} {M : MS} (R : RepM K F H M) (p : Addr) : RepM K F H (delM M p) := by
  refine ⟨fun a c e => ?_, R.hid, fun a z => ?_⟩
  · by_cases h : a = p
    · rw [h, delM_same] at e
      cases e
    · rw [delM_ne h] at e
      exact (R.cel a c e).kp kp_del rfl
  · by_cases h : a = p
    · rw [h, delM_same]
    · rw [delM_ne h]
      exact R.sep a z
/-- the tree that a changing object leaves -/
def treeOf : Cell → Option D
  | .lst ds => some (.lst ds) | .dct ks => some (.dct ks) | .ins C fs => some (.ins C fs) | .pen _ _ => none
theorem frozen {K : PySem.W.Frag} {F : Addr → Prop} {H : Hp} {M : MS} {p : Addr} {c : Cell} {d : D} (R : RepM K F H M) (e : M p = some c) (t : treeOf c = some d) : IsV K (dm F (delM M p)) H (.ref p) d := by
  have q := (R.cel p c e).kp (kp_del (p := p)) rfl
  have n : ¬ dm F (delM M p) p := fun z => by
    rcases z with z | z
    · have := R.sep p z
      rw [e] at this
      cases this
    · exact z delM_same
  cases c with
  | lst ds => cases t; obtain ⟨vs, e1, h1⟩ := q; exact .lst n e1 h1
  | dct ks => cases t; obtain ⟨kvs, e1, h1⟩ := q; exact .dct n (.inl e1) h1
  | ins C fs => cases t; obtain ⟨dx, fv, e1, h1⟩ := q; exact .ins n e1 h1
  | pen ns n => cases t
end Dl

set_option Elab.async false
set_option linter.all false
set_option maxRecDepth 100000
set_option maxHeartbeats 2000000
/-! D2: the judgements of the hand layer by data (liE, liT, liA, liS), and the rules of expressions. -/
namespace Dl
open PySem PySem.Spec PyProof.Rows L2

/-- what is wanted of an exception: its class, its fields, the changing objects -/
abbrev KX := Addr → List (Str × D) → MS → Prop
abbrev KD := D → MS → Prop
abbrev FE := GE → MS → KD → KX → Prop
abbrev FT := GE → MS → (Bool → MS → Prop) → KX → Prop
abbrev FA := GE → MS → (List D → MS → Prop) → KX → Prop
abbrev FO := GE → MS → (Option Int → MS → Prop) → KX → Prop
structure Nd where
  nx : GE → MS → Prop
  rt : KD
  bk : GE → MS → Prop := fun _ _ => False
  ct : GE → MS → Prop := fun _ _ => False
  ex : KX
abbrev FS := Nd → GE → MS → Prop
def XdOk (K : PySem.W.Frag) (P : Addr → Prop) (H : Hp) (d : Option Addr) (fs : List (Str × D)) : Prop :=
  (d = none ∧ fs = []) ∨ ∃ a vs, d = some a ∧ ¬ P a ∧ H a = some (.xd vs) ∧ IsFs K P H vs fs
def LinkX (K : PySem.W.Frag) (F : Addr → Prop) (H : Hp) (M : MS) (E : XK) (kx : KX) : Prop :=
  ∀ C fs M' d H', kx C fs M' → Go H M H' M' → RepM K F H' M' → XdOk K (dm F M') H' d fs → E (.ref C) d H'
def Link (K : PySem.W.Frag) (F : Addr → Prop) (H : Hp) (M : MS) (k : KD) (Q : VK) : Prop :=
  ∀ d M' v H', k d M' → Go H M H' M' → RepM K F H' M' → IsV K (dm F M') H' v d → Q v H'
def LinkT (K : PySem.W.Frag) (F : Addr → Prop) (H : Hp) (M : MS) (k : Bool → MS → Prop) (Q : Bool → Hp → Prop) : Prop :=
  ∀ b M' H', k b M' → Go H M H' M' → RepM K F H' M' → Q b H'
def LinkA (K : PySem.W.Frag) (F : Addr → Prop) (H : Hp) (M : MS) (k : List D → MS → Prop) (Q : List V → Hp → Prop) : Prop :=
  ∀ ds M' vs H', k ds M' → Go H M H' M' → RepM K F H' M' → IsVs K (dm F M') H' vs ds → Q vs H'
def LinkN (K : PySem.W.Frag) (F : Addr → Prop) (H : Hp) (M : MS) (k : GE → MS → Prop) (Q : L2.St → Hp → Prop) : Prop :=
  ∀ Γ' M' σ' H', k Γ' M' → Go H M H' M' → Rep K F σ' H' Γ' M' → Q σ' H'
structure LinkS (K : PySem.W.Frag) (F : Addr → Prop) (H : Hp) (M : MS) (N : Nd) (D : Ends) (E : XK) : Prop where
  nx : LinkN K F H M N.nx D.nx
  rt : Link K F H M N.rt D.rt
  bk : LinkN K F H M N.bk D.bk
  ct : LinkN K F H M N.ct D.ct
  ex : LinkX K F H M E N.ex
section
variable {K : PySem.W.Frag} {F : Addr → Prop} {H H1 : Hp} {M M1 : MS} {E : XK} {kx : KX}
theorem LinkX.go (g : Go H M H1 M1) (L : LinkX K F H M E kx) : LinkX K F H1 M1 E kx := fun C fs M' d H' h g' R x => L C fs M' d H' h (g.trans g') R x
theorem Link.go {k : KD} {Q : VK} (g : Go H M H1 M1) (L : Link K F H M k Q) : Link K F H1 M1 k Q := fun d M' v H' h g' R x => L d M' v H' h (g.trans g') R x
theorem LinkT.go {k : Bool → MS → Prop} {Q : Bool → Hp → Prop} (g : Go H M H1 M1) (L : LinkT K F H M k Q) : LinkT K F H1 M1 k Q := fun d M' H' h g' R => L d M' H' h (g.trans g') R
theorem LinkA.go {k : List D → MS → Prop} {Q : List V → Hp → Prop} (g : Go H M H1 M1) (L : LinkA K F H M k Q) : LinkA K F H1 M1 k Q := fun d M' v H' h g' R x => L d M' v H' h (g.trans g') R x
theorem LinkN.go {k : GE → MS → Prop} {Q : L2.St → Hp → Prop} (g : Go H M H1 M1) (L : LinkN K F H M k Q) : LinkN K F H1 M1 k Q := fun d M' v H' h g' R => L d M' v H' h (g.trans g') R
theorem LinkS.go {N : Nd} {D : Ends} (g : Go H M H1 M1) (L : LinkS K F H M N D E) : LinkS K F H1 M1 N D E := ⟨L.nx.go g, L.rt.go g, L.bk.go g, L.ct.go g, L.ex.go g⟩
end
def liE (K : PySem.W.Frag) (E : L2.St → XK) (f : FE) : TE := fun σ H Q => ∃ F Γ M k kx, Rep K F σ H Γ M ∧ f Γ M k kx ∧ LinkX K F H M (E σ) kx ∧ Link K F H M k Q
def liT (K : PySem.W.Frag) (E : L2.St → XK) (f : FT) : TT := fun σ H Q => ∃ F Γ M k kx, Rep K F σ H Γ M ∧ f Γ M k kx ∧ LinkX K F H M (E σ) kx ∧ LinkT K F H M k Q
def liA (K : PySem.W.Frag) (E : L2.St → XK) (f : FA) : TA := fun σ H Q => ∃ F Γ M k kx, Rep K F σ H Γ M ∧ f Γ M k kx ∧ LinkX K F H M (E σ) kx ∧ LinkA K F H M k Q
def liO (K : PySem.W.Frag) (E : L2.St → XK) (f : FO) : TO := fun σ H Q => ∃ F Γ M k kx, Rep K F σ H Γ M ∧ f Γ M k kx ∧ LinkX K F H M (E σ) kx ∧ ∀ o M' H', k o M' → Go H M H' M' → RepM K F H' M' → Q o H'
def liS (K : PySem.W.Frag) (E : XK) (f : FS) : TS := fun D σ H => ∃ F Γ M N, Rep K F σ H Γ M ∧ f N Γ M ∧ LinkS K F H M N D E
abbrev DE (X : Cx) (E : L2.St → XK) (e : Expr) (f : FE) : Prop := PE X e (liE X.K E f)
abbrev DT (X : Cx) (E : L2.St → XK) (e : Expr) (f : FT) : Prop := PT X e (liT X.K E f)
abbrev DW (X : Cx) (E : L2.St → XK) (e : Expr) (f : FT) : Prop := PW X e (liT X.K E f)
abbrev DA (X : Cx) (E : L2.St → XK) (es : List Expr) (f : FA) : Prop := PA X es (liA X.K E f)
abbrev DO (X : Cx) (E : L2.St → XK) (e : Option Expr) (f : FO) : Prop := PO X e (liO X.K E f)
abbrev DS (X : Cx) (E : XK) (s : Stmt) (f : FS) : Prop := PS X s (liS X.K E f)
abbrev DSs (X : Cx) (E : XK) (s : List Stmt) (f : FS) : Prop := PSs X s (liS X.K E f)

/-! ### weaker readings -/
section
variable {X : Cx}
theorem pe_w {e : Expr} {t t' : TE} (h : PE X e t) (w : ∀ σ H Q, t' σ H Q → t σ H Q) : PE X e t' := ⟨fun pins s σ H Q I q => h.run pins s σ H Q I (w σ H Q q)⟩
theorem pt_w {e : Expr} {t t' : TT} (h : PT X e t) (w : ∀ σ H Q, t' σ H Q → t σ H Q) : PT X e t' := ⟨fun pins s σ H Q I q => h.run pins s σ H Q I (w σ H Q q)⟩
theorem pw_w {e : Expr} {t t' : TT} (h : PW X e t) (w : ∀ σ H Q, t' σ H Q → t σ H Q) : PW X e t' := ⟨fun wh pins s σ H Q I q => h.run wh pins s σ H Q I (w σ H Q q)⟩
theorem pa_w {e : List Expr} {t t' : TA} (h : PA X e t) (w : ∀ σ H Q, t' σ H Q → t σ H Q) : PA X e t' := ⟨fun pos pins s σ H Q I q => h.run pos pins s σ H Q I (w σ H Q q)⟩
theorem po_w {e : Option Expr} {t t' : TO} (h : PO X e t) (w : ∀ σ H Q, t' σ H Q → t σ H Q) : PO X e t' := ⟨fun pins s σ H Q I q => h.run pins s σ H Q I (w σ H Q q)⟩
theorem ps_w {e : Stmt} {t t' : TS} (h : PS X e t) (w : ∀ D σ H, t' D σ H → t D σ H) : PS X e t' := ⟨fun pins s σ H D I q => h.run pins s σ H D I (w D σ H q)⟩
theorem pss_w {e : List Stmt} {t t' : TS} (h : PSs X e t) (w : ∀ D σ H, t' D σ H → t D σ H) : PSs X e t' := ⟨fun pins s σ H D I q => h.run pins s σ H D I (w D σ H q)⟩
end

/-! ### names, constants -/
section
variable {X : Cx} {E : L2.St → XK} {pos : Pos}
def fVar (i : Nat) : FE := fun Γ M k _ => ∃ d, Γ[i]? = some (some d) ∧ k d M
def fC (d : D) : FE := fun _ M k _ => k d M
theorem de_var (i : Nat) {x : Str} (hN : X.N[i]? = some x := by rfl) (hv : Vis X.env.scope x := by first | exact Or.inl rfl | exact Or.inr (Or.inl rfl) | exact Or.inr (Or.inr rfl)) (hd : (x == ("__debug__" : Str)) = false := by decide)
    (hcd : (x == ("__classdict__" : Str)) = false := by decide) : DE X E (.Name x pos) (fVar i) :=
  pe_w (pe_var hN hv hd hcd) fun σ H Q ⟨F, Γ, M, k, kx, R, ⟨d, e, h⟩, _, L⟩ => let ⟨v, e1, h1⟩ := R.env i d e; ⟨v, e1, L d M v H h (Go.refl _ _) R.mem h1⟩
/-- a value that leans on nothing -/
theorem de_const {e : Expr} {v : V} {d : D} (h : PE X e (tC v)) (hv : ∀ K P H, IsV K P H v d) : DE X E e (fC d) :=
  pe_w h fun σ H Q ⟨F, Γ, M, k, kx, R, q, _, L⟩ => L d M v H q (Go.refl _ _) R.mem (hv _ _ _)
theorem de_int {i j} : DE X E (.Constant (.int i) j pos) (fC (.int i)) := de_const pe_int fun _ _ _ => .int _
theorem de_bl {b j} : DE X E (.Constant (.bool b) j pos) (fC (.bl b)) := de_const pe_bl fun _ _ _ => .bl _
theorem de_non {j} : DE X E (.Constant .none j pos) (fC .non) := de_const pe_non fun _ _ _ => .non
theorem de_str {x j} : DE X E (.Constant (.str x) j pos) (fC (.str x)) := de_const pe_str fun _ _ _ => .str _
/-- a module's int, a module's text -/
theorem de_gint {x : Str} {i : Int} {t : Tok} (hg : Gl X x) (hm : X.mg x = some (.int i t)) (hd : (x == ("__debug__" : Str)) = false := by decide) : DE X E (.Name x pos) (fC (.int i)) := de_const (pe_glob (v := .int i) hg hm ⟨t, rfl⟩ hd) fun _ _ _ => .int _
theorem de_gstr {x y : Str} {t : Tok} (hg : Gl X x) (hm : X.mg x = some (.str y t)) (hd : (x == ("__debug__" : Str)) = false := by decide) : DE X E (.Name x pos) (fC (.str y)) := de_const (pe_glob (v := .str y) hg hm ⟨t, rfl⟩ hd) fun _ _ _ => .str _
theorem de_gintE {x : Str} {i : Int} (hg : Gl X x) (hm : ∃ t, X.mg x = some (.int i t)) (hd : (x == ("__debug__" : Str)) = false := by decide) : DE X E (.Name x pos) (fC (.int i)) := let ⟨_, h⟩ := hm; de_gint hg h hd
theorem de_gstrE {x y : Str} (hg : Gl X x) (hm : ∃ t, X.mg x = some (.str y t)) (hd : (x == ("__debug__" : Str)) = false := by decide) : DE X E (.Name x pos) (fC (.str y)) := let ⟨_, h⟩ := hm; de_gstr hg h hd
/-- a built-in class as a value -/
theorem de_ty {x : Str} {n : String} (hg : Gl X x) (hm : X.mg x = none) (hv : bootBuiltins x = some (.type n)) (hn : x ≠ "__name__" := by decide) (hd : (x == ("__debug__" : Str)) = false := by decide) : DE X E (.Name x pos) (fC (.ty n)) :=
  de_const (pe_bltn (v := .ty n) hg hm hv rfl hn hd) fun _ _ _ => .ty _
end

/-! ### operations on values -/
/-- a step that changes nothing gives the tree d -/
theorem Link.now {K : PySem.W.Frag} {F : Addr → Prop} {H : Hp} {M : MS} {k : KD} {Q : VK} {d : D} {v : V} (L : Link K F H M k Q) (R : RepM K F H M) (h : k d M) (hv : IsV K (dm F M) H v d) : Q v H := L d M v H h (Go.refl _ _) R hv
/-- .. a new object -/
theorem Link.new {K : PySem.W.Frag} {F : Addr → Prop} {H : Hp} {M : MS} {k : KD} {Q : VK} {d : D} {p : Addr} {o : HO} (L : Link K F H M k Q) (R : RepM K F H M) (h : k d M) (hp : H p = none)
    (hv : ¬ dm F M p → Kp (dm F M) (dm F M) H (upd H p o) → IsV K (dm F M) (upd H p o) (.ref p) d) : Q (.ref p) (upd H p o) :=
  L d M (.ref p) (upd H p o) h (Go.new (K := K) (F := F) hp) (R.new hp) (hv (R.fresh hp) (Go.new (K := K) (F := F) (M := M) hp).to_kp)
theorem new_lst {K : PySem.W.Frag} {F : Addr → Prop} {H : Hp} {M : MS} {k : KD} {Q : VK} {ds : List D} {vs : List V} (L : Link K F H M k Q) (R : RepM K F H M) (h : k (.lst ds) M) (hv : IsVs K (dm F M) H vs ds) :
    ∀ p, H p = none → Q (.ref p) (upd H p (.lst vs)) := fun p hp => L.new R h hp fun n kp => .lst n upd_same (IsVs.kp kp _ _ hv)
theorem new_tup {K : PySem.W.Frag} {F : Addr → Prop} {H : Hp} {M : MS} {k : KD} {Q : VK} {ds : List D} {vs : List V} (L : Link K F H M k Q) (R : RepM K F H M) (h : k (.tup ds) M) (hv : IsVs K (dm F M) H vs ds) :
    ∀ p, H p = none → Q (.ref p) (upd H p (.tup vs)) := fun p hp => L.new R h hp fun n kp => .tup (.inl ⟨n, .inl upd_same⟩) (IsVs.kp kp _ _ hv)

abbrev F2 := D → D → MS → KD → Prop
def OpD (K : PySem.W.Frag) (r : R2) (g : F2) : Prop := ∀ F H M v w x y k Q, RepM K F H M → IsV K (dm F M) H v x → IsV K (dm F M) H w y → g x y M k → Link K F H M k Q → r v w H Q
abbrev F1 := D → MS → KD → Prop
def UnD (K : PySem.W.Frag) (r : V → Hp → VK → Prop) (g : F1) : Prop := ∀ F H M v x k Q, RepM K F H M → IsV K (dm F M) H v x → g x M k → Link K F H M k Q → r v H Q
abbrev FN := List D → MS → KD → Prop
def CallD (K : PySem.W.Frag) (r : List V → Hp → VK → Prop) (g : FN) : Prop := ∀ F H M vs ds k Q, RepM K F H M → IsVs K (dm F M) H vs ds → g ds M k → Link K F H M k Q → r vs H Q
def MtD (K : PySem.W.Frag) (r : V → List V → Hp → VK → Prop) (g : D → FN) : Prop := ∀ F H M v x vs ds k Q, RepM K F H M → IsV K (dm F M) H v x → IsVs K (dm F M) H vs ds → g x ds M k → Link K F H M k Q → r v vs H Q
def fOp (g : F2) (fa fb : FE) : FE := fun Γ M k kx => fa Γ M (fun x M1 => fb Γ M1 (fun y M2 => g x y M2 k) kx) kx
def fUn (g : F1) (fa : FE) : FE := fun Γ M k kx => fa Γ M (fun x M1 => g x M1 k) kx
def fCB (g : FN) (fa : FA) : FE := fun Γ M k kx => fa Γ M (fun ds M1 => g ds M1 k) kx
section
variable {K : PySem.W.Frag} {E : L2.St → XK} {fa fb : FE} {σ : L2.St} {H : Hp} {Q : VK}
theorem li_op {r : R2} {g : F2} (hg : OpD K r g) (h : liE K E (fOp g fa fb) σ H Q) : tOp r (liE K E fa) (liE K E fb) σ H Q := by
  obtain ⟨F, Γ, M, k, kx, R, q, LX, L⟩ := h
  refine ⟨F, Γ, M, _, kx, R, q, LX, fun x M1 v H1 hx g1 R1 i1 => ?_⟩
  refine ⟨F, Γ, M1, _, kx, R.go g1 R1, hx, LX.go g1, fun y M2 w H2 hy g2 R2 i2 => ?_⟩
  exact hg F H2 M2 v w x y k Q R2 (IsV.kp g2.to_kp _ _ i1) i2 hy (L.go (g1.trans g2))
theorem li_un {r : V → Hp → VK → Prop} {g : F1} (hg : UnD K r g) (h : liE K E (fUn g fa) σ H Q) : tUn r (liE K E fa) σ H Q := by
  obtain ⟨F, Γ, M, k, kx, R, q, LX, L⟩ := h
  exact ⟨F, Γ, M, _, kx, R, q, LX, fun x M1 v H1 hx g1 R1 i1 => hg F H1 M1 v x k Q R1 i1 hx (L.go g1)⟩
theorem li_cb {r : List V → Hp → VK → Prop} {g : FN} {fa : FA} (hg : CallD K r g) (h : liE K E (fCB g fa) σ H Q) : tCB r (liA K E fa) σ H Q := by
  obtain ⟨F, Γ, M, k, kx, R, q, LX, L⟩ := h
  exact ⟨F, Γ, M, _, kx, R, q, LX, fun ds M1 vs H1 hx g1 R1 i1 => hg F H1 M1 vs ds k Q R1 i1 hx (L.go g1)⟩
end
section
variable {X : Cx} {E : L2.St → XK} {pos : Pos} {a b : Expr} {fa fb : FE}
theorem de_op {op : Operator} {r : R2} {g : F2} (ho : OpR X (binaryOp op) r) (hg : OpD X.K r g) (ha : DE X E a fa) (hb : DE X E b fb) : DE X E (.BinOp a op b pos) (fOp g fa fb) := pe_w (pe_op ho ha hb) fun _ _ _ => li_op hg
theorem de_un {op : UnaryOp} {r : V → Hp → VK → Prop} {g : F1} (ho : UnR X (unaryOp op) r) (hg : UnD X.K r g) (ha : DE X E a fa) : DE X E (.UnaryOp op a pos) (fUn g fa) := pe_w (pe_un ho ha) fun _ _ _ => li_un hg
theorem de_cmp {op : CmpOp} {r : R2} {g : F2} (ho : OpR X (compareOp op) r) (hg : OpD X.K r g) (ha : DE X E a fa) (hb : DE X E b fb) (hm : behindInMarks op b = false) : DE X E (.Compare a [op] [b] pos) (fOp g fa fb) := pe_w (pe_cmpR ho ha hb hm) fun _ _ _ => li_op hg
theorem de_ix {r : R2} {g : F2} (ho : IxR X r) (hg : OpD X.K r g) (ha : DE X E a fa) (hb : DE X E b fb) (hs : PlainIx b) : DE X E (.Subscript a b pos) (fOp g fa fb) := pe_w (pe_ix ho ha hb hs) fun _ _ _ => li_op hg
/-- an expression that gives a truth, as a test -/
def fTest (f : FE) : FT := fun Γ M k kx => f Γ M (fun d M1 => ∃ b, d = .bl b ∧ k b M1) kx
theorem li_test {K : PySem.W.Frag} {σ : L2.St} {H : Hp} {Q : Bool → Hp → Prop} (h : liT K E (fTest fa) σ H Q) : tTest (liE K E fa) σ H Q := by
  obtain ⟨F, Γ, M, k, kx, R, q, LX, L⟩ := h
  refine ⟨F, Γ, M, _, kx, R, q, LX, fun x M1 v H1 hx g1 R1 i1 => ?_⟩
  obtain ⟨b, rfl, hx⟩ := hx
  cases i1
  exact ⟨b, rfl, L b M1 H1 hx g1 R1⟩
theorem dt_val (h : DE X E a fa) (he : ∀ whole, isTrue a X.env whole = (do let v ← whole; standAt a.pos; holding [v] (truthy v)) := by intro _; rfl) : DT X E a (fTest fa) := pt_w (pt_val h he) fun _ _ _ => li_test
theorem dt_cmp {op : CmpOp} {r : R2} {g : F2} (ho : OpR X (compareOp op) r) (hg : OpD X.K r g) (ha : DE X E a fa) (hb : DE X E b fb) (hm : behindInMarks op b = false) : DT X E (.Compare a [op] [b] pos) (fTest (fOp g fa fb)) :=
  pt_w (pt_cmpR ho ha hb hm) fun σ H Q h => by
    obtain ⟨F, Γ, M, k, kx, R, q, LX, L⟩ := h
    refine li_op hg ⟨F, Γ, M, _, kx, R, q, LX, fun x M1 v H1 hx g1 R1 i1 => ?_⟩
    obtain ⟨b, rfl, hx⟩ := hx
    cases i1
    exact ⟨b, rfl, L b M1 H1 hx g1 R1⟩
/-- a op1 b op2 c -/
def fChain (g g' : F2) (fa fb fc : FE) : FE := fun Γ M k kx => fa Γ M (fun x M1 => fb Γ M1 (fun y M2 => g x y M2 fun z M3 => ∃ b, z = .bl b ∧ if b = true then fc Γ M3 (fun w M4 => g' y w M4 k) kx else k (.bl false) M3) kx) kx
theorem li_chain {K : PySem.W.Frag} {r r' : R2} {g g' : F2} {fc : FE} (hg : OpD K r g) (hg' : OpD K r' g') {σ : L2.St} {H : Hp} {Q : VK} (h : liE K E (fChain g g' fa fb fc) σ H Q) : tChain r r' (liE K E fa) (liE K E fb) (liE K E fc) σ H Q := by
  obtain ⟨F, Γ, M, k, kx, R, q, LX, L⟩ := h
  refine ⟨F, Γ, M, _, kx, R, q, LX, fun x M1 v H1 hx g1 R1 i1 => ?_⟩
  refine ⟨F, Γ, M1, _, kx, R.go g1 R1, hx, LX.go g1, fun y M2 w H2 hy g2 R2 i2 => ?_⟩
  refine hg F H2 M2 v w x y _ _ R2 (IsV.kp g2.to_kp _ _ i1) i2 hy fun z M3 u H3 hz g3 R3 i3 => ?_
  obtain ⟨b, rfl, hz⟩ := hz
  cases i3
  refine ⟨b, rfl, ?_⟩
  have G := (g1.trans g2).trans g3
  cases b with
  | false => exact L _ M3 _ H3 hz G R3 (.bl false)
  | true =>
    refine ⟨F, Γ, M3, _, kx, R.go G R3, hz, LX.go G, fun t M4 u' H4 ht g4 R4 i4 => ?_⟩
    exact hg' F H4 M4 w u' y t k Q R4 (IsV.kp (g3.trans g4).to_kp _ _ i2) i4 ht (L.go (G.trans g4))
theorem de_chain {op op' : CmpOp} {r r' : R2} {g g' : F2} {c : Expr} {fc : FE} (ho : OpR X (compareOp op) r) (hg : OpD X.K r g) (ho' : OpR X (compareOp op') r') (hg' : OpD X.K r' g') (ha : DE X E a fa) (hb : DE X E b fb) (hc : DE X E c fc)
    (hm : lastMarks [op, op'] [b, c] = false := by with_unfolding_all rfl) : DE X E (.Compare a [op, op'] [b, c] pos) (fChain g g' fa fb fc) := pe_w (pe_chain ho ho' ha hb hc hm) fun _ _ _ => li_chain hg hg'
theorem dt_chain {op op' : CmpOp} {r r' : R2} {g g' : F2} {c : Expr} {fc : FE} (ho : OpR X (compareOp op) r) (hg : OpD X.K r g) (ho' : OpR X (compareOp op') r') (hg' : OpD X.K r' g') (ha : DE X E a fa) (hb : DE X E b fb) (hc : DE X E c fc)
    (hm : lastMarks [op, op'] [b, c] = false := by with_unfolding_all rfl) : DT X E (.Compare a [op, op'] [b, c] pos) (fTest (fChain g g' fa fb fc)) :=
  pt_w (pt_chain ho ho' ha hb hc hm) fun σ H Q h => by
    obtain ⟨F, Γ, M, k, kx, R, q, LX, L⟩ := h
    refine li_chain hg hg' ⟨F, Γ, M, _, kx, R, q, LX, fun x M1 v H1 hx g1 R1 i1 => ?_⟩
    obtain ⟨b, rfl, hx⟩ := hx
    cases i1
    exact ⟨b, rfl, L b M1 H1 hx g1 R1⟩
end

/-! ### and, or, not, if -/
def fAnd (f g : FT) : FT := fun Γ M k kx => f Γ M (fun b M1 => if b = true then g Γ M1 k kx else k false M1) kx
def fOr (f g : FT) : FT := fun Γ M k kx => f Γ M (fun b M1 => if b = true then k true M1 else g Γ M1 k kx) kx
def fNot (f : FT) : FT := fun Γ M k kx => f Γ M (fun b M1 => k (!b) M1) kx
def fAndV (f g : FE) : FE := fun Γ M k kx => f Γ M (fun x M1 => ∃ b, x = .bl b ∧ if b = true then g Γ M1 k kx else k (.bl false) M1) kx
def fOrV (f g : FE) : FE := fun Γ M k kx => f Γ M (fun x M1 => ∃ b, x = .bl b ∧ if b = true then k (.bl true) M1 else g Γ M1 k kx) kx
def fNotV (f : FE) : FE := fun Γ M k kx => f Γ M (fun x M1 => ∃ b, x = .bl b ∧ k (.bl (!b)) M1) kx
def fIf (f : FT) (g h : FE) : FE := fun Γ M k kx => f Γ M (fun b M1 => if b = true then g Γ M1 k kx else h Γ M1 k kx) kx
section
variable {X : Cx} {E : L2.St → XK} {pos : Pos} {a b c : Expr} {rest : List Expr} {fa fb : FE} {ga gb : FT}
theorem dw_and1 (ha : DT X E a ga) : DW X E (.BoolOp .And [a] pos) ga := pw_and1 ha
theorem dw_or1 (ha : DT X E a ga) : DW X E (.BoolOp .Or [a] pos) ga := pw_or1 ha
theorem dw_and (ha : DT X E a ga) (hb : DW X E (.BoolOp .And (b :: rest) pos) gb) : DW X E (.BoolOp .And (a :: b :: rest) pos) (fAnd ga gb) :=
  pw_w (pw_and ha hb) fun σ H Q h => by
    obtain ⟨F, Γ, M, k, kx, R, q, LX, L⟩ := h
    refine ⟨F, Γ, M, _, kx, R, q, LX, fun x M1 H1 hx g1 R1 => ?_⟩
    cases x with
    | true => exact ⟨F, Γ, M1, _, kx, R.go g1 R1, hx, LX.go g1, L.go g1⟩
    | false => exact L _ _ _ hx g1 R1
theorem dw_or (ha : DT X E a ga) (hb : DW X E (.BoolOp .Or (b :: rest) pos) gb) : DW X E (.BoolOp .Or (a :: b :: rest) pos) (fOr ga gb) :=
  pw_w (pw_or ha hb) fun σ H Q h => by
    obtain ⟨F, Γ, M, k, kx, R, q, LX, L⟩ := h
    refine ⟨F, Γ, M, _, kx, R, q, LX, fun x M1 H1 hx g1 R1 => ?_⟩
    cases x with
    | false => exact ⟨F, Γ, M1, _, kx, R.go g1 R1, hx, LX.go g1, L.go g1⟩
    | true => exact L _ _ _ hx g1 R1
theorem dt_w (h : DW X E a ga) : DT X E a ga := PW.pt h
theorem dt_not (ha : DT X E a ga) : DT X E (.UnaryOp .Not a pos) (fNot ga) :=
  pt_w (pt_not ha) fun σ H Q h => by
    obtain ⟨F, Γ, M, k, kx, R, q, LX, L⟩ := h
    exact ⟨F, Γ, M, _, kx, R, q, LX, fun x M1 H1 hx g1 R1 => L _ _ _ hx g1 R1⟩
theorem de_one {op} (h : DE X E a fa) : DE X E (.BoolOp op [a] pos) fa := pe_one h
theorem de_and (ha : DE X E a fa) (hb : DE X E (.BoolOp .And (b :: rest) pos) fb) : DE X E (.BoolOp .And (a :: b :: rest) pos) (fAndV fa fb) :=
  pe_w (pe_and ha hb) fun σ H Q h => by
    obtain ⟨F, Γ, M, k, kx, R, q, LX, L⟩ := h
    refine ⟨F, Γ, M, _, kx, R, q, LX, fun x M1 v H1 hx g1 R1 i1 => ?_⟩
    obtain ⟨b, rfl, hx⟩ := hx
    cases i1
    refine ⟨b, rfl, ?_⟩
    cases b with
    | true => exact ⟨F, Γ, M1, _, kx, R.go g1 R1, hx, LX.go g1, L.go g1⟩
    | false => exact L _ _ _ _ hx g1 R1 (.bl false)
theorem de_or (ha : DE X E a fa) (hb : DE X E (.BoolOp .Or (b :: rest) pos) fb) : DE X E (.BoolOp .Or (a :: b :: rest) pos) (fOrV fa fb) :=
  pe_w (pe_or ha hb) fun σ H Q h => by
    obtain ⟨F, Γ, M, k, kx, R, q, LX, L⟩ := h
    refine ⟨F, Γ, M, _, kx, R, q, LX, fun x M1 v H1 hx g1 R1 i1 => ?_⟩
    obtain ⟨b, rfl, hx⟩ := hx
    cases i1
    refine ⟨b, rfl, ?_⟩
    cases b with
    | false => exact ⟨F, Γ, M1, _, kx, R.go g1 R1, hx, LX.go g1, L.go g1⟩
    | true => exact L _ _ _ _ hx g1 R1 (.bl true)
theorem de_not (ha : DE X E a fa) : DE X E (.UnaryOp .Not a pos) (fNotV fa) :=
  pe_w (pe_not ha) fun σ H Q h => by
    obtain ⟨F, Γ, M, k, kx, R, q, LX, L⟩ := h
    refine ⟨F, Γ, M, _, kx, R, q, LX, fun x M1 v H1 hx g1 R1 i1 => ?_⟩
    obtain ⟨b, rfl, hx⟩ := hx
    cases i1
    exact ⟨b, rfl, L _ _ _ _ hx g1 R1 (.bl (!b))⟩
theorem de_if (hc : DT X E c ga) (ha : DE X E a fa) (hb : DE X E b fb) : DE X E (.IfExp c a b pos) (fIf ga fa fb) :=
  pe_w (pe_ifExp hc ha hb) fun σ H Q h => by
    obtain ⟨F, Γ, M, k, kx, R, q, LX, L⟩ := h
    refine ⟨F, Γ, M, _, kx, R, q, LX, fun x M1 H1 hx g1 R1 => ?_⟩
    cases x with
    | true => exact ⟨F, Γ, M1, _, kx, R.go g1 R1, hx, LX.go g1, L.go g1⟩
    | false => exact ⟨F, Γ, M1, _, kx, R.go g1 R1, hx, LX.go g1, L.go g1⟩
end

/-! ### argument lists, displays, slices -/
def fNil : FA := fun _ M k _ => k [] M
def fCons (f : FE) (g : FA) : FA := fun Γ M k kx => f Γ M (fun x M1 => g Γ M1 (fun xs M2 => k (x :: xs) M2) kx) kx
def fLst (g : FA) : FE := fun Γ M k kx => g Γ M (fun ds M1 => ds.length ≤ sizeLine ∧ k (.lst ds) M1) kx
def fTup (g : FA) : FE := fun Γ M k kx => g Γ M (fun ds M1 => ds.length ≤ sizeLine ∧ k (.tup ds) M1) kx
def fNoP : FO := fun _ M k _ => k none M
def fPart (f : FE) : FO := fun Γ M k kx => f Γ M (fun x M1 => ∃ i, x = .int i ∧ k (some i) M1) kx
def fSl (g : D → Option Int → Option Int → MS → KD → Prop) (f : FE) (l h : FO) : FE := fun Γ M k kx => f Γ M (fun x M1 => l Γ M1 (fun lo M2 => h Γ M2 (fun hi M3 => g x lo hi M3 k) kx) kx) kx
def SlD (K : PySem.W.Frag) (r : V → Option Int → Option Int → Hp → VK → Prop) (g : D → Option Int → Option Int → MS → KD → Prop) : Prop :=
  ∀ F H M v x lo hi k Q, RepM K F H M → IsV K (dm F M) H v x → g x lo hi M k → Link K F H M k Q → r v lo hi H Q
section
variable {X : Cx} {E : L2.St → XK} {pos p2 : Pos} {e : Expr} {es : List Expr} {f : FE} {g : FA}
theorem da_nil : DA X E [] fNil := pa_w pa_nil fun σ H Q ⟨F, Γ, M, k, kx, R, q, _, L⟩ => L [] M [] H q (Go.refl _ _) R.mem .nil
theorem da_cons (ha : DE X E e f) (hr : DA X E es g) (hs : starEach (e :: es) X.env = (false, eval e X.env) :: starEach es X.env := by rfl) : DA X E (e :: es) (fCons f g) :=
  pa_w (pa_cons ha hr hs) fun σ H Q h => by
    obtain ⟨F, Γ, M, k, kx, R, q, LX, L⟩ := h
    refine ⟨F, Γ, M, _, kx, R, q, LX, fun x M1 v H1 hx g1 R1 i1 => ?_⟩
    exact ⟨F, Γ, M1, _, kx, R.go g1 R1, hx, LX.go g1, fun xs M2 vs H2 h2 g2 R2 i2 => L _ _ _ _ h2 (g1.trans g2) R2 (.cons (IsV.kp g2.to_kp _ _ i1) i2)⟩
theorem de_lst (h : DA X E es g) : DE X E (.List es pos) (fLst g) :=
  pe_w (pe_lst h) fun σ H Q hh => by
    obtain ⟨F, Γ, M, k, kx, R, q, LX, L⟩ := hh
    refine ⟨F, Γ, M, _, kx, R, q, LX, fun ds M1 vs H1 hx g1 R1 i1 => ?_⟩
    exact ⟨by rw [i1.length]; exact hx.1, new_lst (L.go g1) R1 hx.2 i1⟩
theorem de_tup {x1} (h : DA X E es g) : DE X E (.Tuple es x1 pos) (fTup g) :=
  pe_w (pe_tup h) fun σ H Q hh => by
    obtain ⟨F, Γ, M, k, kx, R, q, LX, L⟩ := hh
    refine ⟨F, Γ, M, _, kx, R, q, LX, fun ds M1 vs H1 hx g1 R1 i1 => ?_⟩
    exact ⟨by rw [i1.length]; exact hx.1, new_tup (L.go g1) R1 hx.2 i1⟩
theorem do_none : DO X E none fNoP := po_w po_none fun σ H Q ⟨F, Γ, M, k, kx, R, q, _, L⟩ => L none M H q (Go.refl _ _) R.mem
theorem do_some (h : DE X E e f) : DO X E (some e) (fPart f) :=
  po_w (po_some h) fun σ H Q hh => by
    obtain ⟨F, Γ, M, k, kx, R, q, LX, L⟩ := hh
    refine ⟨F, Γ, M, _, kx, R, q, LX, fun x M1 v H1 hx g1 R1 i1 => ?_⟩
    obtain ⟨i, rfl, hx⟩ := hx
    cases i1
    exact ⟨i, rfl, L _ _ _ hx g1 R1⟩
theorem de_slice {r : V → Option Int → Option Int → Hp → VK → Prop} {gs : D → Option Int → Option Int → MS → KD → Prop} {lo hi : Option Expr} {fl fh : FO} (hr : SlR X r) (hg : SlD X.K r gs) (he : DE X E e f) (hl : DO X E lo fl) (hu : DO X E hi fh) :
    DE X E (.Subscript e (.Slice lo hi none p2) pos) (fSl gs f fl fh) :=
  pe_w (pe_slice hr he hl hu) fun σ H Q hh => by
    obtain ⟨F, Γ, M, k, kx, R, q, LX, L⟩ := hh
    refine ⟨F, Γ, M, _, kx, R, q, LX, fun x M1 v H1 hx g1 R1 i1 => ?_⟩
    refine ⟨F, Γ, M1, _, kx, R.go g1 R1, hx, LX.go g1, fun o2 M2 H2 h2 g2 R2 => ?_⟩
    refine ⟨F, Γ, M2, _, kx, R.go (g1.trans g2) R2, h2, LX.go (g1.trans g2), fun o3 M3 H3 h3 g3 R3 => ?_⟩
    exact hg F H3 M3 v x o2 o3 k Q R3 (IsV.kp (g2.trans g3).to_kp _ _ i1) h3 (L.go ((g1.trans g2).trans g3))
variable {x : Str} {p : Pos} {id T : String} {r : List V → Hp → VK → Prop} {gn : FN}
theorem de_callB (hc : CallR X (.builtin id) r) (hgn : CallD X.K r gn) (hg : Gl X x) (hm : X.mg x = none) (hv : bootBuiltins x = some (.builtin id)) (ha : DA X E (e :: es) g) (hn : x ≠ "__name__" := by decide) (hdb : (x == ("__debug__" : Str)) = false := by decide)
    (he : starEach (e :: es) X.env = (false, eval e X.env) :: starEach es X.env := by rfl) (hpl : (backTo pos (starEach es X.env)).any (·.1) = false := by rfl) : DE X E (.Call (.Name x p) (e :: es) [] pos) (fCB gn g) :=
  pe_w (pe_callB hc hg hm hv ha hn hdb he hpl) fun _ _ _ => li_cb hgn
theorem de_callTy (hc : CallR X (.type T) r) (hgn : CallD X.K r gn) (hg : Gl X x) (hm : X.mg x = none) (hv : bootBuiltins x = some (.type T)) (ha : DA X E (e :: es) g) (hn : x ≠ "__name__" := by decide) (hdb : (x == ("__debug__" : Str)) = false := by decide)
    (he : starEach (e :: es) X.env = (false, eval e X.env) :: starEach es X.env := by rfl) (hpl : (backTo pos (starEach es X.env)).any (·.1) = false := by rfl) : DE X E (.Call (.Name x p) (e :: es) [] pos) (fCB gn g) :=
  pe_w (pe_callTy hc hg hm hv ha hn hdb he hpl) fun _ _ _ => li_cb hgn
end

/-! ### blocks, statements -/
def fNext : FS := fun N Γ M => N.nx Γ M
def fSeq (f g : FS) : FS := fun N Γ M => f { N with nx := g N } Γ M
def fRet (f : FE) : FS := fun N Γ M => f Γ M N.rt N.ex
def fRetN : FS := fun N _ M => N.rt .non M
def fDrop (f : FE) : FS := fun N Γ M => f Γ M (fun _ M1 => N.nx Γ M1) N.ex
def fIfS (c : FT) (f g : FS) : FS := fun N Γ M => c Γ M (fun b M1 => if b = true then f N Γ M1 else g N Γ M1) N.ex
def fSet (i : Nat) (f : FE) : FS := fun N Γ M => f Γ M (fun d M1 => N.nx (Γ.set i (some d)) M1) N.ex
def fAug (i : Nat) (f : FE) (g : F2) : FS := fun N Γ M => ∃ x, Γ[i]? = some (some x) ∧ f Γ M (fun y M1 => g x y M1 fun z M2 => N.nx (Γ.set i (some z)) M2) N.ex
section
variable {X : Cx} {E : XK} {pos : Pos} {st : Stmt} {rest sa sb : List Stmt} {f g : FS} {e c : Expr} {fe : FE} {fc : FT}
theorem ds_nil : DSs X E [] fNext := pss_w pss_nil fun D σ H ⟨F, Γ, M, N, R, q, L⟩ => L.nx Γ M σ H q (Go.refl _ _) R
theorem li_seq {K : PySem.W.Frag} {D : Ends} {σ : L2.St} {H : Hp} (h : liS K E (fSeq f g) D σ H) : tSeq (liS K E f) (liS K E g) D σ H := by
  obtain ⟨F, Γ, M, N, R, q, L⟩ := h
  exact ⟨F, Γ, M, _, R, q, ⟨fun Γ' M' σ' H' h g R' => ⟨F, Γ', M', N, R', h, L.go g⟩, L.rt, L.bk, L.ct, L.ex⟩⟩
theorem ds_cons (h1 : DS X E st f) (h2 : DSs X E rest g) : DSs X E (st :: rest) (fSeq f g) := pss_w (pss_cons h1 h2) fun _ _ _ => li_seq
theorem ds_one (h : DS X E st f) : DSs X E [st] f := pss_one h
theorem ds_pass : DS X E (.Pass pos) fNext := ps_w ps_pass fun D σ H ⟨F, Γ, M, N, R, q, L⟩ => L.nx Γ M σ H q (Go.refl _ _) R
theorem ds_break : DS X E (.Break pos) (fun N Γ M => N.bk Γ M) := ps_w ps_break fun D σ H ⟨F, Γ, M, N, R, q, L⟩ => L.bk Γ M σ H q (Go.refl _ _) R
theorem ds_cont : DS X E (.Continue pos) (fun N Γ M => N.ct Γ M) := ps_w ps_continue fun D σ H ⟨F, Γ, M, N, R, q, L⟩ => L.ct Γ M σ H q (Go.refl _ _) R
theorem ds_ret (h : DE X (fun _ => E) e fe) : DS X E (.Return (some e) pos) (fRet fe) := ps_w (ps_ret h) fun D σ H ⟨F, Γ, M, N, R, q, L⟩ => ⟨F, Γ, M, N.rt, N.ex, R, q, L.ex, L.rt⟩
theorem ds_retN : DS X E (.Return none pos) fRetN := ps_w ps_retN fun D σ H ⟨F, Γ, M, N, R, q, L⟩ => L.rt _ M _ H q (Go.refl _ _) R.mem .non
theorem ds_expr (h : DE X (fun _ => E) e fe) (hs : swapsWith e none pos.line X.env = pure false := by rfl) : DS X E (.Expr e pos) (fDrop fe) :=
  ps_w (ps_expr h hs) fun D σ H ⟨F, Γ, M, N, R, q, L⟩ => ⟨F, Γ, M, _, N.ex, R, q, L.ex, fun d M1 v H1 h g1 R1 _ => L.nx _ _ _ _ h g1 (R.go g1 R1)⟩
theorem ds_if (hc : DT X (fun _ => E) c fc) (ha : DSs X E sa f) (hb : DSs X E sb g) : DS X E (.If c sa sb pos) (fIfS fc f g) :=
  ps_w (ps_if hc ha hb) fun D σ H ⟨F, Γ, M, N, R, q, L⟩ => ⟨F, Γ, M, _, N.ex, R, q, L.ex, fun b M1 H1 h g1 R1 => by
    cases b with
    | true => exact ⟨F, Γ, M1, N, R.go g1 R1, h, L.go g1⟩
    | false => exact ⟨F, Γ, M1, N, R.go g1 R1, h, L.go g1⟩⟩
theorem ds_set (i : Nat) {x : Str} {pos' : Pos} (hN : X.N.Nodup) (hi : X.N[i]? = some x) (hx : Loc X.env.scope x) (he : DE X (fun _ => E) e fe) (hs : swapsWith e (some (.Name x pos')) pos.line X.env = pure false := by rfl) (hf : X.fn x = true ∨ X.env.scope.names.lookup x = some .local := by first | exact .inl rfl | exact .inr rfl | assumption) :
    DS X E (.Assign [.Name x pos'] e pos) (fSet i fe) :=
  ps_w (ps_set hN hi hx he hs hf) fun D σ H ⟨F, Γ, M, N, R, q, L⟩ => ⟨F, Γ, M, _, N.ex, R, q, L.ex, fun d M1 v H1 h g1 R1 i1 => L.nx _ _ _ _ h g1 ((R.go g1 R1).set i i1)⟩
end
end Dl

set_option Elab.async false
set_option linter.all false
set_option maxRecDepth 100000
set_option maxHeartbeats 2000000
/-! D3: targets, loops and comprehensions by data. -/
namespace Dl
open PySem PySem.Spec PyProof.Rows L2

/-! ### hidden addresses -/
theorem kpF {F F' : Addr → Prop} {H0 H : Hp} {M0 M : MS} (g : Go H0 M0 H M) (hF : ∀ a, F' a → F a ∨ H0 a = none) : Kp (dm F M0) (dm F' M) H0 H := fun a o n h => by
  obtain ⟨n1, h1⟩ := g.to_kp (F := F) a o n h
  refine ⟨fun z => ?_, h1⟩
  rcases z with z | z
  · rcases hF a z with q | q
    · exact n (.inl q)
    · rw [h] at q; cases q
  · exact n1 (.inr z)
theorem kp_sub {P P' : Addr → Prop} {H : Hp} (h : ∀ a, P' a → P a) : Kp P P' H H := fun a o n e => ⟨fun z => n (h a z), e⟩
theorem RepM.less {K : PySem.W.Frag} {F F' : Addr → Prop} {H : Hp} {M : MS} (R : RepM K F' H M) (h : ∀ a, F a → F' a) : RepM K F H M :=
  ⟨fun a c e => (R.cel a c e).kp (kp_sub fun b z => z.elim (fun q => .inl (h b q)) .inr) rfl, fun a z => R.hid a (h a z), fun a z => R.sep a (h a z)⟩
theorem RepM.hidUpd {K : PySem.W.Frag} {F : Addr → Prop} {H : Hp} {M : MS} {p : Addr} {o : HO} (R : RepM K F H M) (h : F p) : Kp (dm F M) (dm F M) H (upd H p o) ∧ RepM K F (upd H p o) M := by
  have kp : Kp (dm F M) (dm F M) H (upd H p o) := fun a u n e => ⟨n, by
    have q : a ≠ p := fun q => n (.inl (q ▸ h))
    rw [upd_ne q]; exact e⟩
  refine ⟨kp, fun a c e => (R.cel a c e).kp kp (upd_ne fun q => ?_), fun a z => ?_, R.sep⟩
  · have := R.sep p h
    rw [q, this] at e
    cases e
  · by_cases q : a = p
    · rw [q, upd_same]; exact nofun
    · rw [upd_ne q]; exact R.hid a z

/-! ### targets -/
abbrev FG := D → GE → (GE → Prop) → Prop
abbrev FGs := List D → GE → (GE → Prop) → Prop
def liG (K : PySem.W.Frag) (g : FG) (js : List Nat) : TG := fun v σ H Q => ∃ F Γ M d k, Rep K F σ H Γ M ∧ IsV K (dm F M) H v d ∧ g d Γ k ∧
  ∀ Γ' σ', k Γ' → Rep K F σ' H Γ' M → (∀ vs : List Nat, (∀ j ∈ js, j ∈ vs) → wipe σ' vs = wipe σ vs) → Q σ' H
def liGs (K : PySem.W.Frag) (g : FGs) (js : List Nat) : TGs := fun v σ H Q => ∃ F Γ M ds k, Rep K F σ H Γ M ∧ IsVs K (dm F M) H v ds ∧ g ds Γ k ∧
  ∀ Γ' σ', k Γ' → Rep K F σ' H Γ' M → (∀ vs : List Nat, (∀ j ∈ js, j ∈ vs) → wipe σ' vs = wipe σ vs) → Q σ' H
abbrev DG (X : Cx) (tg : Expr) (g : FG) (js : List Nat) : Prop := PG X tg (liG X.K g js)
abbrev DGs (X : Cx) (tgs : List Expr) (g : FGs) (js : List Nat) : Prop := PGs X tgs (liGs X.K g js)
theorem wipe_at (σ : L2.St) (j : Nat) : ∀ vs : List Nat, (wipe σ vs)[j]? = if j ∈ vs then (σ[j]?).map (fun _ => none) else σ[j]?
  | [] => by simp [wipe]
  | v :: vs => by
    show ((wipe σ vs).set v none)[j]? = _
    by_cases hj : v = j
    · subst hj
      rw [List.getElem?_set_self', wipe_at σ v vs]
      simp only [List.mem_cons, true_or, if_true]
      by_cases hm : v ∈ vs
      · rw [if_pos hm]
        cases σ[v]? <;> rfl
      · rw [if_neg hm]
        cases σ[v]? <;> rfl
    · rw [List.getElem?_set_ne hj, wipe_at σ j vs]
      have e : (j ∈ v :: vs) ↔ j ∈ vs := by
        rw [List.mem_cons]
        exact ⟨fun z => z.elim (fun q => absurd q.symm hj) id, .inr⟩
      by_cases hm : j ∈ vs
      · rw [if_pos hm, if_pos (e.mpr hm)]
      · rw [if_neg hm, if_neg (fun z => hm (e.mp z))]
theorem wipe_set {σ : L2.St} {i : Nat} {x : Option V} {vs : List Nat} (h : i ∈ vs) : wipe (σ.set i x) vs = wipe σ vs := by
  apply List.ext_getElem?
  intro j
  rw [wipe_at, wipe_at]
  by_cases hm : j ∈ vs
  · rw [if_pos hm, if_pos hm]
    by_cases hj : i = j
    · subst hj
      rw [List.getElem?_set_self']
      cases σ[i]? <;> rfl
    · rw [List.getElem?_set_ne hj]
  · rw [if_neg hm, if_neg hm]
    have hj : i ≠ j := fun q => hm (q ▸ h)
    rw [List.getElem?_set_ne hj]
def gNm (i : Nat) : FG := fun d Γ k => k (Γ.set i (some d))
def gNo : FGs := fun ds Γ k => ds = [] ∧ k Γ
def gCn (g : FG) (gs : FGs) : FGs := fun ds Γ k => ∃ d r, ds = d :: r ∧ g d Γ fun Γ1 => gs r Γ1 k
def gTp (n : Nat) (gs : FGs) : FG := fun d Γ k => ∃ ds, d = .tup ds ∧ ds.length = n ∧ gs ds Γ k
section
variable {X : Cx} {pos : Pos}
theorem pg_w {tg : Expr} {t t' : TG} (h : PG X tg t) (w : ∀ v σ H Q, t' v σ H Q → t v σ H Q) : PG X tg t' := ⟨fun pins s σ H v u Q I r q => h.run pins s σ H v u Q I r (w v σ H Q q)⟩
theorem pgs_w {tg : List Expr} {t t' : TGs} (h : PGs X tg t) (w : ∀ v σ H Q, t' v σ H Q → t v σ H Q) : PGs X tg t' := ⟨fun pins s σ H v u Q I r q => h.run pins s σ H v u Q I r (w v σ H Q q)⟩
theorem dg_name (i : Nat) {x : Str} (hN : X.N.Nodup) (hi : X.N[i]? = some x) (hx : Loc X.env.scope x) (hf : X.fn x = true ∨ X.env.scope.names.lookup x = some .local := by first | exact .inl rfl | exact .inr rfl | assumption) : DG X (.Name x pos) (gNm i) [i] :=
  pg_w (pg_name hN hi hx hf) fun v σ H Q ⟨F, Γ, M, d, k, R, hv, h, L⟩ => L _ _ h (R.set i hv) fun vs hm => wipe_set (hm i (List.mem_singleton.mpr rfl))
theorem dgs_nil : DGs X [] gNo [] := pgs_w pgs_nil fun v σ H Q ⟨F, Γ, M, ds, k, R, hv, h, L⟩ => by
  obtain ⟨rfl, h⟩ := h
  cases hv
  exact ⟨rfl, L _ _ h R fun _ _ => rfl⟩
theorem dgs_cons {e : Expr} {es : List Expr} {g : FG} {gs : FGs} {i j : List Nat} (h1 : DG X e g i) (h2 : DGs X es gs j) (hs : (assignEach (e :: es) X.env).map (·.2) = assign e X.env :: (assignEach es X.env).map (·.2) := by rfl) : DGs X (e :: es) (gCn g gs) (i ++ j) :=
  pgs_w (pgs_cons h1 h2 hs) fun v σ H Q ⟨F, Γ, M, ds, k, R, hv, h, L⟩ => by
    obtain ⟨d, r, rfl, h⟩ := h
    cases hv with
    | cons v1 v2 =>
      refine ⟨_, _, rfl, F, Γ, M, d, _, R, v1, h, fun Γ1 σ1 q1 R1 w1 => ?_⟩
      exact ⟨F, Γ1, M, r, k, R1, v2, q1, fun Γ2 σ2 q2 R2 w2 => L _ _ q2 R2 fun vs hm => (w2 vs fun a ha => hm a (List.mem_append_right _ ha)).trans (w1 vs fun a ha => hm a (List.mem_append_left _ ha))⟩
theorem dg_tup {es : List Expr} {k : Nat} {gs : FGs} {n : Nat} {js : List Nat} (hc : X.calm = true) (h : DGs X es gs js) (hn : (assignEach es X.env).length = n := by rfl) (hst : (assignEach es X.env).findIdx? (·.1) = none := by rfl) : DG X (.Tuple es k pos) (gTp n gs) js :=
  pg_w (pg_tup hc h hn hst) fun v σ H Q ⟨F, Γ, M, d, k, R, hv, h, L⟩ => by
    obtain ⟨ds, rfl, hl, h⟩ := h
    obtain ⟨a, vs, rfl, h1, h2⟩ := hv.to_tup
    exact ⟨a, vs, rfl, h1.sq, h2.length.trans hl, F, Γ, M, ds, k, R, h2, h, L⟩
/-- target = e -/
def fAsg (g : FG) (f : FE) : FS := fun N Γ M => f Γ M (fun d M1 => g d Γ fun Γ1 => N.nx Γ1 M1) N.ex
theorem ds_asg {E : XK} {tg e : Expr} {f : FE} {g : FG} {js : List Nat} (he : DE X (fun _ => E) e f) (hg : DG X tg g js) (hs : swapsWithSole [tg] e pos.line X.env = pure false := by rfl) (hw : swappedStores [tg] e X.env = pure none := by rfl)
    (h1 : (assignEach [tg] X.env).map (·.2) = [assign tg X.env] := by rfl) : DS X E (.Assign [tg] e pos) (fAsg g f) :=
  ps_w (ps_asg he hg hs hw h1) fun D σ H ⟨F, Γ, M, N, R, q, L⟩ => ⟨F, Γ, M, _, N.ex, R, q, L.ex, fun d M1 v H1 h g1 R1 i1 =>
    ⟨F, Γ, M1, d, _, R.go g1 R1, i1, h, fun Γ' σ' h' R' _ => L.nx _ _ _ _ h' g1 R'⟩⟩
/-- a, b = x, y -/
def fPar (i j : Nat) (g : FA) : FS := fun N Γ M => g Γ M (fun ds M1 => ∃ c d, ds = [c, d] ∧ N.nx ((Γ.set i (some c)).set j (some d)) M1) N.ex
theorem ds_par {E : XK} (i j : Nat) {x y : Str} {a b : Expr} {g : FA} {px py pt : Pos} {kt k2 pt2} (hc : X.calm = true) (hN : X.N.Nodup) (hi : X.N[i]? = some x) (hj : X.N[j]? = some y) (hij : i ≠ j)
    (hx : X.env.scope.names.lookup x = some .local) (hy : X.env.scope.names.lookup y = some .local) (ha : DA X (fun _ => E) [a, b] g)
    (hw : swappedStores [.Tuple [.Name x px, .Name y py] kt pt] (.Tuple [a, b] k2 pt2) X.env = pure (some [x, y]))
    (hs : swapsWithSole [.Tuple [.Name x px, .Name y py] kt pt] (.Tuple [a, b] k2 pt2) pos.line X.env = pure false := by rfl) :
    DS X E (.Assign [.Tuple [.Name x px, .Name y py] kt pt] (.Tuple [a, b] k2 pt2) pos) (fPar i j g) :=
  ps_w (ps_par hc hN hi hj hij hx hy ha hw hs) fun D σ H ⟨F, Γ, M, N, R, q, L⟩ => ⟨F, Γ, M, _, N.ex, R, q, L.ex, fun ds M1 vs H1 h g1 R1 i1 => by
    obtain ⟨c, d, rfl, h⟩ := h
    cases i1 with
    | cons v1 i1 =>
      cases i1 with
      | cons v2 i1 =>
        cases i1
        exact ⟨_, _, rfl, L.nx _ _ _ _ h g1 (((R.go g1 R1).set i v1).set j v2)⟩⟩
end

/-! ### what is walked -/
structure ItD (K : PySem.W.Frag) (F : Addr → Prop) (H0 : Hp) (M0 : MS) (J : It) (xs : List D) : Prop where
  go : ∀ (F' : Addr → Prop) i H M, (∀ a, F' a → F a ∨ H0 a = none) → Go H0 M0 H M → RepM K F' H M → i < xs.length → J.go i H
  yl : ∀ (F' : Addr → Prop) i H M x H', (∀ a, F' a → F a ∨ H0 a = none) → Go H0 M0 H M → RepM K F' H M → i < xs.length → J.yld i H x H' → ∃ d, xs[i]? = some d ∧ Go H M H' M ∧ RepM K F' H' M ∧ IsV K (dm F' M) H' x d
  st : ∀ (F' : Addr → Prop) H M, (∀ a, F' a → F a ∨ H0 a = none) → Go H0 M0 H M → RepM K F' H M → J.stop xs.length H
def liI (K : PySem.W.Frag) (E : L2.St → XK) (f : FA) : TI := fun σ H R => ∃ F Γ M k kx, Rep K F σ H Γ M ∧ f Γ M k kx ∧ LinkX K F H M (E σ) kx ∧
  ∀ xs M' J H', k xs M' → Go H M H' M' → RepM K F H' M' → ItD K F H' M' J xs → R J H'
abbrev DI (X : Cx) (E : L2.St → XK) (tg iter : Expr) (f : FA) : Prop := PI X tg iter (liI X.K E f)
def fItL (f : FE) : FA := fun Γ M k kx => f Γ M (fun x M1 => ∃ ds, x = .lst ds ∧ k ds M1) kx
def fItZ (f : FE) : FA := fun Γ M k kx => f Γ M (fun x M1 => ∃ ns : List Int, x = .scr ns ∧ k (ns.map .int) M1) kx
def fItT (f : FE) : FA := fun Γ M k kx => f Γ M (fun x M1 => ∃ ds, x = .tup ds ∧ k ds M1) kx
def fItS (f : FE) : FA := fun Γ M k kx => f Γ M (fun x M1 => ∃ z : Str, x = .str z ∧ k (z.cps.toList.map fun c => .str ⟨#[c]⟩) M1) kx
def rngD (lo : Int) (n : Nat) : List D := (List.range n).map fun (i : Nat) => D.int (lo + (i : Int))
def fRng1 (g : FA) : FA := fun Γ M k kx => g Γ M (fun ds M1 => ∃ j : Int, ds = [.int j] ∧ -(2 ^ 62) ≤ j ∧ j < 2 ^ 62 ∧ k (rngD 0 j.toNat) M1) kx
def fRng2 (g : FA) : FA := fun Γ M k kx => g Γ M (fun ds M1 => ∃ i j : Int, ds = [.int i, .int j] ∧ (-(2 ^ 62) ≤ i ∧ i < 2 ^ 62 ∧ -(2 ^ 62) ≤ j ∧ j < 2 ^ 62) ∧ k (rngD i (j - i).toNat) M1) kx
theorem rngD_len (lo : Int) (n : Nat) : (rngD lo n).length = n := by unfold rngD; rw [List.length_map, List.length_range]
theorem rngD_at {lo : Int} {n i : Nat} (h : i < n) : (rngD lo n)[i]? = some (.int (lo + (i : Int))) := by
  unfold rngD
  rw [List.getElem?_map, List.getElem?_range h]
  rfl
section
variable {X : Cx} {E : L2.St → XK} {tg e : Expr} {f : FE}
theorem pi_w {iter : Expr} {t t' : TI} (h : PI X tg iter t) (w : ∀ σ H R, t' σ H R → t σ H R) : PI X tg iter t' := ⟨fun pins s σ H R I q => h.run pins s σ H R I (w σ H R q)⟩
theorem itD_list {K : PySem.W.Frag} {F : Addr → Prop} {H0 : Hp} {M0 : MS} {a : Addr} {vs : List V} {ds : List D} (h : ∀ (F' : Addr → Prop) H M, (∀ a, F' a → F a ∨ H0 a = none) → Go H0 M0 H M → RepM K F' H M → SqL K H a vs) (hv : IsVs K (dm F M0) H0 vs ds) : ItD K F H0 M0 (Itl K a) ds := by
  refine ⟨fun F' i H M hF g R hi => ?_, fun F' i H M x H' hF g R hi y => ?_, fun F' H M hF g R => ⟨vs, h F' H M hF g R, Nat.le_of_eq hv.length⟩⟩
  · obtain ⟨v, e, _⟩ := hv.get (List.getElem?_eq_getElem hi)
    exact ⟨vs, v, h F' H M hF g R, e⟩
  · obtain ⟨rfl, q⟩ := y
    have e := q vs (h F' _ M hF g R)
    obtain ⟨d, e1, h1⟩ := hv.getV e
    exact ⟨d, e1, Go.refl _ _, R, IsV.kp (kpF g hF) _ _ h1⟩
theorem itD_tup {K : PySem.W.Frag} {F : Addr → Prop} {H0 : Hp} {M0 : MS} {a : Addr} {vs : List V} {ds : List D} (h : ∀ (F' : Addr → Prop) H M, (∀ a, F' a → F a ∨ H0 a = none) → Go H0 M0 H M → RepM K F' H M → SqT K H a vs) (hv : IsVs K (dm F M0) H0 vs ds) : ItD K F H0 M0 (Itt K a) ds := by
  refine ⟨fun F' i H M hF g R hi => ?_, fun F' i H M x H' hF g R hi y => ?_, fun F' H M hF g R => ⟨vs, h F' H M hF g R, Nat.le_of_eq hv.length⟩⟩
  · obtain ⟨v, e, _⟩ := hv.get (List.getElem?_eq_getElem hi)
    exact ⟨vs, v, h F' H M hF g R, e⟩
  · obtain ⟨rfl, q⟩ := y
    have e := q vs (h F' _ M hF g R)
    obtain ⟨d, e1, h1⟩ := hv.getV e
    exact ⟨d, e1, Go.refl _ _, R, IsV.kp (kpF g hF) _ _ h1⟩
theorem di_list (h : DE X E e f) : DI X E tg e (fItL f) := pi_w (pi_list h) fun σ H R hh => by
  obtain ⟨F, Γ, M, k, kx, Rp, q, LX, L⟩ := hh
  refine ⟨F, Γ, M, _, kx, Rp, q, LX, fun x M1 v H1 hx g1 R1 i1 => ?_⟩
  obtain ⟨ds, rfl, hx⟩ := hx
  obtain ⟨a, vs, rfl, n, ha, hv⟩ := i1.to_lst
  exact ⟨a, rfl, ⟨vs, SqL.of ha⟩, L ds M1 _ H1 hx g1 R1 (itD_list (fun F' H M hF g R => SqL.of (kpF g hF a _ n ha).2) hv)⟩
theorem di_scr (h : DE X E e f) : DI X E tg e (fItZ f) := pi_w (pi_list h) fun σ H R hh => by
  obtain ⟨F, Γ, M, k, kx, Rp, q, LX, L⟩ := hh
  refine ⟨F, Γ, M, _, kx, Rp, q, LX, fun x M1 v H1 hx g1 R1 i1 => ?_⟩
  obtain ⟨ns, rfl, hx⟩ := hx
  cases i1 with
  | scr ha => exact ⟨_, rfl, ⟨_, ha.sq⟩, L _ M1 _ H1 hx g1 R1 (itD_list (fun F' H M hF g R => (ha.kp (kpF g hF)).sq) (IsVs.ints ns))⟩
theorem di_tup (h : DE X E e f) : DI X E tg e (fItT f) := pi_w (pi_tup h) fun σ H R hh => by
  obtain ⟨F, Γ, M, k, kx, Rp, q, LX, L⟩ := hh
  refine ⟨F, Γ, M, _, kx, Rp, q, LX, fun x M1 v H1 hx g1 R1 i1 => ?_⟩
  obtain ⟨ds, rfl, hx⟩ := hx
  obtain ⟨a, vs, rfl, ha, hv⟩ := i1.to_tup
  exact ⟨a, rfl, ⟨vs, ha.sq⟩, L ds M1 _ H1 hx g1 R1 (itD_tup (fun F' H M hF g R => (ha.kp (kpF g hF)).sq) hv)⟩
theorem di_str (h : DE X E e f) : DI X E tg e (fItS f) := pi_w (pi_str h) fun σ H R hh => by
  obtain ⟨F, Γ, M, k, kx, Rp, q, LX, L⟩ := hh
  refine ⟨F, Γ, M, _, kx, Rp, q, LX, fun x M1 v H1 hx g1 R1 i1 => ?_⟩
  obtain ⟨z, rfl, hx⟩ := hx
  cases i1
  refine ⟨z, rfl, L _ M1 _ H1 hx g1 R1 ⟨fun F' i H M hF g R hi => ?_, fun F' i H M x H' hF g R hi y => ?_, fun F' H M hF g R => ?_⟩⟩
  · rw [List.length_map, Array.length_toList] at hi
    exact hi
  · obtain ⟨rfl, c, e, rfl⟩ := y
    refine ⟨.str ⟨#[c]⟩, ?_, Go.refl _ _, R, .str _⟩
    rw [List.getElem?_map, Array.getElem?_toList, e]
    rfl
  · show z.cps.size ≤ _
    rw [List.length_map, Array.length_toList]
    exact Nat.le_refl _
theorem itD_rng {K : PySem.W.Frag} {F : Addr → Prop} {H0 : Hp} {M0 : MS} {lo : Int} {n : Nat} : ItD K F H0 M0 (Itr lo n) (rngD lo n) :=
  ⟨fun F' i H M hF g R hi => by rw [rngD_len] at hi; exact hi, fun F' i H M x H' hF g R hi y => by
    obtain ⟨rfl, rfl⟩ := y
    rw [rngD_len] at hi
    exact ⟨_, rngD_at hi, Go.refl _ _, R, .int _⟩, fun F' H M hF g R => by rw [rngD_len]; exact Nat.le_refl _⟩
theorem di_rng1 {a : Expr} {g : FA} {p pos : Pos} (hg : Gl X "range") (hm : X.mg "range" = none) (ha : DA X E [a] g) (hs : starEach [a] X.env = [(false, eval a X.env)] := by rfl) : DI X E tg (.Call (.Name "range" p) [a] [] pos) (fRng1 g) :=
  pi_w (pi_range1 hg hm ha hs) fun σ H R hh => by
    obtain ⟨F, Γ, M, k, kx, Rp, q, LX, L⟩ := hh
    refine ⟨F, Γ, M, _, kx, Rp, q, LX, fun x M1 v H1 hx g1 R1 i1 => ?_⟩
    obtain ⟨j, rfl, h1, h2, hx⟩ := hx
    cases i1 with
    | cons v1 i1 =>
      cases i1
      cases v1
      exact ⟨j, rfl, h1, h2, L _ M1 _ H1 hx g1 R1 itD_rng⟩
theorem di_rng2 {a b : Expr} {g : FA} {p pos : Pos} (hg : Gl X "range") (hm : X.mg "range" = none) (ha : DA X E [a, b] g) (hs : starEach [a, b] X.env = [(false, eval a X.env), (false, eval b X.env)] := by rfl) (hs2 : starEach [b] X.env = [(false, eval b X.env)] := by rfl) :
    DI X E tg (.Call (.Name "range" p) [a, b] [] pos) (fRng2 g) :=
  pi_w (pi_range2 hg hm ha hs hs2) fun σ H R hh => by
    obtain ⟨F, Γ, M, k, kx, Rp, q, LX, L⟩ := hh
    refine ⟨F, Γ, M, _, kx, Rp, q, LX, fun x M1 v H1 hx g1 R1 i1 => ?_⟩
    obtain ⟨i, j, rfl, hb, hx⟩ := hx
    cases i1 with
    | cons v1 i1 =>
      cases i1 with
      | cons v2 i1 =>
        cases i1
        cases v1
        cases v2
        exact ⟨i, j, rfl, hb, L _ M1 _ H1 hx g1 R1 itD_rng⟩
end

/-! ### for -/
def ForD (g : FG) (fb : FS) (N : Nd) : List D → GE → MS → Prop
  | [], Γ, M => N.nx Γ M
  | x :: xs, Γ, M => g x Γ fun Γ1 => fb { N with nx := ForD g fb N xs, ct := ForD g fb N xs, bk := N.nx } Γ1 M
def fFor (fi : FA) (g : FG) (fb : FS) : FS := fun N Γ M => fi Γ M (fun xs M1 => ForD g fb N xs Γ M1) N.ex
theorem ds_for {X : Cx} {E : XK} {tg iter : Expr} {body : List Stmt} {fi : FA} {g : FG} {js : List Nat} {fb : FS} {pos : Pos} (hp : PassesOwn (model X.prog X.w) X.A X.env X.xe) (hc : X.calm = true) (hi : DI X (fun _ => E) tg iter fi) (hg : DG X tg g js) (hb : DSs X E body fb)
    (hs : ∀ x, foldedSetIterable iter X.env x = pure x := by intro _; rfl) : DS X E (.For tg iter body [] pos) (fFor fi g fb) :=
  ps_w (ps_for hp hc hi hg hb hs) fun D σ H ⟨F, Γ, M, N, R, q, L⟩ => by
    refine ⟨F, Γ, M, _, N.ex, R, q, L.ex, fun xs M1 J H1 hx g1 R1 it => ?_⟩
    refine ⟨fun i m σ' H' => m = xs.length - i ∧ i ≤ xs.length ∧ ∃ Γ' M', Rep X.K F σ' H' Γ' M' ∧ Go H1 M1 H' M' ∧ ForD g fb N (xs.drop i) Γ' M', ⟨xs.length, by simp, Nat.zero_le _, Γ, M1, R.go g1 R1, Go.refl _ _, hx⟩, ?_⟩
    rintro i m σ' H' ⟨rfl, hi, Γ', M', R', g', h'⟩
    have hF : ∀ a, F a → F a ∨ H1 a = none := fun _ z => .inl z
    by_cases hlt : i < xs.length
    · rw [List.drop_eq_getElem_cons hlt] at h'
      refine .inr ⟨it.go F i H' M' hF g' R'.mem hlt, fun σ2 H2 => ∃ Γ2 M2, Rep X.K F σ2 H2 Γ2 M2 ∧ Go H1 M1 H2 M2 ∧ ForD g fb N (xs.drop (i + 1)) Γ2 M2, fun σ2 H2 ⟨Γ2, M2, R2, g2, h2⟩ => ⟨xs.length - (i + 1), by omega, rfl, hlt, Γ2, M2, R2, g2, h2⟩, fun x H2 hy => ?_⟩
      obtain ⟨d, e, gy, Ry, iy⟩ := it.yl F i H' M' x H2 hF g' R'.mem hlt hy
      have ed : d = xs[i] := by
        rw [List.getElem?_eq_getElem hlt] at e
        exact (Option.some.inj e).symm
      subst ed
      refine ⟨F, Γ', M', _, _, R'.go gy Ry, iy, h', fun Γ3 σ3 h3 R3 _ => ?_⟩
      have G : Go H1 M1 H2 M' := g'.trans gy
      have nxt : LinkN X.K F H2 M' (ForD g fb N (xs.drop (i + 1))) (fun σ2 H2 => ∃ Γ2 M2, Rep X.K F σ2 H2 Γ2 M2 ∧ Go H1 M1 H2 M2 ∧ ForD g fb N (xs.drop (i + 1)) Γ2 M2) := fun Γ4 M4 σ4 H4 h4 g4 R4 => ⟨Γ4, M4, R4, G.trans g4, h4⟩
      exact ⟨F, Γ3, M', _, R3, h3, ⟨nxt, L.rt.go (g1.trans G), L.nx.go (g1.trans G), nxt, L.ex.go (g1.trans G)⟩⟩
    · have e : i = xs.length := by omega
      subst e
      rw [List.drop_length] at h'
      exact .inl ⟨it.st F H' M' hF g' R'.mem, L.nx _ _ _ _ h' (g1.trans g') R'⟩

/-! ### comprehensions -/
def noX : KX := fun _ _ _ => False
def wipeG (Γ : GE) : List Nat → GE
  | [] => Γ
  | v :: vs => (wipeG Γ vs).set v none
theorem Rep.wipe {K : PySem.W.Frag} {F : Addr → Prop} {σ : L2.St} {H : Hp} {Γ : GE} {M : MS} (R : Rep K F σ H Γ M) : ∀ vs : List Nat, Rep K F (L2.wipe σ vs) H (wipeG Γ vs) M
  | [] => R
  | v :: vs => by
    have ih := R.wipe vs
    refine ⟨fun j d e => ?_, ?_, R.mem⟩
    · have e' : ((wipeG Γ vs).set v none)[j]? = some (some d) := e
      by_cases hj : v = j
      · subst hj
        rw [List.getElem?_set_self'] at e'
        cases q : (wipeG Γ vs)[v]? with
        | none => rw [q] at e'; cases e'
        | some z => rw [q] at e'; cases e'
      · rw [List.getElem?_set_ne hj] at e'
        obtain ⟨w, h1, h2⟩ := ih.env j d e'
        refine ⟨w, ?_, h2⟩
        show ((L2.wipe σ vs).set v none)[j]? = _
        rw [List.getElem?_set_ne hj]
        exact h1
    · show ((wipeG Γ vs).set v none).length = ((L2.wipe σ vs).set v none).length
      rw [List.length_set, List.length_set]
      exact ih.len
def LcD (g : FG) (tt : FT) (te : FE) (Γ : GE) (k : List D → MS → Prop) : List D → List D → MS → Prop
  | [], acc, M => k acc M
  | x :: xs, acc, M => g x Γ fun Γ1 => tt Γ1 M (fun b M1 => if b = true then te Γ1 M1 (fun y M2 => acc.length < sizeLine ∧ LcD g tt te Γ k xs (acc ++ [y]) M2) noX else LcD g tt te Γ k xs acc M1) noX
def fLc (fi : FA) (g : FG) (tt : FT) (te : FE) (vs : List Nat) : FE := fun Γ M k kx => fi Γ M (fun xs M1 => LcD g tt te (wipeG Γ vs) (fun ds M2 => k (.lst ds) M2) xs [] M1) kx
def fYes : FT := fun _ M k _ => k true M
abbrev DTs (X : Cx) (ifs : List Expr) (f : FT) : Prop := PTs X ifs (liT X.K (fun _ => E0) f)
theorem linkX0 {K : PySem.W.Frag} {F : Addr → Prop} {H : Hp} {M : MS} {E : XK} : LinkX K F H M E noX := fun _ _ _ _ _ h => h.elim
theorem li_lc {K : PySem.W.Frag} {E : L2.St → XK} {fi : FA} {g : FG} {js vs : List Nat} {tt : FT} {te : FE} {σ : L2.St} {H : Hp} {Q : VK} (hjs : ∀ j ∈ js, j ∈ vs) (h : liE K E (fLc fi g tt te vs) σ H Q) : tLc (liI K E fi) (liG K g js) (liT K (fun _ => E0) tt) (liE K (fun _ => E0) te) vs σ H Q := by
  obtain ⟨F, Γ, M, k, kx, R, q, LX, L⟩ := h
  refine ⟨F, Γ, M, _, kx, R, q, LX, fun xs M1 J H1 hx g1 R1 it Dl hD => ?_⟩
  have R1' := R.go g1 R1
  have nF : ¬ F Dl := fun z => R1.hid Dl z hD
  let F' : Addr → Prop := fun a => F a ∨ a = Dl
  have hF : ∀ a, F' a → F a ∨ H1 a = none := fun a z => z.elim .inl fun e => .inr (e ▸ hD)
  have R0 : RepM K F' (upd H1 Dl (.lst [])) M1 := by
    have Rn : RepM K F (upd H1 Dl (.lst [])) M1 := R1.new hD
    have gn : Go H1 M1 (upd H1 Dl (.lst [])) M1 := Go.new (K := K) (F := F) hD
    refine ⟨fun a c e => (R1.cel a c e).kp (kpF gn hF) (upd_ne fun z => ?_), fun a z => ?_, fun a z => ?_⟩
    · subst z
      exact (R1.cel a c e).there hD
    · rcases z with z | z
      · exact Rn.hid a z
      · rw [z, upd_same]; exact nofun
    · rcases z with z | z
      · exact R1.sep a z
      · rw [z]; exact R1.freshM hD
  refine ⟨fun i m H' => m = xs.length - i ∧ i ≤ xs.length ∧ ∃ acc M' vacc, H' Dl = some (.lst vacc) ∧ IsVs K (dm F' M') H' vacc acc ∧ RepM K F' H' M' ∧ Go H1 M1 H' M' ∧ LcD g tt te (wipeG Γ vs) (fun ds M2 => k (.lst ds) M2) (xs.drop i) acc M',
    ⟨xs.length, by simp, Nat.zero_le _, [], M1, [], upd_same, .nil, R0, Go.new (K := K) (F := F) hD, hx⟩, ?_⟩
  rintro i m H' ⟨rfl, hi, acc, M', vacc, eD, hacc, R', g', h'⟩
  by_cases hlt : i < xs.length
  · rw [List.drop_eq_getElem_cons hlt] at h'
    refine .inr ⟨it.go F' i H' M' hF g' R' hlt, fun H2 => ∃ acc M' vacc, H2 Dl = some (.lst vacc) ∧ IsVs K (dm F' M') H2 vacc acc ∧ RepM K F' H2 M' ∧ Go H1 M1 H2 M' ∧ LcD g tt te (wipeG Γ vs) (fun ds M2 => k (.lst ds) M2) (xs.drop (i + 1)) acc M',
      fun H2 h2 => ⟨xs.length - (i + 1), by omega, rfl, hlt, h2⟩, fun x H2 hy => ?_⟩
    obtain ⟨d, e, gy, Ry, iy⟩ := it.yl F' i H' M' x H2 hF g' R' hlt hy
    have ed : d = xs[i] := by
      rw [List.getElem?_eq_getElem hlt] at e
      exact (Option.some.inj e).symm
    subst ed
    have G : Go H1 M1 H2 M' := g'.trans gy
    have Rw : Rep K F' (L2.wipe σ vs) H2 (wipeG Γ vs) M' := by
      have r1 := R1'.wipe vs
      exact ⟨fun j d e => let ⟨w, a, b⟩ := r1.env j d e; ⟨w, a, IsV.kp (kpF G hF) _ _ b⟩, r1.len, Ry⟩
    refine ⟨F', wipeG Γ vs, M', _, _, Rw, iy, h', fun Γ3 σ3 h3 R3 w3 => ⟨?_, ?_⟩⟩
    · rw [w3 vs hjs]
      apply List.ext_getElem?
      intro j
      rw [wipe_at, wipe_at]
      by_cases hm : j ∈ vs
      · rw [if_pos hm, if_pos hm]
        cases σ[j]? <;> rfl
      · rw [if_neg hm, if_neg hm]
    · refine ⟨F', Γ3, M', _, noX, R3, h3, linkX0, fun b M4 H4 h4 g4 R4 => ?_⟩
      have sep : ∀ {Ma : MS} {Ha : Hp}, RepM K F' Ha Ma → Ma Dl = none := fun r => r.sep Dl (.inr rfl)
      have eD2 : H2 Dl = some (.lst vacc) := gy.kp Dl _ (sep R') eD
      have hacc2 := IsVs.kp (gy.to_kp (F := F')) _ _ hacc
      have eD4 : H4 Dl = some (.lst vacc) := g4.kp Dl _ (sep Ry) eD2
      have hacc4 := IsVs.kp (g4.to_kp (F := F')) _ _ hacc2
      cases b with
      | false => exact ⟨acc, M4, vacc, eD4, hacc4, R4, G.trans g4, h4⟩
      | true =>
        refine ⟨F', Γ3, M4, _, noX, R3.go g4 R4, h4, linkX0, fun y M5 v H5 h5 g5 R5 i5 => ?_⟩
        have eD5 : H5 Dl = some (.lst vacc) := g5.kp Dl _ (sep R4) eD4
        have hacc5 := IsVs.kp (g5.to_kp (F := F')) _ _ hacc4
        obtain ⟨kp, Ru⟩ := R5.hidUpd (p := Dl) (o := .lst (vacc ++ [v])) (.inr rfl)
        refine ⟨vacc, eD5, by rw [hacc5.length]; exact h5.1, acc ++ [y], M5, vacc ++ [v], upd_same, (IsVs.kp kp _ _ hacc5).append (.cons (IsV.kp kp _ _ i5) .nil), Ru, ?_, h5.2⟩
        have G5 := (G.trans g4).trans g5
        refine ⟨fun a o h1 h2 => ?_, G5.dm, fun a h1 => ?_⟩
        · have ne : a ≠ Dl := fun z => by rw [z, hD] at h2; cases h2
          rw [upd_ne ne]
          exact G5.kp a o h1 h2
        · have ne : a ≠ Dl := fun z => h1 (by rw [z]; exact hD)
          rw [upd_ne ne]
          exact G5.sm a h1
  · have e : i = xs.length := by omega
    subst e
    rw [List.drop_length] at h'
    refine .inl ⟨it.st F' H' M' hF g' R', ?_⟩
    have Rl : RepM K F H' M' := R'.less fun a z => .inl z
    refine L (.lst acc) M' (.ref Dl) H' h' (g1.trans g') Rl (.lst (fun z => ?_) eD (IsVs.kp (kp_sub fun a z => z.elim (fun q => .inl (.inl q)) .inr) _ _ hacc))
    rcases z with z | z
    · exact nF z
    · exact z (R'.sep Dl (.inr rfl))
section
variable {X : Cx} {E : L2.St → XK}
theorem dts_nil : DTs X [] fYes := ⟨fun pins s σ H Q I h => (pts_nil (X := X)).run pins s σ H Q I (let ⟨F, Γ, M, k, kx, R, q, _, L⟩ := h; L true M H q (Go.refl _ _) R.mem)⟩
theorem dts_one {c : Expr} {f : FT} (h : DT X (fun _ => E0) c f) : DTs X [c] f := pts_one h
theorem de_lc {elt tg iter : Expr} {ifs : List Expr} {scope : Scope} (own : List (Str × Nat)) {pos : Pos} {fi : FA} {g : FG} {js : List Nat} {tt : FT} {te : FE} (hc : X.calm = true) (hN : X.N.Nodup) (hi : DI X E tg iter fi) (ok : BlkOk X.N X.env.scope scope own)
    (hg : ∀ (s : Shared) (H : Hp) (C : Addr) (cl : List (Str × Addr)) (fp : List Addr), DG (X.blk s H scope (compEnvC scope cl C X.env) fp) tg g js) (ht : ∀ (s : Shared) (H : Hp) (C : Addr) (cl : List (Str × Addr)) (fp : List Addr), DTs (X.blk s H scope (compEnvC scope cl C X.env) fp) ifs tt)
    (he : ∀ (s : Shared) (H : Hp) (C : Addr) (cl : List (Str × Addr)) (fp : List Addr), DE (X.blk s H scope (compEnvC scope cl C X.env) fp) (fun _ => E0) elt te) (hjs : ∀ j ∈ js, j ∈ own.map (·.2) := by decide) (hs : ∀ x, foldedSetIterable iter X.env x = pure x := by intro _; rfl) :
    DE X E (.ListComp elt [⟨tg, iter, ifs, 0⟩] scope pos) (fLc fi g tt te (own.map (·.2))) := pe_w (pe_lc hc hN hi ok hg ht he hs) fun _ _ _ => li_lc hjs
theorem ds_setLc {E : XK} (i : Nat) {y : Str} {py : Pos} {elt tg iter : Expr} {ifs : List Expr} {scope : Scope} (own : List (Str × Nat)) {pos spos : Pos} {fi : FA} {g : FG} {js : List Nat} {tt : FT} {te : FE} (hc : X.calm = true) (hN : X.N.Nodup) (hy : X.N[i]? = some y) (hyl : X.env.scope.names.lookup y = some .local)
    (hsw : swapsWith (.ListComp elt [⟨tg, iter, ifs, 0⟩] scope pos) (some (.Name y py)) spos.line X.env = pure true) (hi : DI X (fun _ => E) tg iter fi) (ok : BlkOk X.N X.env.scope scope own)
    (hg : ∀ (s : Shared) (H : Hp) (C : Addr) (cl : List (Str × Addr)) (fp : List Addr), DG (X.blk s H scope (compEnvC scope cl C X.env) fp) tg g js) (ht : ∀ (s : Shared) (H : Hp) (C : Addr) (cl : List (Str × Addr)) (fp : List Addr), DTs (X.blk s H scope (compEnvC scope cl C X.env) fp) ifs tt)
    (he : ∀ (s : Shared) (H : Hp) (C : Addr) (cl : List (Str × Addr)) (fp : List Addr), DE (X.blk s H scope (compEnvC scope cl C X.env) fp) (fun _ => E0) elt te) (hjs : ∀ j ∈ js, j ∈ own.map (·.2) := by decide) (hs : ∀ x, foldedSetIterable iter X.env x = pure x := by intro _; rfl) :
    DS X E (.Assign [.Name y py] (.ListComp elt [⟨tg, iter, ifs, 0⟩] scope pos) spos) (fSet i (fLc fi g tt te (own.map (·.2)))) :=
  ps_w (ps_setLc hc hN hy hyl hsw hi ok hg ht he hs) fun D σ H ⟨F, Γ, M, N, R, q, L⟩ => li_lc hjs ⟨F, Γ, M, _, N.ex, R, q, L.ex, fun d M1 v H1 h g1 R1 i1 => L.nx _ _ _ _ h g1 ((R.go g1 R1).set i i1)⟩
end
end Dl

set_option Elab.async false
set_option linter.all false
set_option maxRecDepth 100000
set_option maxHeartbeats 2000000
/-! D4: defs and calls by data (no guard stands around: for repr), and the end of a law's row. -/
namespace Dl
open PySem PySem.Spec PyProof.Rows L2

/-! ### a def where no guard stands around -/
structure FnG (P : Program) (w : World) (K : PySem.W.Frag) (mg : Str → Option Value) (base : Heap) (CX : CXT) (k : Nat) (f : Addr) (fd : FuncData) (ps : List Str) (sp : Sp) : Prop where
  len : ∀ vs H Q E, sp vs H Q E → vs.length = ps.length
  run : ∀ (A : Around) (outer : List Env) (s : Shared) (H : Hp) (args : Args) (us : List Value) (vs : List V) (Q : VK) (E : XK), A.guards = some [] → Room k A →
    Env0 P w K mg base A outer s H → BindsTo s fd args (ps.zip us) → Vals vs us → sp vs H Q E → codeAny (model P w) A (.call (.ref f) args) (CR CX outer P w H s Q E) s
section
variable {P : Program} {w : World} {K : PySem.W.Frag} {mg : Str → Option Value} {base : Heap} {CX : CXT}
theorem FnG.mono {j k : Nat} {f : Addr} {fd : FuncData} {ps : List Str} {sp : Sp} (F : FnG P w K mg base CX j f fd ps sp) (h : j ≤ k) : FnG P w K mg base CX k f fd ps sp :=
  ⟨F.len, fun A outer s H args us vs Q E hg hr => F.run A outer s H args us vs Q E hg (hr.mono h)⟩
theorem fnG_of {x qual : Str} {params : Arguments} {body : List Stmt} {scope : Scope} {dvs : List V} {kws : List (Str × V)} {f : Addr} {fd : FuncData} {N ps : List Str} {k : Nat} {sp : Sp}
    (F : FunD K x qual params body scope dvs kws f fd) (S : FnScope N ps scope) (len : ∀ vs H Q E, sp vs H Q E → vs.length = ps.length)
    (hbody : ∀ (cdv : Value) (A : Around) (outer : List Env) (s : Shared) (H : Hp) (vs : List V) (Q : VK) (E : XK), A.guards = some [] → Room k (A.deeper (envOfC qual scope s.heap.objs.size f cdv)) → sp vs H Q E →
      ∃ t, PSs (cxOf CX P w K mg base N qual scope f cdv A outer s H E) body t ∧ t { nx := fun _ H' => Q .non H', rt := Q } (L2.start N vs) H) : FnG P w K mg base CX (k + 1) f fd ps sp := by
  obtain ⟨oc, od, dV, kV, doc, pm, an, cdv, ct, osl, rfl, lk, hcd, _, _⟩ := F.ex
  refine ⟨len, ?_⟩
  intro A outer s H args us vs Q E hg hr e0 hb r hsp
  have KX : K.In s.heap := e0.mod.kin.keeps fun b o e => (e0.bs b o e).1
  have hkind : ∀ y ∈ ps.zip us, scope.names.lookup y.1 = some .local ∨ (scope.names.lookup y.1 = some .cell ∧ ((cellsFrom (s.heap.objs.size + 1) scope.names []).lookup y.1).isSome = true) := by
    rintro ⟨n, v⟩ hy
    exact (S.par n (List.of_mem_zip hy).1).imp id fun q => ⟨q, PySem.W.cellsFrom_some _ _ _ (.inl q)⟩
  have lim := e0.mod.nolimit.keeps fun b o e => (e0.bs b o e).1
  refine codeAny_call_function hr.depth (KX _ _ lk) rfl S.co S.gen rfl (PySem.W.codeRec_of KX hcd) (hb _ _ _ _ ?_)
  refine wpAny_newFunctionEnv_cells S.kind hkind ?_
  rintro env rfl s1 x
  obtain ⟨t, ht, hq⟩ := hbody cdv A outer s H vs Q E hg (hr.deeper _) hsp
  refine ⟨lim.keeps x.toInCall.keep, codeAny_func (wpAny_mono (ht.run [] s1 (L2.start N vs) H _ (inv_start S hr.hd e0 (len _ _ _ _ hsp) r x) hq) ?_ fun e s' hs => hs)⟩
  intro fl s' hs
  match fl, hs with
  | .ret u, ⟨v, _, H', J, rv, q⟩ => exact ⟨v, H', J.os, J.bare, J.base, J.hok, rv, q⟩
  | .next, ⟨_, H', J, q⟩ => exact ⟨.non, H', J.os, J.bare, J.base, J.hok, rfl, q⟩
  | .brk, ⟨_, _, _, q⟩ => exact q.elim
  | .cont, ⟨_, _, _, q⟩ => exact q.elim
end
section
variable {X : Cx} {CX : CXT} {k : Nat} {f : Addr} {fd : FuncData} {ps ks : List Str} {sp : Sp} {dvs : List V} {ds : List Value} {E : XK} {x : Str} {p pos : Pos} {e : Expr} {es : List Expr} {t tk : TA} {kws : List Keyword}
/-- a call, from how it ends -/
theorem end_call {pins : List (Addr × Obj)} {σ : L2.St} {H : Hp} {s : Shared} {Q : VK} {us : List Value} {kw : List (Str × Value)} (hx : Passes CX X E) (I : Inv X pins σ H s)
    (h : codeAny (model X.prog X.w) X.A (.call (.ref f) ⟨us, kw⟩) (CR CX X.stack X.prog X.w H s Q E) s) : wpAny (model X.prog X.w) X.A (call (.ref f) us kw) (EP X pins σ Q) X.xe s := by
  refine wpAny_call (codeAny_mono h fun r s' hq => ?_)
  cases r with
  | error e => exact hx pins σ H s e s' I hq
  | ok fl => cases fl <;> first | exact I.after hq | exact False.elim hq
theorem run_fnG {pins : List (Addr × Obj)} {σ : L2.St} {H : Hp} {s : Shared} {Q : VK} {us : List Value} {vs : List V} (F : FnG X.prog X.w X.K X.mg X.base CX k f fd ps sp) (hgd : X.A.guards = some []) (hr : Room k X.A) (hb : Binds X.K fd ps ds) (hd : Vals dvs ds) (hx : Passes CX X E)
    (I : Inv X pins σ H s) (r : Vals vs us) (h : sp (vs ++ dvs) H Q E) : wpAny (model X.prog X.w) X.A (call (.ref f) us) (EP X pins σ Q) X.xe s := by
  have r2 := r.append hd
  have hl := r2.length.symm.trans (F.len _ _ _ _ h)
  exact end_call hx I (F.run X.A X.stack s H ⟨us, []⟩ (us ++ ds) (vs ++ dvs) Q E hgd hr I.env0 (hb s us I.kIn hl) r2 h)
theorem pe_callG (F : FnG X.prog X.w X.K X.mg X.base CX k f fd ps sp) (hgd : X.A.guards = some []) (hr : Room k X.A) (hg : Gl X x) (hm : X.mg x = some (.ref f)) (hk : PySem.W.keepIn X.K (.ref f) = true) (hb : Binds X.K fd ps ds) (hd : Vals dvs ds) (hx : Passes CX X E)
    (ha : PA X (e :: es) t) (hdb : (x == ("__debug__" : Str)) = false := by decide) (he : starEach (e :: es) X.env = (false, eval e X.env) :: starEach es X.env := by rfl) (hpl : (backTo pos (starEach es X.env)).any (·.1) = false := by rfl) :
    PE X (.Call (.Name x p) (e :: es) [] pos) (tCall sp dvs E t) := by
  constructor
  intro pins s σ H Q I h
  refine wpAny_Call_Name_kw (ld_glob I hg hm (PySem.W.callWith_K (h₀ := X.base) I.ok.mod.kin hk (thn (ha.run pos pins s σ H _ I h) ?_) he hpl) hdb)
  rintro us s1 ⟨vs, H1, I1, r, q⟩
  exact ⟨I1.kIn, run_fnG F hgd hr hb hd hx I1 r q⟩
theorem pe_callG0 (F : FnG X.prog X.w X.K X.mg X.base CX k f fd ps sp) (hgd : X.A.guards = some []) (hr : Room k X.A) (hg : Gl X x) (hm : X.mg x = some (.ref f)) (hk : PySem.W.keepIn X.K (.ref f) = true) (hb : Binds X.K fd ps ds) (hd : Vals dvs ds) (hx : Passes CX X E)
    (hdb : (x == ("__debug__" : Str)) = false := by decide) : PE X (.Call (.Name x p) [] [] pos) (tCall sp dvs E tNil) :=
  ⟨fun pins s σ H Q I h => wpAny_Call_Name_kw (ld_glob I hg hm (PySem.W.callWith_K0 I.kIn hk (run_fnG (us := []) F hgd hr hb hd hx I .nil h)) hdb)⟩
/-- f(k = v, ..), keywords alone -/
theorem pe_callGK0 {g : List Value → List Value → List Value} {gV : List V → List V → List V} (F : FnG X.prog X.w X.K X.mg X.base CX k f fd ps sp) (hgd : X.A.guards = some []) (hr : Room k X.A) (hg : Gl X x) (hm : X.mg x = some (.ref f)) (hk : PySem.W.keepIn X.K (.ref f) = true) (hb : KBinds X.K fd ps ks g gV) (hx : Passes CX X E)
    (hkw : PK X kws tk) (hall : (backToKw pos (keywordEach kws X.env)).all (·.1.isSome) = true := by rfl) (hks : (backToKw pos (keywordEach kws X.env)).filterMap (·.1) = ks := by rfl)
    (hdb : (x == ("__debug__" : Str)) = false := by decide) (hpl : ((backTo pos (starEach [] X.env)).any (·.1) || (backToKw pos (keywordEach kws X.env)).any (·.1.isNone)) = false := by rfl) :
    PE X (.Call (.Name x p) [] kws pos) (tCallK sp gV E tNil tk) := by
  constructor
  intro pins s σ H Q I h
  refine wpAny_Call_Name_kw (ld_glob I hg hm (PySem.W.callWith_KW0 (h₀ := X.base) I.ok.mod.kin hk hall (thn (hkw.run pos pins s σ H _ I h) ?_) hpl) hdb)
  rintro ws s2 ⟨zs, H2, I2, rz, q2⟩
  refine ⟨I2.kIn, ?_⟩
  rw [hks]
  have r2 := hb.rel (vs := []) (us := []) .nil rz
  have hl := r2.length.symm.trans (F.len _ _ _ _ q2)
  exact end_call hx I2 (F.run X.A X.stack s2 H2 ⟨[], ks.zip ws⟩ _ _ Q E hgd hr I2.env0 (hb.to s2 [] ws I2.kIn hl) r2 q2)
end

/-! ### promises by data, of defs that let no exception out -/
def spD (K : PySem.W.Frag) (pf : FN) : Sp := fun vs H Q _ => ∃ F ds M k, RepM K F H M ∧ IsVs K (dm F M) H vs ds ∧ pf ds M k ∧ Link K F H M k Q
def startG (N : List Str) (ds : List D) : GE := ds.map some ++ List.replicate (N.length - ds.length) none
theorem rep_start {K : PySem.W.Frag} {F : Addr → Prop} {H : Hp} {M : MS} {N : List Str} {vs : List V} {ds : List D} (R : RepM K F H M) (h : IsVs K (dm F M) H vs ds) : Rep K F (L2.start N vs) H (startG N ds) M := by
  refine ⟨fun i d e => ?_, ?_, R⟩
  · unfold startG at e
    unfold L2.start
    have hl := h.length
    by_cases hi : i < ds.length
    · rw [List.getElem?_append_left (by rw [List.length_map]; exact hi), List.getElem?_map, List.getElem?_eq_getElem hi] at e
      have e1 : ds[i] = d := Option.some.inj (Option.some.inj e)
      obtain ⟨v, h1, h2⟩ := h.get (i := i) (d := d) (by rw [List.getElem?_eq_getElem hi, e1])
      refine ⟨v, ?_, h2⟩
      rw [List.getElem?_append_left (by rw [List.length_map, hl]; exact hi), List.getElem?_map, h1]
      rfl
    · rw [List.getElem?_append_right (by rw [List.length_map]; omega), List.getElem?_replicate] at e
      split at e
      · cases e
      · cases e
  · unfold startG L2.start
    rw [List.length_append, List.length_append, List.length_map, List.length_map, List.length_replicate, List.length_replicate, h.length]
abbrev ndOf (k : KD) (kx : KX) : Nd := { nx := fun _ M => k .non M, rt := k, ex := kx }
section
variable {P : Program} {w : World} {K : PySem.W.Frag} {mg : Str → Option Value} {base : Heap}
/-- THE RULE of a def: its body's term, and what is left to be shown of data -/
theorem okD {x qual : Str} {params : Arguments} {body : List Stmt} {scope : Scope} {dvs : List V} {kws : List (Str × V)} {f : Addr} {fd : FuncData} {N ps : List Str} {k : Nat} {pf : FN}
    (F : FunD K x qual params body scope dvs kws f fd) (S : FnScope N ps scope) (len : ∀ ds M k, pf ds M k → ds.length = ps.length)
    (hb : ∀ (cdv : Value) (A : Around) (outer : List Env) (s : Shared) (H : Hp) (E : XK), A.guards = some [] → Room k (A.deeper (envOfC qual scope s.heap.objs.size f cdv)) →
      ∃ g, DSs (cxOf CX0 P w K mg base N qual scope f cdv A outer s H E).nox E0 body g ∧ ∀ ds M k, pf ds M k → g (ndOf k noX) (startG N ds) M) : FnG P w K mg base CX0 (k + 1) f fd ps (spD K pf) := by
  refine fnG_of F S (fun vs H Q E ⟨Fr, ds, M, k, R, hv, h, L⟩ => hv.length.trans (len _ _ _ h)) fun cdv A outer s H vs Q E hg hr ⟨Fr, ds, M, k, R, hv, h, L⟩ => ?_
  obtain ⟨g, hd, q⟩ := hb cdv A outer s H E hg hr
  refine ⟨_, PSs.nox hd, Fr, startG N ds, M, _, rep_start R hv, q ds M k h, ⟨fun Γ' M' σ' H' h' g' R' => ?_, L, fun _ _ _ _ (z : False) _ _ => z.elim, fun _ _ _ _ (z : False) _ _ => z.elim, linkX0⟩⟩
  exact L .non M' .non H' h' g' R'.mem .non
end
def fCall (pf : FN) (dds : List D) (g : FA) : FE := fun Γ M k kx => g Γ M (fun ds M1 => pf (ds ++ dds) M1 k) kx
section
variable {X : Cx} {k : Nat} {f : Addr} {fd : FuncData} {ps ks : List Str} {pf : FN} {dvs : List V} {dds : List D} {ds : List Value} {E : L2.St → XK} {x : Str} {p pos : Pos} {e : Expr} {es : List Expr} {g : FA} {kws : List Keyword}
theorem li_call {K : PySem.W.Frag} {σ : L2.St} {H : Hp} {Q : VK} (hdd : ∀ P H, IsVs K P H dvs dds) (h : liE K E (fCall pf dds g) σ H Q) : tCall (spD K pf) dvs E0 (liA K E g) σ H Q := by
  obtain ⟨F, Γ, M, k, kx, R, q, LX, L⟩ := h
  exact ⟨F, Γ, M, _, kx, R, q, LX, fun xs M1 vs H1 h1 g1 R1 i1 => ⟨F, xs ++ dds, M1, k, R1, i1.append (hdd _ _), h1, L.go g1⟩⟩
theorem de_call (F : FnG X.prog X.w X.K X.mg X.base CX0 k f fd ps (spD X.K pf)) (hgd : X.A.guards = some []) (hr : Room k X.A) (hg : Gl X x) (hm : X.mg x = some (.ref f)) (hk : PySem.W.keepIn X.K (.ref f) = true) (hb : Binds X.K fd ps ds) (hd : Vals dvs ds) (hdd : ∀ P H, IsVs X.K P H dvs dds)
    (ha : DA X E (e :: es) g) (hdb : (x == ("__debug__" : Str)) = false := by decide) (he : starEach (e :: es) X.env = (false, eval e X.env) :: starEach es X.env := by rfl) (hpl : (backTo pos (starEach es X.env)).any (·.1) = false := by rfl) :
    DE X E (.Call (.Name x p) (e :: es) [] pos) (fCall pf dds g) := pe_w (pe_callG F hgd hr hg hm hk hb hd pass0 ha hdb he hpl) fun _ _ _ => li_call hdd
/-- keywords -/
structure DK (X : Cx) (E : L2.St → XK) (kws : List Keyword) (f : FA) : Prop where
  pk : PK X kws (liA X.K E f)
theorem dk_nil : DK X E [] fNil := ⟨⟨fun pos pins s σ H Q I ⟨F, Γ, M, k, kx, R, q, _, L⟩ => (pk_nil (X := X)).run pos pins s σ H Q I (L [] M [] H q (Go.refl _ _) R.mem .nil)⟩⟩
theorem dk_cons {nm : Option Str} {kpos : Pos} {fe : FE} (ha : DE X E e fe) (hr : DK X E kws g) : DK X E (⟨nm, e, kpos⟩ :: kws) (fCons fe g) :=
  ⟨⟨fun pos pins s σ H Q I h => (pk_cons ha hr.pk).run pos pins s σ H Q I (by
    obtain ⟨F, Γ, M, k, kx, R, q, LX, L⟩ := h
    refine ⟨F, Γ, M, _, kx, R, q, LX, fun x M1 v H1 hx g1 R1 i1 => ?_⟩
    exact ⟨F, Γ, M1, _, kx, R.go g1 R1, hx, LX.go g1, fun xs M2 vs H2 h2 g2 R2 i2 => L _ _ _ _ h2 (g1.trans g2) R2 (.cons (IsV.kp g2.to_kp _ _ i1) i2)⟩)⟩⟩
def fCallK0 (pf : FN) (gD : List D → List D) (g : FA) : FE := fun Γ M k kx => g Γ M (fun ds M1 => pf (gD ds) M1 k) kx
theorem de_callK0 {gg : List Value → List Value → List Value} {gV : List V → List V → List V} {gD : List D → List D} (F : FnG X.prog X.w X.K X.mg X.base CX0 k f fd ps (spD X.K pf)) (hgd : X.A.guards = some []) (hr : Room k X.A) (hg : Gl X x) (hm : X.mg x = some (.ref f)) (hk : PySem.W.keepIn X.K (.ref f) = true)
    (hb : KBinds X.K fd ps ks gg gV) (hgD : ∀ P H vs ds, IsVs X.K P H vs ds → IsVs X.K P H (gV [] vs) (gD ds)) (hkw : DK X E kws g)
    (hall : (backToKw pos (keywordEach kws X.env)).all (·.1.isSome) = true := by rfl) (hks : (backToKw pos (keywordEach kws X.env)).filterMap (·.1) = ks := by rfl)
    (hdb : (x == ("__debug__" : Str)) = false := by decide) (hpl : ((backTo pos (starEach [] X.env)).any (·.1) || (backToKw pos (keywordEach kws X.env)).any (·.1.isNone)) = false := by rfl) :
    DE X E (.Call (.Name x p) [] kws pos) (fCallK0 pf gD g) := pe_w (pe_callGK0 F hgd hr hg hm hk hb pass0 hkw.pk hall hks hdb hpl) fun σ H Q h => by
  obtain ⟨F, Γ, M, k, kx, R, q, LX, L⟩ := h
  exact ⟨F, Γ, M, _, kx, R, q, LX, fun xs M1 vs H1 h1 g1 R1 i1 => ⟨F, gD xs, M1, k, R1, hgD _ _ _ _ i1, h1, L.go g1⟩⟩
end

/-! ### the end of a law's row -/
theorem law_callG {P : Program} {w : World} {K : PySem.W.Frag} {mg mb : Str → Option Value} {k : Nat} {fa a : Addr} {fd : FuncData} {x : Str} {pf : FN} {s₁ : Shared} {vs : List Value} {ns : List Int}
    (KX : K.In s₁.heap) (hns : s₁.heap.Ns mainGlobals mg) (hb : s₁.heap.Ns builtinsNs mb) (hbb : ∀ x : Str, x ≠ "__name__" → mb x = bootBuiltins x) (hlim : s₁.heap.NoLimit) (hg : s₁.gens = #[])
    (ha : s₁.heap.get? a = some { cls := .type "list", data := .seq vs.toArray }) (hi : IntsAre vs ns) (hl : ns.length ≤ sizeLine) (hr : Room k callerA)
    (F : ∀ base : Heap, K.In base → base.Ns mainGlobals mg → FnG P w K mg base CX0 k fa fd [x] (spD K pf)) (hbind : ∀ (s : Shared) (u : Value), BindsTo s fd ⟨[u], []⟩ [(x, u)])
    (hsp : pf [.scr ns] M0 (fun d _ => d = .bl true)) :
    codeAny (model P w) callerA (.call (.ref fa) ⟨[.ref a], []⟩) (fun r s' => r = .ok (.ret (.bool true)) ∧ OldK s₁.heap s'.heap ∧ s'.os = s₁.os ∧ AllBare s'.gens) s₁ := by
  have rv := vals_ints hi
  -- the script is tracked, known to its object, unless the written part holds it
  have core : ∀ H : Hp, (∀ b u, H b = some u → b = a ∧ K.lookup a = none ∧ u = .frz { cls := .type "list", data := .seq vs.toArray } (.lst (ns.map V.int))) → SqL K H a (ns.map V.int) → HOk P w H s₁.heap →
      codeAny (model P w) callerA (.call (.ref fa) ⟨[.ref a], []⟩) (fun r s' => r = .ok (.ret (.bool true)) ∧ OldK s₁.heap s'.heap ∧ s'.os = s₁.os ∧ AllBare s'.gens) s₁ := by
    intro H hH hS hok
    have free : ∀ {b : Addr} {o : Obj}, s₁.heap.get? b = some o → (b = a → K.lookup a = none → False) → H b = none := fun {b o} e n => by
      cases q : H b with
      | none => rfl
      | some u => exact ((hH b u q).elim fun e1 e2 => n e1 e2.1).elim
    have nsK : ∀ {b : Addr} {m : Str → Option Value}, s₁.heap.Ns b m → (hidT s₁.heap H).Ns b m := fun {b m} ⟨o, es, ep, e, d, r⟩ => by
      refine ⟨o, es, ep, hidT_get e (free e fun z _ => ?_), d, r⟩
      rw [z, ha] at e
      cases e
      cases d
    have hKb : K.In (hidT s₁.heap H) := fun b o e => hidT_get (KX b o e) (free (KX b o e) fun z n => by rw [z, n] at e; cases e)
    have hM : Mod K mg (hidT s₁.heap H) := ⟨hKb, nsK hns, ⟨mb, nsK hb, hbb⟩, hlim.imp fun mc z => ⟨nsK z.1, z.2⟩⟩
    have e0 : Env0 P w K mg (hidT s₁.heap H) callerA [] s₁ H := ⟨rfl, hM, fun b o e => of_hidT e, Nat.le_of_eq (hidT_size _ _), trivial, fun b z => absurd (show b ∈ ([] : List Addr) from z) (by simp), hok, .of_eq hg⟩
    have R : RepM K (fun _ => False) H Dl.M0 := ⟨fun b c e => (by cases e), fun _ z => z.elim, fun _ z => z.elim⟩
    have hv : IsV K (dm (fun _ => False) Dl.M0) H (.ref a) (.scr ns) := by
      rcases hS with hS | hS
      · exact .scr (.inl ⟨fun z => z.elim id fun q => q rfl, hS⟩)
      · exact .scr (.inr (.inr hS))
    refine codeAny_mono ((F _ hKb (nsK hns)).run callerA [] s₁ H ⟨[.ref a], []⟩ [.ref a] [.ref a] (fun v _ => v = .bl true) (fun _ _ _ => False) rfl hr e0 (hbind s₁ (.ref a)) (.cons rfl .nil) ⟨_, _, _, _, R, .cons hv .nil, hsp, fun d M' v H' hd _ _ i => ?_⟩) fun r s' h => ?_
    · rw [hd] at i
      cases i
      rfl
    match r, h with
    | .ok (.ret u), ⟨v, H', os, bare, un, hok', r', q⟩ =>
      obtain rfl : v = .bl true := q
      obtain rfl : u = Value.bool true := r'
      refine ⟨rfl, OldK.of_keep fun b o e => ?_, os, bare⟩
      cases q : H b with
      | none => exact un.keep b o e q (by intro z; exact absurd (show b ∈ ([] : List Addr) from z) (by simp)) (by simp)
      | some u =>
        obtain ⟨_, _, z⟩ := hH b u q
        rw [z] at q
        have e1 := (hok b _ q).1
        have e2 := (hok' b _ (un.frzs b _ _ q)).1
        rw [e] at e1
        rw [e2, e1]
    | .error e, h => exact h.elim
  cases hk : K.lookup a with
  | some o =>
    have e := KX a o hk
    rw [ha] at e
    cases e
    exact core (fun _ => none) (fun b u z => by cases z) (.inr ⟨_, vs.toArray, _, hk, rfl, rfl, rfl, by rw [List.size_toArray, hi.length]; exact hl, by simpa using rv⟩) fun b u z => by cases z
  | none =>
    refine core (fun b => if b = a then some (.frz { cls := .type "list", data := .seq vs.toArray } (.lst (ns.map V.int))) else none) (fun b u z => ?_) (.inl (.inr ⟨{ cls := .type "list", data := .seq vs.toArray }, if_pos rfl⟩)) fun b u z => ?_
    · by_cases hb : b = a
      · exact ⟨hb, hk, (Option.some.inj ((if_pos hb).symm.trans z)).symm⟩
      · cases (if_neg hb).symm.trans z
    · by_cases hb : b = a
      · cases (if_pos hb).symm.trans z
        subst hb
        exact ⟨ha, by rw [List.length_map]; exact hl, vs, _, rv, ha⟩
      · cases (if_neg hb).symm.trans z
theorem walkG {l : PySem.W.OpenLaw} {n k : Nat} {q : Program} {loose : List Str} {XP : (Str → Option Value) → Heap → Prop} {YP : World → Heap → Prop} {d : DefRec} {x : Str}
    (hn : l.most = some n) (hn2 : n ≤ sizeLine) (hdf : d.params.defaults = []) (hr : Room k callerA)
    (F : ∀ (w : World) (mg : Str → Option Value) (fa : Addr) (h : Heap), YP w h → h.Ns mainGlobals mg → mg d.name = some (.ref fa) →
      ∃ (K : PySem.W.Frag) (fd : FuncData) (pf : FN), K.In h ∧ (∀ (s : Shared) (u : Value), BindsTo s fd ⟨[u], []⟩ [(x, u)]) ∧ (∀ ns : List Int, ns.length ≤ n → pf [.scr ns] M0 (fun d _ => d = .bl true)) ∧
        ∀ base : Heap, K.In base → base.Ns mainGlobals mg → FnG l.prog w K mg base CX0 k fa fd [x] (spD K pf)) :
    PySem.W.WalkO q loose XP YP l.row.toRowW d [] (fun f vs => PySem.call f vs) := by
  refine Att.attach_call hn hdf fun w s₀ s₁ mg mb fa o pm cd doc a vs ns G Y ho hd hcd hmg hobj hints hlen hg => ?_
  obtain ⟨K, fd, pf, KX, hb, hsp, hF⟩ := F w mg fa _ Y G.T.g hmg
  exact law_callG KX G.T.g G.T.b G.T.builtins G.T.nolimit hg hobj hints (Nat.le_trans hlen hn2) hr hF hb (hsp ns hlen)
end Dl

set_option Elab.async false
set_option linter.all false
set_option maxRecDepth 100000
set_option maxHeartbeats 2000000
/-! D5: the built-in operations by data. -/
namespace Dl
open PySem PySem.Spec PyProof.Rows L2

/-! ### operations on what is read through the changing objects -/
def OpW (K : PySem.W.Frag) (r : R2) (g : F2) : Prop := ∀ F H M v w x y k Q, RepM K F H M → IsR K F M H v x → IsR K F M H w y → g x y M k → Link K F H M k Q → r v w H Q
def wOp (g : F2) : F2 := fun x y M k => g (vw M x) (vw M y) M k
theorem opd_w {K : PySem.W.Frag} {r : R2} {g : F2} (h : OpW K r g) : OpD K r (wOp g) := fun F H M v w x y k Q R hv hw hg L => h F H M v w _ _ k Q R (hv.rd R) (hw.rd R) hg L
inductive IsRs (K : PySem.W.Frag) (F : Addr → Prop) (M : MS) (H : Hp) : List V → List D → Prop
  | nil : IsRs K F M H [] []
  | cons {v : V} {d : D} {vs : List V} {ds : List D} : IsR K F M H v d → IsRs K F M H vs ds → IsRs K F M H (v :: vs) (d :: ds)
theorem IsVs.rd {K : PySem.W.Frag} {F : Addr → Prop} {H : Hp} {M : MS} (R : RepM K F H M) : ∀ {vs : List V} {ds : List D}, IsVs K (dm F M) H vs ds → IsRs K F M H vs (ds.map (vw M))
  | _, _, .nil => .nil
  | _, _, .cons h t => .cons (h.rd R) (t.rd R)
def CallW (K : PySem.W.Frag) (r : List V → Hp → VK → Prop) (g : FN) : Prop := ∀ F H M vs ds k Q, RepM K F H M → IsRs K F M H vs ds → g ds M k → Link K F H M k Q → r vs H Q
def wCB (g : FN) : FN := fun ds M k => g (ds.map (vw M)) M k
theorem cd_w {K : PySem.W.Frag} {r : List V → Hp → VK → Prop} {g : FN} (h : CallW K r g) : CallD K r (wCB g) := fun F H M vs ds k Q R hv hg L => h F H M vs _ k Q R (hv.rd R) hg L

/-! ### ints -/
def o2I (C : Int → Int → Prop) (r : Int → Int → D) : F2 := fun x y M k => match x, y with
  | .int i, .int j => C i j ∧ k (r i j) M
  | _, _ => False
theorem opd_I {K : PySem.W.Frag} {C : Int → Int → Prop} {g : Int → Int → V} {r : Int → Int → D} (h : ∀ P H i j, IsV K P H (g i j) (r i j)) : OpD K (rI C g) (o2I C r) := by
  intro F H M v w x y k Q R hv hw hg L
  cases hv with
  | int i =>
    cases hw with
    | int j => exact ⟨i, j, rfl, rfl, hg.1, L.now R hg.2 (h _ _ _ _)⟩
    | _ => exact hg.elim
  | _ => exact hg.elim
theorem opd_I0 {K : PySem.W.Frag} {g : Int → Int → V} {r : Int → Int → D} (h : ∀ P H i j, IsV K P H (g i j) (r i j)) : OpD K (rI0 g) (o2I (fun _ _ => True) r) := by
  intro F H M v w x y k Q R hv hw hg L
  cases hv with
  | int i =>
    cases hw with
    | int j => exact ⟨i, j, rfl, rfl, L.now R hg.2 (h _ _ _ _)⟩
    | _ => exact hg.elim
  | _ => exact hg.elim
abbrev oSub : F2 := o2I (fun _ _ => True) fun i j => .int (i - j)
abbrev oMul : F2 := o2I CMul fun i j => .int (i * j)
abbrev oMod : F2 := o2I (fun _ j => 0 < j) fun i j => .int (i % j)
abbrev oDiv : F2 := o2I CDivW fun i j => .int (i / j)
abbrev oPow : F2 := o2I CPow fun i j => .int (i ^ j.toNat)
abbrev oLe : F2 := o2I (fun _ _ => True) fun i j => .bl (decide (i ≤ j))
abbrev oGt : F2 := o2I (fun _ _ => True) fun i j => .bl (decide (j < i))
abbrev oGe : F2 := o2I (fun _ _ => True) fun i j => .bl (decide (j ≤ i))
def o1I (r : Int → D) : F1 := fun x M k => match x with
  | .int i => k (r i) M
  | _ => False
section
variable {X : Cx} {E : L2.St → XK} {pos : Pos} {a b : Expr} {fa fb : FE}
theorem d_sub (ha : DE X E a fa) (hb : DE X E b fb) : DE X E (.BinOp a .Sub b pos) (fOp oSub fa fb) := de_op op_sub (opd_I0 fun _ _ _ _ => .int _) ha hb
theorem d_mul (ha : DE X E a fa) (hb : DE X E b fb) : DE X E (.BinOp a .Mult b pos) (fOp oMul fa fb) := de_op op_mul (opd_I fun _ _ _ _ => .int _) ha hb
theorem d_mod (ha : DE X E a fa) (hb : DE X E b fb) : DE X E (.BinOp a .Mod b pos) (fOp oMod fa fb) := de_op op_mod (opd_I fun _ _ _ _ => .int _) ha hb
theorem d_div (ha : DE X E a fa) (hb : DE X E b fb) : DE X E (.BinOp a .FloorDiv b pos) (fOp oDiv fa fb) := de_op op_fdivW (opd_I fun _ _ _ _ => .int _) ha hb
theorem d_pow (ha : DE X E a fa) (hb : DE X E b fb) : DE X E (.BinOp a .Pow b pos) (fOp oPow fa fb) := de_op op_pow (opd_I fun _ _ _ _ => .int _) ha hb
theorem d_le (ha : DE X E a fa) (hb : DE X E b fb) : DE X E (.Compare a [.LtE] [b] pos) (fOp oLe fa fb) := de_cmp op_le (opd_I0 fun _ _ _ _ => .bl _) ha hb (nomark _)
theorem d_gt (ha : DE X E a fa) (hb : DE X E b fb) : DE X E (.Compare a [.Gt] [b] pos) (fOp oGt fa fb) := de_cmp op_gt (opd_I0 fun _ _ _ _ => .bl _) ha hb (nomark _)
theorem d_ge (ha : DE X E a fa) (hb : DE X E b fb) : DE X E (.Compare a [.GtE] [b] pos) (fOp oGe fa fb) := de_cmp op_ge (opd_I0 fun _ _ _ _ => .bl _) ha hb (nomark _)
theorem t_le (ha : DE X E a fa) (hb : DE X E b fb) : DT X E (.Compare a [.LtE] [b] pos) (fTest (fOp oLe fa fb)) := dt_cmp op_le (opd_I0 fun _ _ _ _ => .bl _) ha hb (nomark _)
theorem t_gt (ha : DE X E a fa) (hb : DE X E b fb) : DT X E (.Compare a [.Gt] [b] pos) (fTest (fOp oGt fa fb)) := dt_cmp op_gt (opd_I0 fun _ _ _ _ => .bl _) ha hb (nomark _)
theorem t_ge (ha : DE X E a fa) (hb : DE X E b fb) : DT X E (.Compare a [.GtE] [b] pos) (fTest (fOp oGe fa fb)) := dt_cmp op_ge (opd_I0 fun _ _ _ _ => .bl _) ha hb (nomark _)
theorem t_leLe {c : Expr} {fc : FE} (ha : DE X E a fa) (hb : DE X E b fb) (hc : DE X E c fc) (hm : lastMarks [.LtE, .LtE] [b, c] = false := by with_unfolding_all rfl) : DT X E (.Compare a [.LtE, .LtE] [b, c] pos) (fTest (fChain oLe oLe fa fb fc)) :=
  dt_chain op_le (opd_I0 fun _ _ _ _ => .bl _) op_le (opd_I0 fun _ _ _ _ => .bl _) ha hb hc hm
theorem d_neg (ha : DE X E a fa) : DE X E (.UnaryOp .USub a pos) (fUn (o1I fun i => .int (-i)) fa) := de_un un_neg (fun F H M v x k Q R hv hg L => by
  cases hv with
  | int i => exact ⟨i, rfl, L.now R hg (.int _)⟩
  | _ => exact hg.elim) ha
end

theorem OpR.or {X : Cx} {f : Value → Value → Sem Value} {r r' : R2} (h : OpR X f r) (h' : OpR X f r') : OpR X f (fun x y H Q => r x y H Q ∨ r' x y H Q) := by
  intro pins s σ H x y v u Q I rx ry q
  rcases q with q | q
  · exact h pins s σ H x y v u Q I rx ry q
  · exact h' pins s σ H x y v u Q I rx ry q
theorem CallR.or {X : Cx} {f : Value} {r r' : List V → Hp → VK → Prop} (h : CallR X f r) (h' : CallR X f r') : CallR X f (fun xs H Q => r xs H Q ∨ r' xs H Q) := by
  intro pins s σ H xs us Q I r q
  rcases q with q | q
  · exact h pins s σ H xs us Q I r q
  · exact h' pins s σ H xs us Q I r q
/-- a + b: ints, texts, lists, tuples that are not empty -/
def oAdd : F2 := fun x y M k => match x, y with
  | .int i, .int j => k (.int (i + j)) M
  | .str i, .str j => i.length + j.length ≤ sizeLine ∧ k (.str (i ++ j)) M
  | .lst a, .lst b => a.length + b.length ≤ sizeLine ∧ k (.lst (a ++ b)) M
  | .tup a, .tup b => a ≠ [] ∧ a.length + b.length ≤ sizeLine ∧ k (.tup (a ++ b)) M
  | _, _ => False
/-- a < b: ints, texts -/
def oLt : F2 := fun x y M k => match x, y with
  | .int i, .int j => k (.bl (decide (i < j))) M
  | .str i, .str j => k (.bl (decide (i.cps.toList < j.cps.toList))) M
  | _, _ => False
section
variable {X : Cx} {E : L2.St → XK} {pos : Pos} {a b : Expr} {fa fb : FE}
theorem opw_add {K : PySem.W.Frag} : OpW K (fun x y H Q => rI0 (fun i j => .int (i + j)) x y H Q ∨ ((∃ i j, x = .str i ∧ y = .str j ∧ i.length + j.length ≤ sizeLine ∧ Q (.str (i ++ j)) H) ∨ (rCat x y H Q ∨ rCatT K x y H Q))) oAdd := fun F H M v w x y k Q R hv hw hg L => by
  cases hv with
  | int i =>
    cases hw with
    | int j => exact .inl ⟨i, j, rfl, rfl, L.now R hg (.int _)⟩
    | _ => exact hg.elim
  | str i =>
    cases hw with
    | str j => exact .inr (.inl ⟨i, j, rfl, rfl, hg.1, L.now R hg.2 (.str _)⟩)
    | _ => exact hg.elim
  | lst h1 h2 =>
    cases hw with
    | lst g1 g2 => exact .inr (.inr (.inl ⟨_, _, _, _, rfl, rfl, h1, g1, by rw [h2.length, g2.length]; exact hg.1, new_lst L R hg.2 (h2.append g2)⟩))
    | _ => exact hg.elim
  | tup h1 h2 =>
    cases hw with
    | tup g1 g2 =>
      refine .inr (.inr (.inr ⟨_, _, _, _, rfl, rfl, h1.sq, g1.sq, fun z => hg.1 ?_, by rw [h2.length, g2.length]; exact hg.2.1, fun z => ?_, fun _ => new_tup L R hg.2.2 (h2.append g2)⟩))
      · subst z
        cases h2
        rfl
      · subst z
        cases g2
        have q := hg.2.2
        rw [List.append_nil] at q
        exact L.now R q (.tup h1 h2)
    | _ => exact hg.elim
  | _ => exact hg.elim
theorem d_add (ha : DE X E a fa) (hb : DE X E b fb) : DE X E (.BinOp a .Add b pos) (fOp (wOp oAdd) fa fb) := de_op (OpR.or op_add (OpR.or op_add_str (OpR.or op_cat op_catT))) (opd_w opw_add) ha hb
theorem opd_lt {K : PySem.W.Frag} : OpD K (fun x y H Q => rI0 (fun i j => .bl (decide (i < j))) x y H Q ∨ ∃ i j, x = .str i ∧ y = .str j ∧ Q (.bl (decide (i.cps.toList < j.cps.toList))) H) oLt := fun F H M v w x y k Q R hv hw hg L => by
  cases hv with
  | int i =>
    cases hw with
    | int j => exact .inl ⟨i, j, rfl, rfl, L.now R hg (.bl _)⟩
    | _ => exact hg.elim
  | str i =>
    cases hw with
    | str j => exact .inr ⟨i, j, rfl, rfl, L.now R hg (.bl _)⟩
    | _ => exact hg.elim
  | _ => exact hg.elim
theorem d_lt (ha : DE X E a fa) (hb : DE X E b fb) : DE X E (.Compare a [.Lt] [b] pos) (fOp oLt fa fb) := de_cmp (OpR.or op_lt op_lt_str) opd_lt ha hb (nomark _)
theorem t_lt (ha : DE X E a fa) (hb : DE X E b fb) : DT X E (.Compare a [.Lt] [b] pos) (fTest (fOp oLt fa fb)) := dt_cmp (OpR.or op_lt op_lt_str) opd_lt ha hb (nomark _)
end

/-! ### is None -/
def oIsN (neg : Bool) : F2 := fun x y M k => y = .non ∧ match x with
  | .non => k (.bl (!neg)) M
  | _ => k (.bl neg) M
section
variable {X : Cx} {E : L2.St → XK} {pos : Pos} {a b : Expr} {fa fb : FE}
theorem d_isN (ha : DE X E a fa) (hb : DE X E b fb) : DE X E (.Compare a [.Is] [b] pos) (fOp (oIsN false) fa fb) := de_cmp op_isN (fun F H M v w x y k Q R hv hw hg L => by
  obtain ⟨rfl, hg⟩ := hg
  cases hw
  refine ⟨rfl, ?_⟩
  cases hv <;> exact L.now R hg (.bl _)) ha hb (nomark _)
theorem d_notN (ha : DE X E a fa) (hb : DE X E b fb) : DE X E (.Compare a [.IsNot] [b] pos) (fOp (oIsN true) fa fb) := de_cmp op_notN (fun F H M v w x y k Q R hv hw hg L => by
  obtain ⟨rfl, hg⟩ := hg
  cases hw
  refine ⟨rfl, ?_⟩
  cases hv <;> exact L.now R hg (.bl _)) ha hb (nomark _)
end

/-! ### data as the library's data: ==, repr -/
mutual
def toPy : D → PyData
  | .non => .none | .bl b => .bool b | .int i => .int i | .str x => .str x
  | .lst xs => .list (toPys xs) | .tup xs => .tuple (toPys xs) | .scr ns => .list (ns.map .int)
  | .dct _ => .none | .ty _ => .none | .ref _ => .none | .ins _ _ => .none | .exv _ _ => .none
def toPys : List D → List PyData
  | [] => []
  | x :: xs => toPy x :: toPys xs
end
mutual
/-- data without dicts -/
def plain : D → Bool
  | .non => true | .bl _ => true | .int _ => true | .str _ => true
  | .lst xs => plains xs | .tup xs => plains xs | .scr _ => true
  | .dct _ => false | .ty _ => false | .ref _ => false | .ins _ _ => false | .exv _ _ => false
def plains : List D → Bool
  | [] => true
  | x :: xs => plain x && plains xs
end
section
variable {X : Cx} {pins : List (Addr × Obj)} {σ : L2.St} {H : Hp} {s : Shared} {P : Addr → Prop}
theorem reads_ints {h : Heap} : ∀ (ns : List Int) (us : List Value), Vals (ns.map V.int) us → ∃ as, ReadsAll h us (ns.map PyData.int) as
  | [], _, r => by cases r; exact ⟨_, .nil⟩
  | n :: ns, _, r => by
    cases r with
    | cons r1 r2 =>
      obtain ⟨t, rfl⟩ := r1
      obtain ⟨as, q⟩ := reads_ints ns _ r2
      exact ⟨_, .cons (.int n t) q⟩
mutual
theorem IsV.reads (I : Inv X pins σ H s) : ∀ (d : D) (v : V) (u : Value), plain d = true → IsV X.K P H v d → RelV v u → ∃ as, Reads s.heap u (toPy d) as
  | .non, _, _, _, h, r => by cases h; cases r; exact ⟨_, .none⟩
  | .bl b, _, _, _, h, r => by cases h; cases r; exact ⟨_, .bool b⟩
  | .int i, _, _, _, h, r => by cases h; obtain ⟨t, rfl⟩ := r; exact ⟨_, .int i t⟩
  | .str x, _, _, _, h, r => by cases h; obtain ⟨t, rfl⟩ := r; exact ⟨_, .str x t⟩
  | .lst ds, _, _, hp, h, r => by
    cases h with
    | lst h0 h1 h2 =>
      cases r
      obtain ⟨its, rv, ⟨o, n, ho, hc, _, hd⟩, _⟩ := I.list (SqL.of h1)
      obtain ⟨as, q⟩ := IsVs.reads I ds _ its hp h2 rv
      exact ⟨_, .list ho hc hd q⟩
  | .scr ns, _, _, hp, h, r => by
    cases h with
    | scr h1 =>
      cases r
      obtain ⟨its, rv, ⟨o, n, ho, hc, _, hd⟩, _⟩ := I.list h1.sq
      obtain ⟨as, q⟩ := reads_ints ns _ rv
      exact ⟨_, .list ho hc hd q⟩
  | .tup ds, _, _, hp, h, r => by
    cases h with
    | tup h1 h2 =>
      cases r
      obtain ⟨its, rv, ⟨o, ho, hc, n, hd⟩, _⟩ := I.tuple h1.sq
      obtain ⟨as, q⟩ := IsVs.reads I ds _ its hp h2 rv
      exact ⟨_, .tuple ho hc hd q⟩
  | .dct _, _, _, hp, _, _ => absurd hp (by simp [plain])
  | .ty _, _, _, hp, _, _ => absurd hp (by simp [plain])
  | .ref _, _, _, hp, _, _ => absurd hp (by simp [plain])
  | .ins _ _, _, _, hp, _, _ => absurd hp (by simp [plain])
  | .exv _ _, _, _, hp, _, _ => absurd hp (by simp [plain])
theorem IsVs.reads (I : Inv X pins σ H s) : ∀ (ds : List D) (vs : List V) (us : List Value), plains ds = true → IsVs X.K P H vs ds → Vals vs us → ∃ as, ReadsAll s.heap us (toPys ds) as
  | [], _, _, _, h, r => by cases h; cases r; exact ⟨_, .nil⟩
  | d :: ds, _, _, hp, h, r => by
    have hp' := Bool.and_eq_true_iff.mp (show (plain d && plains ds) = true from hp)
    cases h with
    | cons h1 h2 =>
      cases r with
      | cons r1 r2 =>
        obtain ⟨as, q1⟩ := IsV.reads I d _ _ hp'.1 h1 r1
        obtain ⟨bs, q2⟩ := IsVs.reads I ds _ _ hp'.2 h2 r2
        exact ⟨_, .cons q1 q2⟩
end
end
theorem IsR.reads {X : Cx} {pins : List (Addr × Obj)} {σ : L2.St} {H : Hp} {s : Shared} {F : Addr → Prop} {M : MS} (I : Inv X pins σ H s) {d : D} {v : V} {u : Value} (hp : plain d = true) (h : IsR X.K F M H v d) (r : RelV v u) : ∃ as, Reads s.heap u (toPy d) as := by
  cases h with
  | non => cases r; exact ⟨_, .none⟩
  | bl b => cases r; exact ⟨_, .bool b⟩
  | int i => obtain ⟨t, rfl⟩ := r; exact ⟨_, .int i t⟩
  | str x => obtain ⟨t, rfl⟩ := r; exact ⟨_, .str x t⟩
  | lst h1 h2 =>
    cases r
    obtain ⟨its, rv, ⟨o, n, ho, hc, _, hd⟩, _⟩ := I.list (SqL.of h1)
    obtain ⟨as, q⟩ := IsVs.reads I _ _ its hp h2 rv
    exact ⟨_, .list ho hc hd q⟩
  | scr h1 => exact IsV.reads I (.scr _) _ u hp (.scr h1) r
  | tup h1 h2 => exact IsV.reads I (.tup _) _ u hp (.tup h1 h2) r
  | _ => exact absurd hp (by simp [plain])
def eqOk (d : D) : Bool := plain d && SeqAt.shaped (toPy d)
def eqD (x y : D) : Bool := PyData.eqv (toPy x) (toPy y)
def oEq : F2 := fun x y M k => eqOk x = true ∧ eqOk y = true ∧ k (.bl (eqD x y)) M
def oNe : F2 := fun x y M k => eqOk x = true ∧ eqOk y = true ∧ k (.bl (!eqD x y)) M
def rEqV (K : PySem.W.Frag) (neg : Bool) : R2 := fun v w H Q => ∃ F M x y, IsR K F M H v x ∧ IsR K F M H w y ∧ eqOk x = true ∧ eqOk y = true ∧ Q (.bl (if neg then !eqD x y else eqD x y)) H
section
variable {X : Cx} {E : L2.St → XK} {pos : Pos} {a b : Expr} {fa fb : FE}
theorem op_eqV (hu : X.A.units + 64 < cLine) : OpR X (compareOp .Eq) (rEqV X.K false) := by
  intro pins s σ H v w u t Q I rv rw' h
  obtain ⟨F, M, x, y, hx, hy, ox, oy, q⟩ := h
  obtain ⟨px, sx⟩ := Bool.and_eq_true_iff.mp ox
  obtain ⟨py, sy⟩ := Bool.and_eq_true_iff.mp oy
  obtain ⟨as, r1⟩ := IsR.reads I px hx rv
  obtain ⟨bs, r2⟩ := IsR.reads I py hy rw'
  exact SeqAt.compareEq_shaped r1 r2 sx sy hu ⟨.bl _, H, I, rfl, q⟩
theorem op_neV (hu : X.A.units + 64 < cLine) : OpR X (compareOp .NotEq) (rEqV X.K true) := by
  intro pins s σ H v w u t Q I rv rw' h
  obtain ⟨F, M, x, y, hx, hy, ox, oy, q⟩ := h
  obtain ⟨px, sx⟩ := Bool.and_eq_true_iff.mp ox
  obtain ⟨py, sy⟩ := Bool.and_eq_true_iff.mp oy
  obtain ⟨as, r1⟩ := IsR.reads I px hx rv
  obtain ⟨bs, r2⟩ := IsR.reads I py hy rw'
  exact SeqAt.compareNe_shaped r1 r2 sx sy hu ⟨.bl _, H, I, rfl, q⟩
theorem opd_eq {K : PySem.W.Frag} : OpD K (rEqV K false) (wOp oEq) := opd_w fun F H M v w x y k Q R hv hw hg L => ⟨_, _, x, y, hv, hw, hg.1, hg.2.1, L.now R hg.2.2 (.bl _)⟩
theorem opd_ne {K : PySem.W.Frag} : OpD K (rEqV K true) (wOp oNe) := opd_w fun F H M v w x y k Q R hv hw hg L => ⟨_, _, x, y, hv, hw, hg.1, hg.2.1, L.now R hg.2.2 (.bl _)⟩
theorem d_eq (hu : X.A.units + 64 < cLine) (ha : DE X E a fa) (hb : DE X E b fb) : DE X E (.Compare a [.Eq] [b] pos) (fOp (wOp oEq) fa fb) := de_cmp (op_eqV hu) opd_eq ha hb (nomark _)
theorem d_ne (hu : X.A.units + 64 < cLine) (ha : DE X E a fa) (hb : DE X E b fb) : DE X E (.Compare a [.NotEq] [b] pos) (fOp (wOp oNe) fa fb) := de_cmp (op_neV hu) opd_ne ha hb (nomark _)
theorem t_eq (hu : X.A.units + 64 < cLine) (ha : DE X E a fa) (hb : DE X E b fb) : DT X E (.Compare a [.Eq] [b] pos) (fTest (fOp (wOp oEq) fa fb)) := dt_cmp (op_eqV hu) opd_eq ha hb (nomark _)
theorem t_ne (hu : X.A.units + 64 < cLine) (ha : DE X E a fa) (hb : DE X E b fb) : DT X E (.Compare a [.NotEq] [b] pos) (fTest (fOp (wOp oNe) fa fb)) := dt_cmp (op_neV hu) opd_ne ha hb (nomark _)
end
/-- repr -/
def shownOk (d : D) : Prop := plain d = true ∧ (toPy d).showable = true ∧ (toPy d).hasDict = false ∧ (toPy d).depth ≤ 60 ∧ (toPy d).shown.length ≤ sizeLine
def gRepr : FN := fun ds M k => ∃ d, ds = [d] ∧ shownOk d ∧ k (.str (toPy d).shown) M
def rReprV (K : PySem.W.Frag) : List V → Hp → VK → Prop := fun vs H Q => ∃ F M v d, vs = [v] ∧ IsR K F M H v d ∧ shownOk d ∧ Q (.str (toPy d).shown) H
theorem shown_bool (b : Bool) : (PyData.bool b).shown = (if b = true then ("True" : Str) else ("False" : Str)) := by simp only [PyData.shown]
theorem cr_reprV {X : Cx} (hgd : X.A.guards = some []) (hu : X.A.units + 64 < cLine) : CallR X (.builtin "repr") (rReprV X.K) := by
  intro pins s σ H vs us Q I r h
  obtain ⟨F, M, v, d, rfl, hv, ⟨hp, hs, hd, hz, hsz⟩, q⟩ := h
  obtain ⟨u, rfl, ru⟩ := vals1 r
  obtain ⟨as, rd⟩ := IsR.reads I hp hv ru
  have fin : ∀ (h' : Heap) (u' : Tok) (tk : Nat), (∀ b o, s.heap.get? b = some o → h'.get? b = some o) → EP X pins σ Q (.str (toPy d).shown u') { s with heap := h', toks := tk } := fun h' u' tk hk => ⟨.str _, H, I.kept hk, ⟨u', rfl⟩, q⟩
  have viaRef : ∀ a, u = .ref a → wpAny (model X.prog X.w) X.A (call (.builtin "repr") [u]) (EP X pins σ Q) X.xe s := fun a e => by
    subst e
    exact repr_of_reads' rd hs (PyData.noDict_hsm hd) hgd (by omega) (fun _ _ e => e) fin hsz
  cases hv with
  | non => cases ru; exact PySem.P.repr_of_none (fin s.heap _ _ fun _ _ e => e)
  | bl b =>
    cases ru
    have z := fin s.heap s.toks (s.toks + 1) fun _ _ e => e
    rw [show toPy (D.bl b) = PyData.bool b by simp only [toPy], shown_bool] at z
    exact PySem.P.repr_of_bool z
  | int i =>
    obtain ⟨t, rfl⟩ := ru
    refine PySem.P.repr_of_int ?_ (fin s.heap _ _ fun _ _ e => e)
    have z : (PyData.int i).showable = true := hs
    simpa [PyData.showable] using z
  | str x =>
    obtain ⟨t, rfl⟩ := ru
    exact PySem.P.repr_of_str (fin s.heap _ _ fun _ _ e => e) hsz
  | ty n => simp [plain] at hp
  | ref a => simp [plain] at hp
  | lst _ _ => exact viaRef _ ru
  | scr _ => exact viaRef _ ru
  | tup _ _ => exact viaRef _ ru
  | _ => simp [plain] at hp
theorem cd_repr {K : PySem.W.Frag} : CallD K (rReprV K) (wCB gRepr) := cd_w fun F H M vs ds k Q R hv hg L => by
  obtain ⟨d, rfl, h1, h2⟩ := hg
  cases hv with
  | cons v1 v2 =>
    cases v2
    exact ⟨_, _, _, d, rfl, v1, h1, L.now R h2 (.str _)⟩

/-! ### types -/
def typeD : D → Option String
  | .non => some "NoneType" | .bl _ => some "bool" | .int _ => some "int" | .str _ => some "str"
  | .lst _ => some "list" | .scr _ => some "list" | .tup _ => some "tuple" | .dct _ => some "dict" | .ty _ => none | .ref _ => none | .ins _ _ => none | .exv _ _ => none
def isT (n : String) (d : D) : Bool := (typeD d).elim false fun a => kitB a n == some true
def isTok (n : String) (d : D) : Bool := (typeD d).elim false fun a => (kitB a n).isSome
def gIsi : FN := fun ds M k => ∃ d n, ds = [d, .ty n] ∧ isTok n d = true ∧ k (.bl (isT n d)) M
theorem tyX_of {K : PySem.W.Frag} {F : Addr → Prop} {M : MS} {H : Hp} {v : V} {d : D} {a : String} (h : IsR K F M H v d) (e : typeD d = some a) : TyX K H v (.type a) := by
  cases h with
  | non => cases e; exact .base .non
  | bl b => cases e; exact .base (.bl b)
  | int i => cases e; exact .base (.int i)
  | str x => cases e; exact .base (.str x)
  | ty n => cases e
  | ref a => cases e
  | lst h1 _ => cases e; exact .base (.lst h1)
  | scr h1 =>
    cases e
    rcases h1 with ⟨_, h1 | ⟨o, h1⟩⟩ | h1
    · exact .base (.lst h1)
    · exact .base (.frz h1)
    · rcases h1 with (h1 | ⟨o, h1⟩) | ⟨o, its, n, h1, h2, _⟩
      · cases h1
      · cases h1
      · exact .kList h1 h2
  | tup h1 _ =>
    cases e
    rcases h1 with ⟨_, h1 | ⟨o, h1⟩⟩ | h1
    · exact .base (.tup h1)
    · exact .fTuple h1
    · rcases h1 with (h1 | ⟨o, h1⟩) | ⟨o, its, n, h1, h2, _⟩
      · cases h1
      · cases h1
      · exact .kTuple h1 h2
  | ins _ _ => cases e
  | exv0 _ => cases e
  | exv _ _ _ => cases e
  | dct h1 _ =>
    cases e
    rcases h1 with h1 | ⟨o, h1⟩
    · exact .base (.dK h1)
    · exact .fDict h1
theorem cd_isi {K : PySem.W.Frag} : CallD K (rIsi K) (wCB gIsi) := cd_w fun F H M vs ds k Q R hv hg L => by
  obtain ⟨d, n, rfl, h1, h2⟩ := hg
  cases hv with
  | cons v1 v2 =>
    cases v2 with
    | cons v2 v3 =>
      cases v3
      cases v2
      unfold isTok at h1
      cases e : typeD d with
      | none => rw [e] at h1; cases h1
      | some a =>
        rw [e] at h1
        obtain ⟨b, hb⟩ := Option.isSome_iff_exists.mp (show (kitB a n).isSome = true from h1)
        have eb : isT n d = b := by
          unfold isT
          rw [e]
          show (kitB a n == some true) = b
          rw [hb]
          cases b <;> rfl
        rw [eb] at h2
        exact ⟨_, _, .type a, .type n, b, rfl, .ty n, tyX_of v1 e, kit_ty hb, L.now R h2 (.bl b)⟩

/-! ### len, items, slices -/
def gLen : FN := fun ds M k => match ds with
  | [.str s] => s.length ≤ sizeLine ∧ k (.int s.length) M
  | [.lst xs] => k (.int xs.length) M
  | [.tup xs] => k (.int xs.length) M
  | [.scr ns] => k (.int ns.length) M
  | _ => False
theorem cd_len {K : PySem.W.Frag} : CallD K (fun xs H Q => ∃ x n, xs = [x] ∧ LenV K x H n ∧ Q (.int n) H) (wCB gLen) := cd_w fun F H M vs ds k Q R hv hg L => by
  cases hv with
  | nil => exact hg.elim
  | cons v1 v2 =>
    cases v2 with
    | cons _ _ => cases v1 <;> exact hg.elim
    | nil =>
      cases v1 with
      | str s => exact ⟨_, _, rfl, ⟨hg.1, rfl⟩, L.now R hg.2 (.int _)⟩
      | lst h1 h2 => exact ⟨_, _, rfl, .inl ⟨_, SqL.of h1, rfl⟩, by rw [h2.length]; exact L.now R hg (.int _)⟩
      | scr h1 => exact ⟨_, _, rfl, .inl ⟨_, h1.sq, rfl⟩, by rw [List.length_map]; exact L.now R hg (.int _)⟩
      | tup h1 h2 => exact ⟨_, _, rfl, .inr ⟨_, h1.sq, rfl⟩, by rw [h2.length]; exact L.now R hg (.int _)⟩
      | _ => exact hg.elim
theorem IsVs.atI {K : PySem.W.Frag} {P : Addr → Prop} {H : Hp} {vs : List V} {ds : List D} {i : Int} {d : D} (h : IsVs K P H vs ds) (e : L2.atI ds i = some d) : ∃ v, L2.atI vs i = some v ∧ IsV K P H v d := by
  unfold L2.atI at e ⊢
  rw [h.length]
  cases q : ixN ds.length i with
  | none => rw [q] at e; cases e
  | some j =>
    rw [q] at e
    exact h.get e
/-- x[i]: lists, tuples, texts, what draws -/
def oIx : F2 := fun x y M k => match x, y with
  | .lst ds, .int i => ∃ d, L2.atI ds i = some d ∧ k d M
  | .tup ds, .int i => ∃ d, L2.atI ds i = some d ∧ k d M
  | .scr ns, .int i => ∃ n, L2.atI ns i = some n ∧ k (.int n) M
  | .str s, .int i => s.length ≤ sizeLine ∧ ∃ c, L2.atI s.cps.toList i = some c ∧ k (.str ⟨#[c]⟩) M
  | .ref p, .int i => ∃ ns n, M p = some (.pen ns n) ∧ ((i = 0 ∧ k (.lst (ns.map .int)) M) ∨ (i = 1 ∧ ∀ t : Int, 0 ≤ t → t ≤ (n : Int) → k (.int t) M) ∨ (i = 2 ∧ ∀ r : Int, 0 ≤ r → k (.int r) M))
  | _, _ => False
theorem atI_map {α β : Type} (f : α → β) (xs : List α) (i : Int) : L2.atI (xs.map f) i = (L2.atI xs i).map f := by
  unfold L2.atI
  rw [List.length_map]
  cases ixN xs.length i with
  | none => rfl
  | some j =>
    show (xs.map f)[j]? = (xs[j]?).map f
    rw [List.getElem?_map]
section
variable {X : Cx} {E : L2.St → XK} {pos p2 : Pos} {a b : Expr} {fa fb : FE}
theorem d_ix (ha : DE X E a fa) (hb : DE X E b fb) (hs : PlainIx b := by exact fun _ _ => rfl) : DE X E (.Subscript a b pos) (fOp (wOp oIx) fa fb) := de_ix ix_seq (opd_w fun F H M v w x y k Q R hv hw hg L => by
  cases hv with
  | lst h1 h2 =>
    cases hw with
    | int i =>
      obtain ⟨d, e, h⟩ := hg
      obtain ⟨v, e1, hd⟩ := h2.atI e
      exact .inl ⟨_, _, i, v, rfl, rfl, SqL.of h1, e1, L.now R h hd⟩
    | _ => exact hg.elim
  | tup h1 h2 =>
    cases hw with
    | int i =>
      obtain ⟨d, e, h⟩ := hg
      obtain ⟨v, e1, hd⟩ := h2.atI e
      exact .inr (.inl ⟨_, _, i, v, rfl, rfl, h1.sq, e1, L.now R h hd⟩)
    | _ => exact hg.elim
  | scr h1 =>
    cases hw with
    | int i =>
      obtain ⟨d, e, h⟩ := hg
      exact .inl ⟨_, _, i, .int d, rfl, rfl, h1.sq, by rw [atI_map, e]; rfl, L.now R h (.int _)⟩
    | _ => exact hg.elim
  | str s =>
    cases hw with
    | int i =>
      obtain ⟨hl, c, e, h⟩ := hg
      exact .inr (.inr ⟨s, i, c, rfl, rfl, hl, e, L.now R h (.str _)⟩)
    | _ => exact hg.elim
  | ref p =>
    cases hw with
    | int i =>
      obtain ⟨ns, n, hp, hg⟩ := hg
      obtain ⟨q, t, r, e1, n1, e2, t0, t1, r0⟩ : PenOk (dm F M) H p ns n := R.cel p _ hp
      rcases hg with ⟨rfl, h⟩ | ⟨rfl, h⟩ | ⟨rfl, h⟩
      · exact .inl ⟨p, _, 0, _, rfl, rfl, SqL.of e1, rfl, L.now R h (.lst n1 e2 (IsVs.ints ns))⟩
      · exact .inl ⟨p, _, 1, _, rfl, rfl, SqL.of e1, rfl, L.now R (h t t0 t1) (.int t)⟩
      · exact .inl ⟨p, _, 2, _, rfl, rfl, SqL.of e1, rfl, L.now R (h r r0) (.int r)⟩
    | _ => exact hg.elim
  | _ => exact hg.elim) ha hb hs
end
/-- cut, of any list -/
def cutD {α : Type} (xs : List α) (lo hi : Option Int) : List α := (xs.drop (HT.sIx xs.length 0 lo)).take (HT.sIx xs.length xs.length hi - HT.sIx xs.length 0 lo)
theorem IsVs.cut {K : PySem.W.Frag} {P : Addr → Prop} {H : Hp} {vs : List V} {ds : List D} {lo hi : Option Int} (h : IsVs K P H vs ds) : IsVs K P H (cutV vs lo hi) (cutD ds lo hi) := by
  unfold cutV cutD
  rw [h.length]
  exact (h.drop _).take _
/-- x[lo:hi]: lists, texts, tuples -/
def sCut (x : D) (lo hi : Option Int) (M : MS) (k : KD) : Prop := match x with
  | .lst ds => k (.lst (cutD ds lo hi)) M
  | .scr ns => k (.lst ((cutD ns lo hi).map .int)) M
  | .tup ds => ¬ (HT.sIx ds.length 0 lo = 0 ∧ HT.sIx ds.length ds.length hi = ds.length) ∧ k (.tup (cutD ds lo hi)) M
  | .str z => z.length ≤ sizeLine ∧ k (.str (cutS z lo hi)) M
  | _ => False
def wSl (x : D) (lo hi : Option Int) (M : MS) (k : KD) : Prop := sCut (vw M x) lo hi M k
theorem cutV_ints (ns : List Int) (lo hi : Option Int) : cutV (ns.map V.int) lo hi = (cutD ns lo hi).map V.int := by
  unfold cutV cutD
  rw [List.length_map, ← List.map_drop, ← List.map_take]
theorem d_sl {X : Cx} {E : L2.St → XK} {pos p2 : Pos} {e : Expr} {f : FE} {lo hi : Option Expr} {fl fh : FO} (he : DE X E e f) (hl : DO X E lo fl) (hu : DO X E hi fh) : DE X E (.Subscript e (.Slice lo hi none p2) pos) (fSl wSl f fl fh) := de_slice (SlR.or sl_list (SlR.or sl_str sl_tup)) (fun F H M v x lo hi k Q R hv hg L => by
  have hv := hv.rd R
  have hg : sCut (vw M x) lo hi M k := hg
  generalize vw M x = x at hv hg
  cases hv with
  | lst h1 h2 => exact .inl ⟨_, _, rfl, SqL.of h1, new_lst L R hg h2.cut⟩
  | scr h1 => exact .inl ⟨_, _, rfl, h1.sq, new_lst L R hg (by rw [cutV_ints]; exact IsVs.ints _)⟩
  | str z => exact .inr (.inl ⟨z, rfl, hg.1, L.now R hg.2 (.str _)⟩)
  | tup h1 h2 => exact .inr (.inr ⟨_, _, rfl, h1.sq, by rw [h2.length]; exact hg.1, new_tup L R hg.2 h2.cut⟩)
  | _ => exact hg.elim) he hl hu

/-! ### texts, lists -/
def flatD : D → Bool
  | .non => true | .bl _ => true | .int _ => true | .str _ => true
  | _ => false
def flV : D → V
  | .non => .non | .bl b => .bl b | .int i => .int i | .str x => .str x
  | _ => .non
def inD (x : D) (xs : List D) : Bool := inV (flV x) (xs.map flV)
theorem flat_v {K : PySem.W.Frag} {P : Addr → Prop} {H : Hp} {v : V} {d : D} (h : IsV K P H v d) (hf : flatD d = true) : v = flV d ∧ flatV v = true := by
  cases h <;> first | exact ⟨rfl, rfl⟩ | cases hf
theorem flat_r {K : PySem.W.Frag} {F : Addr → Prop} {M : MS} {H : Hp} {v : V} {d : D} (h : IsR K F M H v d) (hf : flatD d = true) : v = flV d ∧ flatV v = true := by
  cases h <;> first | exact ⟨rfl, rfl⟩ | cases hf
theorem flat_vs {K : PySem.W.Frag} {P : Addr → Prop} {H : Hp} : ∀ {vs : List V} {ds : List D}, IsVs K P H vs ds → ds.all flatD = true → vs = ds.map flV ∧ vs.all flatV = true
  | _, _, .nil, _ => ⟨rfl, rfl⟩
  | _, _, .cons h t, hf => by
    rw [List.all_cons, Bool.and_eq_true] at hf
    obtain ⟨e, f⟩ := flat_v h hf.1
    obtain ⟨e2, f2⟩ := flat_vs t hf.2
    refine ⟨by rw [e, e2]; rfl, ?_⟩
    rw [List.all_cons, f, f2]
    rfl
/-- x in y: a sign in a text, a flat value in a list or tuple of flat ones -/
def oIn (neg : Bool) : F2 := fun x y M k => match y with
  | .lst ds => flatD x = true ∧ ds.all flatD = true ∧ k (.bl (if neg then !inD x ds else inD x ds)) M
  | .tup ds => flatD x = true ∧ ds.all flatD = true ∧ k (.bl (if neg then !inD x ds else inD x ds)) M
  | .str z => ∃ c : Nat, x = .str ⟨#[c]⟩ ∧ k (.bl (if neg then !decide (c ∈ z.cps.toList) else decide (c ∈ z.cps.toList))) M
  | _ => False
theorem opd_in {K : PySem.W.Frag} {neg : Bool} {r : R2} (hr : ∀ (c : Nat) (z : Str) (H : Hp) (Q : VK), Q (.bl (if neg then !decide (c ∈ z.cps.toList) else decide (c ∈ z.cps.toList))) H → r (.str ⟨#[c]⟩) (.str z) H Q) : OpD K (fun x y H Q => rIn K neg x y H Q ∨ r x y H Q) (wOp (oIn neg)) := opd_w fun F H M v w x y k Q R hv hw hg L => by
  cases hw with
  | lst h1 h2 =>
    obtain ⟨ex, gx⟩ := flat_r hv hg.1
    obtain ⟨es, gs⟩ := flat_vs h2 hg.2.1
    refine .inl ⟨_, _, rfl, .inl (SqL.of h1), gx, gs, ?_⟩
    rw [ex, es]
    exact L.now R hg.2.2 (.bl _)
  | tup h1 h2 =>
    obtain ⟨ex, gx⟩ := flat_r hv hg.1
    obtain ⟨es, gs⟩ := flat_vs h2 hg.2.1
    refine .inl ⟨_, _, rfl, .inr h1.sq, gx, gs, ?_⟩
    rw [ex, es]
    exact L.now R hg.2.2 (.bl _)
  | str z =>
    obtain ⟨c, rfl, h⟩ := hg
    cases hv
    exact .inr (hr c z H Q (L.now R h (.bl _)))
  | _ => exact hg.elim
section
variable {X : Cx} {E : L2.St → XK} {pos : Pos} {a b : Expr} {fa fb : FE}
theorem d_in (ha : DE X E a fa) (hb : DE X E b fb) (hm : behindInMarks .In b = false := by rfl) : DE X E (.Compare a [.In] [b] pos) (fOp (wOp (oIn false)) fa fb) := de_cmp (OpR.or op_in_seq op_in_sign) (opd_in fun c z H Q h => ⟨c, z, rfl, rfl, h⟩) ha hb hm
theorem d_nin (ha : DE X E a fa) (hb : DE X E b fb) (hm : behindInMarks .NotIn b = false := by rfl) : DE X E (.Compare a [.NotIn] [b] pos) (fOp (wOp (oIn true)) fa fb) := de_cmp (OpR.or op_notIn_seq op_notIn_sign) (opd_in fun c z H Q h => ⟨c, z, rfl, rfl, h⟩) ha hb hm
theorem t_in (ha : DE X E a fa) (hb : DE X E b fb) (hm : behindInMarks .In b = false := by rfl) : DT X E (.Compare a [.In] [b] pos) (fTest (fOp (wOp (oIn false)) fa fb)) := dt_cmp (OpR.or op_in_seq op_in_sign) (opd_in fun c z H Q h => ⟨c, z, rfl, rfl, h⟩) ha hb hm
theorem t_nin (ha : DE X E a fa) (hb : DE X E b fb) (hm : behindInMarks .NotIn b = false := by rfl) : DT X E (.Compare a [.NotIn] [b] pos) (fTest (fOp (wOp (oIn true)) fa fb)) := dt_cmp (OpR.or op_notIn_seq op_notIn_sign) (opd_in fun c z H Q h => ⟨c, z, rfl, rfl, h⟩) ha hb hm
end

/-! ### calls -/
def gAbs : FN := fun ds M k => match ds with
  | [.int i] => k (.int (if i < 0 then -i else i)) M
  | _ => False
def gInt : FN := fun ds M k => match ds with
  | [.int i] => k (.int i) M
  | [.bl b] => k (.int (if b then 1 else 0)) M
  | _ => False
def gAll : FN := fun ds M k => ∃ bs : List Bool, ds = [.lst (bs.map .bl)] ∧ k (.bl (bs.all id)) M
def gList : FN := fun ds M k => match ds with
  | [.lst xs] => k (.lst xs) M
  | [.tup xs] => k (.lst xs) M
  | [.scr ns] => k (.lst (ns.map .int)) M
  | [.str z] => z.length ≤ sizeLine ∧ k (.lst (z.cps.toList.map fun c => .str ⟨#[c]⟩)) M
  | _ => False
def gTuple : FN := fun ds M k => match ds with
  | [.lst xs] => k (.tup xs) M
  | [.tup xs] => k (.tup xs) M
  | _ => False
theorem cd_abs {K : PySem.W.Frag} : CallD K (fun xs H Q => ∃ i, xs = [.int i] ∧ Q (.int (if i < 0 then -i else i)) H) gAbs := fun F H M vs ds k Q R hv hg L => by
  cases hv with
  | nil => exact hg.elim
  | cons v1 v2 =>
    cases v2 with
    | cons _ _ => cases v1 <;> exact hg.elim
    | nil =>
      cases v1 with
      | int i => exact ⟨i, rfl, L.now R hg (.int _)⟩
      | _ => exact hg.elim
theorem cd_int {K : PySem.W.Frag} : CallD K (fun xs H Q => (∃ i, xs = [.int i] ∧ Q (.int i) H) ∨ ∃ k, xs = [.bl k] ∧ Q (.int (if k then 1 else 0)) H) gInt := fun F H M vs ds k Q R hv hg L => by
  cases hv with
  | nil => exact hg.elim
  | cons v1 v2 =>
    cases v2 with
    | cons _ _ => cases v1 <;> exact hg.elim
    | nil =>
      cases v1 with
      | int i => exact .inl ⟨i, rfl, L.now R hg (.int _)⟩
      | bl i => exact .inr ⟨i, rfl, L.now R hg (.int _)⟩
      | _ => exact hg.elim
theorem cd_all {K : PySem.W.Frag} : CallD K (rAll K) (wCB gAll) := cd_w fun F H M vs ds k Q R hv hg L => by
  obtain ⟨bs, rfl, h⟩ := hg
  cases hv with
  | cons v1 v2 =>
    cases v2
    cases v1 with
    | lst h1 h2 =>
      have e := h2.of_bls
      exact ⟨_, bs, rfl, SqL.of (by rw [← e]; exact h1), L.now R h (.bl _)⟩
theorem cd_tuple {K : PySem.W.Frag} : CallD K (fun xs H Q => ∃ p ys, xs = [.ref p] ∧ ((SqL K H p ys ∧ ∀ l, H l = none → Q (.ref l) (upd H l (.tup ys))) ∨ (SqT K H p ys ∧ Q (.ref p) H))) (wCB gTuple) := cd_w fun F H M vs ds k Q R hv hg L => by
  cases hv with
  | nil => exact hg.elim
  | cons v1 v2 =>
    cases v2 with
    | cons _ _ => cases v1 <;> exact hg.elim
    | nil =>
      cases v1 with
      | lst h1 h2 => exact ⟨_, _, rfl, .inl ⟨SqL.of h1, new_tup L R hg h2⟩⟩
      | tup h1 h2 => exact ⟨_, _, rfl, .inr ⟨h1.sq, L.now R hg (.tup h1 h2)⟩⟩
      | _ => exact hg.elim
/-- list(text) -/
theorem call_listS {X : Cx} (hc : X.calm = true) : CallR X (.type "list") (fun xs H Q => ∃ z : Str, xs = [.str z] ∧ z.length ≤ sizeLine ∧ ∀ l, H l = none → Q (.ref l) (upd H l (.lst (z.cps.toList.map fun c => V.str ⟨#[c]⟩)))) := by
  intro pins s σ H vs us Q I r h
  obtain ⟨z, rfl, hz, q⟩ := h
  obtain ⟨u, rfl, t, rfl⟩ := vals1 r
  refine PySem.call_list_str (I.ok.hd hc) z t (fun h' tk acc c hk hl hi => ?_) hz
  have rv : Vals (z.cps.toList.map fun c => V.str ⟨#[c]⟩) acc.toList := by
    obtain ⟨hs, hg⟩ := hi
    suffices hh : ∀ (xs : List V) (us : List Value), xs.length = us.length → (∀ i x u, xs[i]? = some x → us[i]? = some u → RelV x u) → Vals xs us by
      refine hh _ _ (by rw [List.length_map, Array.length_toList, Array.length_toList, hs]) fun i x u e1 e2 => ?_
      rw [List.getElem?_map, Array.getElem?_toList] at e1
      rw [Array.getElem?_toList] at e2
      obtain ⟨c, t', ec, eu⟩ := hg i u e2
      rw [ec] at e1
      cases e1
      exact ⟨t', eu⟩
    intro xs
    induction xs with
    | nil =>
      intro us e _
      cases us with
      | nil => exact .nil
      | cons _ _ => cases e
    | cons x xs ih =>
      intro us e h
      cases us with
      | nil => cases e
      | cons u us => exact .cons (h 0 x u rfl rfl) (ih us (Nat.succ.inj e) fun i a b e1 e2 => h (i + 1) a b (by rw [List.getElem?_cons_succ]; exact e1) (by rw [List.getElem?_cons_succ]; exact e2))
  have hlen : (z.cps.toList.map fun c => V.str ⟨#[c]⟩).length ≤ sizeLine := by
    rw [List.length_map, Array.length_toList]
    exact hz
  exact ⟨.ref s.heap.objs.size, upd H s.heap.objs.size (.lst (z.cps.toList.map fun c => V.str ⟨#[c]⟩)), I.laid (o := .lst (z.cps.toList.map fun c => V.str ⟨#[c]⟩)) hk (Nat.le_refl _) ⟨hlen, acc.toList, c, rv, hl⟩, rfl, q _ (I.hok.fresh (Nat.le_refl _))⟩
theorem IsVs.signs {K : PySem.W.Frag} {P : Addr → Prop} {H : Hp} : ∀ l : List Nat, IsVs K P H (l.map fun c => V.str ⟨#[c]⟩) (l.map fun c => D.str ⟨#[c]⟩)
  | [] => .nil
  | c :: l => .cons (.str _) (IsVs.signs l)
theorem cd_list {K : PySem.W.Frag} : CallD K (fun xs H Q => (∃ p ys, xs = [.ref p] ∧ (SqL K H p ys ∨ SqT K H p ys) ∧ ∀ l, H l = none → Q (.ref l) (upd H l (.lst ys))) ∨
    ∃ z : Str, xs = [.str z] ∧ z.length ≤ sizeLine ∧ ∀ l, H l = none → Q (.ref l) (upd H l (.lst (z.cps.toList.map fun c => V.str ⟨#[c]⟩)))) (wCB gList) := cd_w fun F H M vs ds k Q R hv hg L => by
  cases hv with
  | nil => exact hg.elim
  | cons v1 v2 =>
    cases v2 with
    | cons _ _ => cases v1 <;> exact hg.elim
    | nil =>
      cases v1 with
      | lst h1 h2 => exact .inl ⟨_, _, rfl, .inl (SqL.of h1), new_lst L R hg h2⟩
      | scr h1 => exact .inl ⟨_, _, rfl, .inl h1.sq, new_lst L R hg (IsVs.ints _)⟩
      | tup h1 h2 => exact .inl ⟨_, _, rfl, .inr h1.sq, new_lst L R hg h2⟩
      | str z => exact .inr ⟨z, rfl, hg.1, new_lst L R hg.2 (IsVs.signs _)⟩
      | _ => exact hg.elim
/-- sep.join(xs) -/
def gJoin (f g : FE) : FE := fun Γ M k kx => f Γ M (fun x M1 => ∃ a, x = .str a ∧ g Γ M1 (fun y M2 => ∃ ys : List Str, (vw M2 y = .lst (ys.map .str) ∨ vw M2 y = .tup (ys.map .str)) ∧ (ys.map (·.length)).sum + ys.length * a.length ≤ 16777216 ∧ k (.str (Txt.join a ys)) M2) kx) kx
theorem d_join {X : Cx} {E : L2.St → XK} {o e : Expr} {f g : FE} {apos pos : Pos} (ho : DE X E o f) (he : DE X E e g) (hs : starEach [e] X.env = [(false, eval e X.env)] := by rfl) (hbase : attributeBase o "join" X.env (eval o X.env) = eval o X.env := by rfl) (hline : (apos.endLine == pos.line) = true := by rfl) :
    DE X E (.Call (.Attribute o "join" apos) [e] [] pos) (gJoin f g) := pe_w (pe_join ho he hs hbase hline) fun σ H Q hh => by
  obtain ⟨F, Γ, M, k, kx, R, q, LX, L⟩ := hh
  refine ⟨F, Γ, M, _, kx, R, q, LX, fun x M1 v H1 hx g1 R1 i1 => ?_⟩
  obtain ⟨a, rfl, hx⟩ := hx
  cases i1
  refine ⟨⟨a, rfl⟩, F, Γ, M1, _, kx, R.go g1 R1, hx, LX.go g1, fun y M2 w H2 hy g2 R2 i2 => ?_⟩
  obtain ⟨ys, ey, hz, h⟩ := hy
  have i3 := i2.rd R2
  rcases ey with e | e
  · rw [e] at i3
    cases i3 with
    | lst h1 h2 => exact ⟨a, _, ys, rfl, rfl, .inl (SqL.of (by rw [← h2.of_strs]; exact h1)), hz, L _ _ _ _ h (g1.trans g2) R2 (.str _)⟩
  · rw [e] at i3
    cases i3 with
    | tup h1 h2 => exact ⟨a, _, ys, rfl, rfl, .inr (by rw [← h2.of_strs]; exact h1.sq), hz, L _ _ _ _ h (g1.trans g2) R2 (.str _)⟩

section
variable {X : Cx} {E : L2.St → XK} {e : Expr} {es : List Expr} {g : FA} {p pos : Pos}
theorem c_len (hg : Gl X "len") (hm : X.mg "len" = none) (ha : DA X E [e] g) (he : starEach [e] X.env = (false, eval e X.env) :: starEach [] X.env := by rfl) : DE X E (.Call (.Name "len" p) [e] [] pos) (fCB (wCB gLen) g) := de_callB call_len cd_len hg hm PySem.boot_len ha (by decide) (by decide) he
theorem c_abs (hg : Gl X "abs") (hm : X.mg "abs" = none) (ha : DA X E [e] g) (he : starEach [e] X.env = (false, eval e X.env) :: starEach [] X.env := by rfl) : DE X E (.Call (.Name "abs" p) [e] [] pos) (fCB gAbs g) := de_callB call_abs cd_abs hg hm (by decide +kernel) ha (by decide) (by decide) he
theorem c_int (hg : Gl X "int") (hm : X.mg "int" = none) (ha : DA X E [e] g) (he : starEach [e] X.env = (false, eval e X.env) :: starEach [] X.env := by rfl) : DE X E (.Call (.Name "int" p) [e] [] pos) (fCB gInt g) := de_callTy call_int1 cd_int hg hm (by decide +kernel) ha (by decide) (by decide) he
theorem c_all (hc : X.calm = true) (hg : Gl X "all") (hm : X.mg "all" = none) (ha : DA X E [e] g) (he : starEach [e] X.env = (false, eval e X.env) :: starEach [] X.env := by rfl) : DE X E (.Call (.Name "all" p) [e] [] pos) (fCB (wCB gAll) g) := de_callB (cr_all hc) cd_all hg hm (by decide +kernel) ha (by decide) (by decide) he
theorem c_list (hc : X.calm = true) (hg : Gl X "list") (hm : X.mg "list" = none) (ha : DA X E [e] g) (he : starEach [e] X.env = (false, eval e X.env) :: starEach [] X.env := by rfl) : DE X E (.Call (.Name "list" p) [e] [] pos) (fCB (wCB gList) g) := de_callTy (CallR.or call_list_of (call_listS hc)) cd_list hg hm (by decide +kernel) ha (by decide) (by decide) he
theorem c_tuple (hg : Gl X "tuple") (hm : X.mg "tuple" = none) (ha : DA X E [e] g) (he : starEach [e] X.env = (false, eval e X.env) :: starEach [] X.env := by rfl) : DE X E (.Call (.Name "tuple" p) [e] [] pos) (fCB (wCB gTuple) g) := de_callTy call_tuple_of cd_tuple hg hm (by decide +kernel) ha (by decide) (by decide) he
theorem c_repr (hgd : X.A.guards = some []) (hu : X.A.units + 64 < cLine) (hg : Gl X "repr") (hm : X.mg "repr" = none) (ha : DA X E [e] g) (he : starEach [e] X.env = (false, eval e X.env) :: starEach [] X.env := by rfl) : DE X E (.Call (.Name "repr" p) [e] [] pos) (fCB (wCB gRepr) g) := de_callB (cr_reprV hgd hu) cd_repr hg hm (by decide +kernel) ha (by decide) (by decide) he
theorem c_isi {e2 : Expr} (hg : Gl X "isinstance") (hm : X.mg "isinstance" = none) (ha : DA X E [e, e2] g) (he : starEach [e, e2] X.env = (false, eval e X.env) :: starEach [e2] X.env := by rfl) (hpl : (backTo pos (starEach [e2] X.env)).any (·.1) = false := by rfl) : DE X E (.Call (.Name "isinstance" p) [e, e2] [] pos) (fCB (wCB gIsi) g) := de_callB call_isi cd_isi hg hm (by decide +kernel) ha (by decide) (by decide) he hpl
end

/-! ### what draws: made, changed -/
def fPen (g : FA) : FE := fun Γ M k kx => g Γ M (fun ds M1 => ∃ ns : List Int, ds = [.lst (ns.map .int), .int 0, .int 0] ∧ ∀ p, M1 p = none → k (.ref p) (upM M1 p (.pen ns 0))) kx
theorem de_pen {X : Cx} {E : L2.St → XK} {pos : Pos} {es : List Expr} {g : FA} (h : DA X E es g) : DE X E (.List es pos) (fPen g) := pe_w (pe_lst h) fun σ H Q hh => by
  obtain ⟨F, Γ, M, k, kx, R, q, LX, L⟩ := hh
  refine ⟨F, Γ, M, _, kx, R, q, LX, fun ds M1 vs H1 hx g1 R1 i1 => ?_⟩
  obtain ⟨ns, rfl, hx⟩ := hx
  cases i1 with
  | cons v1 i1 =>
    cases i1 with
    | cons v2 i1 =>
      cases i1 with
      | cons v3 i1 =>
        cases i1
        cases v2
        cases v3
        cases v1 with
        | lst n1 e1 h2 =>
          have ev := h2.of_ints
          refine ⟨by show 3 ≤ sizeLine; decide, fun p hp => ?_⟩
          have ne : ∀ {a : Addr} {o : HO}, H1 a = some o → a ≠ p := fun e z => by rw [z, hp] at e; cases e
          refine L (.ref p) (upM M1 p (.pen ns 0)) _ _ (hx p (R1.freshM hp)) (g1.trans (Go.newM R1 hp)) (R1.newM hp ⟨_, 0, 0, upd_same, fun z => ?_, ?_, by omega, by omega, by omega⟩) (.ref p)
          · rcases z with z | z
            · exact n1 (.inl z)
            · rw [upM_ne (ne e1)] at z
              exact n1 (.inr z)
          · rw [upd_ne (ne e1), ← ev]
            exact e1
/-- pen[i] = x -/
def setP (o i x : D) (M : MS) (k : MS → Prop) : Prop := ∃ p ns n n', o = .ref p ∧ M p = some (.pen ns n) ∧ n ≤ n' ∧
  ((i = .int 1 ∧ ∃ t : Int, x = .int t ∧ 0 ≤ t ∧ t ≤ (n' : Int) ∧ k (upM M p (.pen ns n'))) ∨ (i = .int 2 ∧ ∃ r : Int, x = .int r ∧ 0 ≤ r ∧ k (upM M p (.pen ns n'))))
def fPenSet (fe fo fi : FE) : FS := fun N Γ M => fe Γ M (fun x M1 => fo Γ M1 (fun o M2 => fi Γ M2 (fun i M3 => setP o i x M3 fun M4 => N.nx Γ M4) N.ex) N.ex) N.ex
theorem ds_penSet {X : Cx} {E : XK} {o i e : Expr} {fe fo fi : FE} {pos spos : Pos} (he : DE X (fun _ => E) e fe) (ho : DE X (fun _ => E) o fo) (hi : DE X (fun _ => E) i fi)
    (ha : ∀ v, assign (.Subscript o i spos) X.env v = (do
      let ov ← holding [v] (eval o X.env)
      let iv ← holding [v, ov] (eval i X.env)
      standAt spos
      holding [v, ov, iv] (setItem ov iv v)
      release [v, ov, iv] []) := by intro _; rfl)
    (hs : swapsWithSole [.Subscript o i spos] e pos.line X.env = pure false := by rfl) (hw : swappedStores [.Subscript o i spos] e X.env = pure none := by rfl)
    (h1 : (assignEach [.Subscript o i spos] X.env).map (·.2) = [assign (.Subscript o i spos) X.env] := by rfl) : DS X E (.Assign [.Subscript o i spos] e pos) (fPenSet fe fo fi) :=
  ps_w (ps_asg he (pg_sub ho hi set_list ha) hs hw h1) fun D σ H ⟨F, Γ, M, N, R, q, L⟩ => by
    refine ⟨F, Γ, M, _, N.ex, R, q, L.ex, fun x M1 v H1 hx g1 R1 i1 => ?_⟩
    refine ⟨F, Γ, M1, _, N.ex, R.go g1 R1, hx, L.ex.go g1, fun o M2 w H2 ho g2 R2 i2 => ?_⟩
    refine ⟨F, Γ, M2, _, N.ex, R.go (g1.trans g2) R2, ho, L.ex.go (g1.trans g2), fun i M3 u H3 hi g3 R3 i3 => ?_⟩
    obtain ⟨p, ns, n, n', rfl, hp, hn, hi⟩ := hi
    cases i2
    have G := (g1.trans g2).trans g3
    obtain ⟨q', t, r, e1, n1, e2, t0, t1, r0⟩ : PenOk (dm F M3) H3 p ns n := R3.cel p _ hp
    have hpn : M3 p ≠ none := by rw [hp]; exact nofun
    have ne : q' ≠ p := fun z => n1 (.inr (by rw [z]; exact hpn))
    have fin : ∀ (t' r' : Int), 0 ≤ t' → t' ≤ (n' : Int) → 0 ≤ r' → N.nx Γ (upM M3 p (.pen ns n')) → D.nx σ (upd H3 p (.lst [.ref q', .int t', .int r'])) := fun t' r' a0 a1 b0 hk => by
      have g4 : Go H3 M3 (upd H3 p (.lst [.ref q', .int t', .int r'])) (upM M3 p (.pen ns n')) := Go.chg hpn
      refine L.nx _ _ _ _ hk (G.trans g4) (R.go (G.trans g4) (R3.chg hpn ⟨q', t', r', upd_same, fun z => ?_, ?_, a0, a1, b0⟩))
      · rcases z with z | z
        · exact n1 (.inl z)
        · rw [upM_ne ne] at z
          exact n1 (.inr z)
      · rw [upd_ne ne]
        exact e2
    rcases hi with ⟨rfl, t', rfl, a0, a1, hk⟩ | ⟨rfl, r', rfl, b0, hk⟩
    · cases i1
      cases i3
      exact ⟨p, _, 1, 1, rfl, rfl, e1, rfl, fin t' r a0 a1 r0 hk⟩
    · cases i1
      cases i3
      exact ⟨p, _, 2, 2, rfl, rfl, e1, rfl, fin t r' t0 (by omega) b0 hk⟩
end Dl

set_option Elab.async false
set_option linter.all false
set_option maxRecDepth 100000
set_option maxHeartbeats 2000000
/-! D6: facts about data: types, what == tells, what draws. -/
namespace Dl
open PySem PySem.Spec PyProof.Rows L2

/-! ### types -/
def tyOk (d : D) : Bool := (typeD d).isSome
def isInt : D → Bool | .int _ => true | .bl _ => true | _ => false
def isBool : D → Bool | .bl _ => true | _ => false
def isStr : D → Bool | .str _ => true | _ => false
def isTup : D → Bool | .tup _ => true | _ => false
def isLst : D → Bool | .lst _ => true | .scr _ => true | _ => false
def isDct : D → Bool | .dct _ => true | _ => false
theorem kit_all (a : String) (h : a = "NoneType" ∨ a = "bool" ∨ a = "int" ∨ a = "str" ∨ a = "list" ∨ a = "tuple" ∨ a = "dict") (n : String) (hn : n = "int" ∨ n = "bool" ∨ n = "str" ∨ n = "tuple" ∨ n = "list" ∨ n = "dict") :
    kitB a n = some (decide (a = n) || (decide (a = "bool") && decide (n = "int"))) := by
  rcases h with rfl | rfl | rfl | rfl | rfl | rfl | rfl <;> rcases hn with rfl | rfl | rfl | rfl | rfl | rfl <;> decide +kernel
theorem typeD_in {d : D} {a : String} (h : typeD d = some a) : a = "NoneType" ∨ a = "bool" ∨ a = "int" ∨ a = "str" ∨ a = "list" ∨ a = "tuple" ∨ a = "dict" := by
  cases d <;> cases h <;> simp
theorem isT_eq {d : D} {n : String} (hn : n = "int" ∨ n = "bool" ∨ n = "str" ∨ n = "tuple" ∨ n = "list" ∨ n = "dict") : isT n d = (typeD d).elim false (fun a => decide (a = n) || (decide (a = "bool") && decide (n = "int"))) := by
  unfold isT
  cases e : typeD d with
  | none => rfl
  | some a =>
    show (kitB a n == some true) = _
    rw [kit_all a (typeD_in e) n hn]
    show (some _ == some true) = (decide (a = n) || (decide (a = "bool") && decide (n = "int")))
    cases (decide (a = n) || (decide (a = "bool") && decide (n = "int"))) <;> rfl
theorem isTok_eq {d : D} {n : String} (hn : n = "int" ∨ n = "bool" ∨ n = "str" ∨ n = "tuple" ∨ n = "list" ∨ n = "dict") (h : tyOk d = true) : isTok n d = true := by
  unfold isTok
  unfold tyOk at h
  cases e : typeD d with
  | none => rw [e] at h; cases h
  | some a =>
    show (kitB a n).isSome = true
    rw [kit_all a (typeD_in e) n hn]
    rfl
theorem isT_int (d : D) : isT "int" d = isInt d := by rw [isT_eq (by simp)]; cases d <;> rfl
theorem isT_bool (d : D) : isT "bool" d = isBool d := by rw [isT_eq (by simp)]; cases d <;> rfl
theorem isT_str (d : D) : isT "str" d = isStr d := by rw [isT_eq (by simp)]; cases d <;> rfl
theorem isT_tup (d : D) : isT "tuple" d = isTup d := by rw [isT_eq (by simp)]; cases d <;> rfl
theorem isT_lst (d : D) : isT "list" d = isLst d := by rw [isT_eq (by simp)]; cases d <;> rfl
theorem isT_dct (d : D) : isT "dict" d = isDct d := by rw [isT_eq (by simp)]; cases d <;> rfl
theorem isTok_int {d : D} (h : tyOk d = true) : isTok "int" d = true := isTok_eq (by simp) h
theorem isTok_bool {d : D} (h : tyOk d = true) : isTok "bool" d = true := isTok_eq (by simp) h
theorem isTok_str {d : D} (h : tyOk d = true) : isTok "str" d = true := isTok_eq (by simp) h
theorem isTok_tup {d : D} (h : tyOk d = true) : isTok "tuple" d = true := isTok_eq (by simp) h
theorem isTok_lst {d : D} (h : tyOk d = true) : isTok "list" d = true := isTok_eq (by simp) h
theorem isTok_dct {d : D} (h : tyOk d = true) : isTok "dict" d = true := isTok_eq (by simp) h

/-! ### lists of ints, truths, signs are fit for == and repr -/
theorem toPys_map {α : Type} (f : α → D) : ∀ xs : List α, toPys (xs.map f) = xs.map fun x => toPy (f x)
  | [] => rfl
  | x :: xs => by
    show toPy (f x) :: toPys (xs.map f) = _
    rw [toPys_map f xs]
    rfl
theorem plains_all : ∀ xs : List D, plains xs = xs.all plain
  | [] => rfl
  | x :: xs => by
    show (plain x && plains xs) = _
    rw [plains_all xs]
    rfl
theorem canLay_all : ∀ xs : List PyData, PyData.canLayAll0 xs = xs.all PyData.canLay0
  | [] => by simp [PyData.canLayAll0]
  | x :: xs => by simp [PyData.canLayAll0, canLay_all xs]
theorem eqOk_int (i : Int) : eqOk (.int i) = true := by simp [eqOk, plain, toPy, SeqAt.shaped, PyData.canLay0, PyData.depth]
theorem eqOk_bl (i : Bool) : eqOk (.bl i) = true := by simp [eqOk, plain, toPy, SeqAt.shaped, PyData.canLay0, PyData.depth]
theorem eqOk_non : eqOk .non = true := by simp [eqOk, plain, toPy, SeqAt.shaped, PyData.canLay0, PyData.depth]
theorem eqOk_str {x : Str} (h : PyData.strOk x = true) : eqOk (.str x) = true := by simp [eqOk, plain, toPy, SeqAt.shaped, PyData.canLay0, PyData.depth, h]
theorem depth_flat : ∀ xs : List PyData, (∀ x ∈ xs, x.depth = 0) → PyData.depthAll xs = 0
  | [], _ => by simp [PyData.depthAll]
  | x :: xs, h => by
    have h1 := h x List.mem_cons_self
    have h2 := depth_flat xs fun y hy => h y (List.mem_cons_of_mem _ hy)
    simp [PyData.depthAll, h1, h2]
/-- a list of flat data that may be compared -/
theorem eqOk_flats {xs : List D} (h : ∀ x ∈ xs, eqOk x = true ∧ (toPy x).depth = 0) : eqOk (.lst xs) = true := by
  have h1 : plains xs = true := by
    rw [plains_all, List.all_eq_true]
    intro x hx
    exact (Bool.and_eq_true_iff.mp (h x hx).1).1
  have h2 : PyData.canLayAll0 (toPys xs) = true := by
    rw [show toPys xs = xs.map toPy by rw [← List.map_id xs, toPys_map]; simp, canLay_all, List.all_eq_true]
    intro y hy
    obtain ⟨x, hx, rfl⟩ := List.mem_map.mp hy
    exact SeqAt.canLay_of_shaped (Bool.and_eq_true_iff.mp (h x hx).1).2
  have h3 : PyData.depthAll (toPys xs) = 0 := by
    rw [show toPys xs = xs.map toPy by rw [← List.map_id xs, toPys_map]; simp]
    refine depth_flat _ fun y hy => ?_
    obtain ⟨x, hx, rfl⟩ := List.mem_map.mp hy
    exact (h x hx).2
  unfold eqOk
  show (plains xs && (PyData.canLay0 (.list (toPys xs)) && decide (PyData.depth (.list (toPys xs)) ≤ 64))) = true
  rw [h1]
  simp [PyData.canLay0, PyData.depth, h2, h3]
theorem eqOk_ints (ns : List Int) : eqOk (.lst (ns.map .int)) = true := eqOk_flats fun x hx => by
  obtain ⟨i, _, rfl⟩ := List.mem_map.mp hx
  exact ⟨eqOk_int i, by simp [toPy, PyData.depth]⟩
theorem eqOk_bls (ns : List Bool) : eqOk (.lst (ns.map .bl)) = true := eqOk_flats fun x hx => by
  obtain ⟨i, _, rfl⟩ := List.mem_map.mp hx
  exact ⟨eqOk_bl i, by simp [toPy, PyData.depth]⟩
theorem eqOk_strs {ns : List Str} (h : ∀ x ∈ ns, PyData.strOk x = true) : eqOk (.lst (ns.map .str)) = true := eqOk_flats fun x hx => by
  obtain ⟨i, hi, rfl⟩ := List.mem_map.mp hx
  exact ⟨eqOk_str (h i hi), by simp [toPy, PyData.depth]⟩
theorem eqOk_nil : eqOk (.lst []) = true := eqOk_ints []
theorem eqD_int (i j : Int) : eqD (.int i) (.int j) = decide (i = j) := by
  simp only [eqD, toPy, PyData.eqv]
  exact Bool.eq_iff_iff.mpr (by simp)
theorem eqD_str (i j : Str) : eqD (.str i) (.str j) = decide (i = j) := by
  simp only [eqD, toPy, PyData.eqv]
  exact Bool.eq_iff_iff.mpr (by simp)
theorem eqD_bl (i j : Bool) : eqD (.bl i) (.bl j) = (i == j) := by simp only [eqD, toPy, PyData.eqv]
theorem eqD_nil (xs : List D) : eqD (.lst xs) (.lst []) = xs.isEmpty := by
  cases xs <;> simp [eqD, toPy, toPys, PyData.eqv, PyData.eqvAll]
theorem eqvAll_strs : ∀ xs ys : List Str, PyData.eqvAll (xs.map PyData.str) (ys.map PyData.str) = decide (xs = ys)
  | [], [] => by simp [PyData.eqvAll]
  | [], _ :: _ => by simp [PyData.eqvAll]
  | _ :: _, [] => by simp [PyData.eqvAll]
  | x :: xs, y :: ys => by
    have e := eqvAll_strs xs ys
    simp only [List.map_cons, PyData.eqvAll, PyData.eqv, e]
    exact Bool.eq_iff_iff.mpr (by simp)
theorem eqvAll_bls : ∀ xs ys : List Bool, PyData.eqvAll (xs.map PyData.bool) (ys.map PyData.bool) = decide (xs = ys)
  | [], [] => by simp [PyData.eqvAll]
  | [], _ :: _ => by simp [PyData.eqvAll]
  | _ :: _, [] => by simp [PyData.eqvAll]
  | x :: xs, y :: ys => by
    have e := eqvAll_bls xs ys
    simp only [List.map_cons, PyData.eqvAll, PyData.eqv, e]
    exact Bool.eq_iff_iff.mpr (by simp)
theorem toPys_strs (xs : List Str) : toPys (xs.map D.str) = xs.map PyData.str := by rw [toPys_map]; rfl
theorem toPys_bls (xs : List Bool) : toPys (xs.map D.bl) = xs.map PyData.bool := by rw [toPys_map]; rfl
theorem eqD_strs (xs ys : List Str) : eqD (.lst (xs.map .str)) (.lst (ys.map .str)) = decide (xs = ys) := by
  show PyData.eqv (.list (toPys (xs.map D.str))) (.list (toPys (ys.map D.str))) = _
  rw [toPys_strs, toPys_strs]
  simp only [PyData.eqv]
  exact eqvAll_strs xs ys
theorem eqD_bls (xs ys : List Bool) : eqD (.lst (xs.map .bl)) (.lst (ys.map .bl)) = decide (xs = ys) := by
  show PyData.eqv (.list (toPys (xs.map D.bl))) (.list (toPys (ys.map D.bl))) = _
  rw [toPys_bls, toPys_bls]
  simp only [PyData.eqv]
  exact eqvAll_bls xs ys

/-! ### walks by data -/
/-- a comprehension whose elements and tests are known: g the element, c the test -/
theorem LcD_pure {g : FG} {tt : FT} {te : FE} {Γ : GE} {M : MS} {k : List D → MS → Prop} {c : D → Bool} {v : D → D} : ∀ (xs acc : List D), acc.length + xs.length ≤ sizeLine →
    (∀ x ∈ xs, ∀ (k' : D → MS → Prop) (k2 : MS → Prop), (c x = true → k' (v x) M) → (c x = false → k2 M) → g x Γ fun Γ1 => tt Γ1 M (fun b M1 => if b = true then te Γ1 M1 k' noX else k2 M1) noX) →
    k (acc ++ (xs.filter c).map v) M → LcD g tt te Γ k xs acc M
  | [], acc, _, _, hk => by
    rw [List.filter_nil, List.map_nil, List.append_nil] at hk
    exact hk
  | x :: xs, acc, hl, h, hk => by
    rw [List.length_cons] at hl
    refine h x List.mem_cons_self _ (fun M1 => LcD g tt te Γ k xs acc M1) (fun hc => ⟨by omega, ?_⟩) (fun hc => ?_)
    · refine LcD_pure xs (acc ++ [v x]) (by rw [List.length_append]; show acc.length + 1 + xs.length ≤ _; omega) (fun y hy => h y (List.mem_cons_of_mem _ hy)) ?_
      rw [List.filter_cons, if_pos hc, List.map_cons] at hk
      rw [List.append_assoc]
      exact hk
    · refine LcD_pure xs acc (by omega) (fun y hy => h y (List.mem_cons_of_mem _ hy)) ?_
      rw [List.filter_cons, if_neg (by rw [hc]; exact Bool.false_ne_true)] at hk
      exact hk
/-- .. without a test -/
theorem LcD_map {g : FG} {te : FE} {Γ : GE} {M : MS} {k : List D → MS → Prop} {v : D → D} (xs : List D) (hl : xs.length ≤ sizeLine)
    (h : ∀ x ∈ xs, ∀ (k' : D → MS → Prop), k' (v x) M → g x Γ fun Γ1 => te Γ1 M k' noX) (hk : k (xs.map v) M) : LcD g fYes te Γ k xs [] M := by
  refine LcD_pure (c := fun _ => true) (v := v) xs [] (by rw [List.length_nil, Nat.zero_add]; exact hl) (fun x hx k' k2 h1 h2 => ?_) (by rw [List.filter_eq_self.mpr (fun _ _ => rfl), List.nil_append]; exact hk)
  exact h x hx _ (h1 rfl)
/-- a comprehension that draws: P the turn's number, J what holds of the pens behind so many turns -/
theorem LcD_rel {g : FG} {te : FE} {Γ : GE} {k : List D → MS → Prop} {R : D → Prop} {J : Nat → MS → Prop} : ∀ (xs acc : List D) (n : Nat) (M : MS), acc.length + xs.length ≤ sizeLine → J n M → (∀ y ∈ acc, R y) →
    (∀ x ∈ xs, ∀ (m : Nat) (M : MS) (k' : D → MS → Prop), J m M → (∀ y M1, R y → J (m + 1) M1 → k' y M1) → g x Γ fun Γ1 => te Γ1 M k' noX) →
    (∀ (ys : List D) (M1 : MS), ys.length = acc.length + xs.length → (∀ y ∈ ys, R y) → J (n + xs.length) M1 → k ys M1) → LcD g fYes te Γ k xs acc M
  | [], acc, n, M, _, hj, hr, _, hk => hk acc M rfl hr hj
  | x :: xs, acc, n, M, hl, hj, hr, h, hk => by
    rw [List.length_cons] at hl hk
    refine h x List.mem_cons_self n M _ hj fun y M1 hy h1 => ⟨by omega, ?_⟩
    refine LcD_rel xs (acc ++ [y]) (n + 1) M1 (by rw [List.length_append]; show acc.length + 1 + xs.length ≤ _; omega) h1 (fun z hz => ?_) (fun z hz => h z (List.mem_cons_of_mem _ hz)) fun ys M2 e hr2 h2 => ?_
    · rcases List.mem_append.mp hz with hz | hz
      · exact hr z hz
      · rw [List.mem_singleton.mp hz]; exact hy
    · refine hk ys M2 ?_ hr2 ?_
      · rw [e, List.length_append]
        show acc.length + 1 + xs.length = _
        omega
      · rw [show n + (xs.length + 1) = n + 1 + xs.length by omega]
        exact h2
/-- a for loop by a word J on the turn -/
theorem ForD_inv {g : FG} {fb : FS} {N : Nd} {J : Nat → GE → MS → Prop} : ∀ (xs : List D) (n : Nat) (Γ : GE) (M : MS), J n Γ M →
    (∀ (i : Nat) (x : D), xs[i]? = some x → ∀ (Γ : GE) (M : MS), J (n + i) Γ M → ∀ nx : GE → MS → Prop, (∀ Γ' M', J (n + i + 1) Γ' M' → nx Γ' M') → g x Γ fun Γ1 => fb { N with nx := nx, ct := nx, bk := N.nx } Γ1 M) →
    (∀ Γ M, J (n + xs.length) Γ M → N.nx Γ M) → ForD g fb N xs Γ M
  | [], n, Γ, M, hj, _, hd => hd Γ M hj
  | x :: xs, n, Γ, M, hj, hs, hd => by
    refine hs 0 x rfl Γ M hj _ fun Γ' M' h' => ?_
    refine ForD_inv xs (n + 1) Γ' M' h' (fun i y e Γ2 M2 h2 nx hn => ?_) fun Γ2 M2 h2 => hd Γ2 M2 (by rw [List.length_cons, show n + (xs.length + 1) = n + 1 + xs.length by omega]; exact h2)
    refine hs (i + 1) y (by rw [List.getElem?_cons_succ]; exact e) Γ2 M2 (by rw [show n + (i + 1) = n + 1 + i by omega]; exact h2) nx fun Γ' M' h' => hn Γ' M' (by rw [show n + 1 + i + 1 = n + (i + 1) + 1 by omega]; exact h')
end Dl

set_option Elab.async false
set_option linter.all false
set_option maxRecDepth 100000
set_option maxHeartbeats 4000000
/-! D7: sets of texts: set(a list of texts), sorted of it. -/
namespace Dl
open PySem PySem.Spec PyProof.Rows L2

/-- the text that an element holds -/
def txtOf (e : Int × Value) : Str := match e.2 with
  | .str x _ => x
  | _ => Str.empty
/-- a set of texts at a: S its members, at most n of them -/
def RS (P : Program) (w : World) (h : Heap) (a : Addr) (S : Str → Bool) (n : Nat) : Prop :=
  ∃ o es ep t, h.get? a = some o ∧ o.ExactSet ∧ o.data = .set es ep t ∧ ElemsOf (PySem.strKind P w) es.toList ∧ (es.toList.map txtOf).Nodup ∧ (∀ k, S k = true ↔ k ∈ es.toList.map txtOf) ∧
    es.size < scanBound ∧ t.fits es.size = true ∧ es.size ≤ n ∧ Ris t.place.toList ∧ (w.params.followText "set-order" = true ∨ t.led = true)
section
variable {P : Program} {w : World} {h h' : Heap} {a : Addr} {S : Str → Bool} {n : Nat}
theorem RS.moved (R : RS P w h a S n) (k : ∀ o, h.get? a = some o → h'.get? a = some o) : RS P w h' a S n := R.imp fun o z => z.imp fun es z => z.imp fun ep z => z.imp fun t z => ⟨k o z.1, z.2⟩
theorem RS.congr {S' : Str → Bool} {m : Nat} (R : RS P w h a S n) (e : ∀ k, S' k = S k) (hm : n ≤ m) : RS P w h a S' m := by
  obtain ⟨o, es, ep, t, h1, h2, h3, h4, h5, h6, h7, h8, h9, h10⟩ := R
  exact ⟨o, es, ep, t, h1, h2, h3, h4, h5, fun k => by rw [e k]; exact h6 k, h7, h8, Nat.le_trans h9 hm, h10⟩
theorem el_shape {l : List (Int × Value)} (g : ElemsOf (PySem.strKind P w) l) {e : Int × Value} (he : e ∈ l) : ∃ t, e.2 = .str (txtOf e) t := by
  obtain ⟨⟨k, h1, _⟩, _⟩ := g e he
  obtain ⟨t, h2⟩ := Value.isStrOf_shape h1
  refine ⟨t, ?_⟩
  unfold txtOf
  rw [h2]
theorem el_is {l : List (Int × Value)} (g : ElemsOf (PySem.strKind P w) l) {e : Int × Value} (he : e ∈ l) (k : Str) : (PySem.strKind P w).is k e.2 = true ↔ txtOf e = k := by
  obtain ⟨t, h⟩ := el_shape g he
  rw [h]
  constructor
  · intro q
    have q1 : Value.isStrOf k (.str (txtOf e) t) = true := q
    obtain ⟨t', q2⟩ := Value.isStrOf_shape q1
    injection q2
  · intro q
    rw [q]
    exact PySem.strKind_is P w k t
end
section
variable {P : Program} {w : World} {A : Around} {E : Value → Shared → Prop} {s : Shared} {a : Addr} {S : Str → Bool} {n : Nat}
/-- the end of an adding: the new table stored, perhaps laid anew -/
theorem rs_tail {g : Bool → Sem Unit} (hg : ∀ (b : Bool) (s₁ : Shared) (Q' : Unit → Shared → Prop), Q' () s₁ → wpAny (model P w) A (g b) Q' E s₁)
    {o : Obj} {es : Array (Int × Value)} {ep : Nat} {t : SetTable} (ho : s.heap.get? a = some o) (hex : o.ExactSet) (hd : o.data = .set es ep t)
    {es1 : Array (Int × Value)} {t2 : SetTable} {S' : Str → Bool} (g1 : ElemsOf (PySem.strKind P w) es1.toList) (nd1 : (es1.toList.map txtOf).Nodup) (m1 : ∀ k, S' k = true ↔ k ∈ es1.toList.map txtOf)
    (hb1 : es1.size < scanBound) (hn1 : es1.size ≤ n) (hf2 : t2.fits es1.size = true) (hr : Ris t2.place.toList) (hl : w.params.followText "set-order" = true ∨ t2.led = true) {wasDummy : Bool} {R : Option Bool → Shared → Prop}
    (hR : ∀ h', Heap.SameBut a s.heap h' → RS P w h' a S' n → R (some true) { s with heap := h' }) :
    wpAny (model P w) A (do
        storeSet a es1 t2
        if (!wasDummy && t2.tooFull) = true then do
            g (relayAll t2 es1 (SetTable.grown es1.size)).2.2
            storeSet a (relayAll t2 es1 (SetTable.grown es1.size)).1 (relayAll t2 es1 (SetTable.grown es1.size)).2.1
            pure (some true)
          else pure (some true)) R E s := by
  refine wpAny_bind (wpAny_storeSet_of ho hd ?_ (fits_of_scanBound hb1))
  have ho1 := store_at (es' := es1) (t' := t2) ho hd
  have sb1 := Heap.SameBut.update s.heap a (Obj.putSet es1 t2)
  by_cases hc : (!wasDummy && t2.tooFull) = true
  · rw [if_pos hc]
    have pm := relayAll_perm t2 es1 (SetTable.grown es1.size)
    have hsz : (relayAll t2 es1 (SetTable.grown es1.size)).1.size = es1.size := by
      rw [← Array.length_toList, pm.length_eq, Array.length_toList]
    have hb2 : (relayAll t2 es1 (SetTable.grown es1.size)).1.size < scanBound := by rw [hsz]; exact hb1
    refine wpAny_bind (hg _ _ _ (wpAny_bind (wpAny_storeSet_of ho1 rfl ?_ (fits_of_scanBound hb2))))
    have ho2 := store_at (es' := (relayAll t2 es1 (SetTable.grown es1.size)).1) (t' := (relayAll t2 es1 (SetTable.grown es1.size)).2.1) ho1 rfl
    refine wpAny_pure (hR _ (sb1.trans (Heap.SameBut.update _ a _)) ⟨_, _, _, _, ho2, hex, rfl, g1.perm pm, (pm.map txtOf).nodup_iff.mpr nd1, fun k => (m1 k).trans (pm.map txtOf).mem_iff.symm, hb2, relayAll_fits t2 es1 _, by rw [hsz]; exact hn1, relayAll_ris t2 es1 _, ?_⟩)
    rcases hl with z | z
    · exact .inl z
    · exact .inr ((relayAll_led t2 es1 _).trans z)
  · rw [if_neg hc]
    exact wpAny_pure (hR _ sb1 ⟨_, es1, _, t2, ho1, hex, rfl, g1, nd1, m1, hb1, hf2, hn1, hr, hl⟩)

/-- a text is added -/
theorem rs_add {k : Str} {tk : Tok} {Q : Bool → Shared → Prop} (R : RS P w s.heap a S n) (room : n + 1 < scanBound)
    (hQ : ∀ h' b, Heap.SameBut a s.heap h' → RS P w h' a (fun j => S j || decide (j = k)) (n + 1) → Q b { s with heap := h' }) :
    wpAny (model P w) A (setAddHashed a (.str k tk) ((PySem.strKind P w).hash k)) Q E s := by
  obtain ⟨o, es, ep, t, ho, hex, hd, hel, nd, hm, hb, hf, hn, hr, hl⟩ := R
  have hkey : (PySem.strKind P w).is k (.str k tk) = true := PySem.strKind_is P w k tk
  have hsc : (Value.str k tk).scannable = true := rfl
  unfold setAddHashed setAddHashedIn
  refine wpAny_holding (wpAny_bind (wpAny_setState_of ho hd hf ?_))
  dsimp only
  rw [byScan_of hsc hb hel, if_pos rfl]
  unfold setAddByScan
  refine wpAny_bind (wpAny_bind (wpAny_rule (wpAny_bind (wpAny_setScan_of hkey ho hd hf hel ?_))))
  cases hfi : List.findIdx? (fun e => (PySem.strKind P w).is k e.2) es.toList with
  | some j =>
    dsimp only
    obtain ⟨hj, pj, _⟩ := List.findIdx?_eq_some_iff_getElem.mp hfi
    have hin : k ∈ es.toList.map txtOf := List.mem_map.mpr ⟨es.toList[j], List.getElem_mem hj, (el_is hel (List.getElem_mem hj) k).mp pj⟩
    refine wpAny_pure (wpAny_pure (hQ s.heap false (Heap.SameBut.refl a s.heap) ⟨o, es, ep, t, ho, hex, hd, hel, nd, fun i => ?_, hb, hf, Nat.le_succ_of_le hn, hr, hl⟩))
    rw [Bool.or_eq_true, decide_eq_true_eq, hm i]
    exact ⟨fun z => z.elim id fun e => e ▸ hin, .inl⟩
  | none =>
    dsimp only
    have hnk : k ∉ es.toList.map txtOf := fun z => by
      obtain ⟨e, he, q⟩ := List.mem_map.mp z
      have c := List.findIdx?_eq_none_iff.mp hfi e he
      rw [(el_is hel he k).mpr q] at c
      cases c
    have hgw : ∀ (b : Bool) {s₁ : Shared} {Q' : Unit → Shared → Prop}, Q' () s₁ → wpAny (model P w) A (match b with | true => rule "set.scan.the-table-gave-way" | false => pure ()) Q' E s₁ := by
      intro b s₁ Q' q
      cases b
      · exact wpAny_pure q
      · exact wpAny_rule q
    have pm := layNew_perm t es ((PySem.strKind P w).hash k) (.str k tk)
    have hf1 := layNew_fits t es ((PySem.strKind P w).hash k) (.str k tk)
    have hr1 := layNew_ris t es ((PySem.strKind P w).hash k) (.str k tk) hr
    have hl1 := layNew_led t es ((PySem.strKind P w).hash k) (.str k tk)
    generalize layNew t es ((PySem.strKind P w).hash k) (.str k tk) = Z at pm hf1 hr1 hl1 ⊢
    obtain ⟨es1, t1, wasDummy, gave⟩ := Z
    dsimp only at pm hf1 hr1 hl1 ⊢
    rw [Array.toList_push] at pm
    have g1 : ElemsOf (PySem.strKind P w) es1.toList := (hel.push hkey hsc).perm pm
    have pk : (es1.toList.map txtOf).Perm (k :: es.toList.map txtOf) := (pm.trans (List.perm_append_singleton _ _)).map txtOf
    have nd1 : (es1.toList.map txtOf).Nodup := pk.nodup_iff.mpr (List.nodup_cons.mpr ⟨hnk, nd⟩)
    have m1 : ∀ i, (S i || decide (i = k)) = true ↔ i ∈ es1.toList.map txtOf := fun i => by
      rw [Bool.or_eq_true, decide_eq_true_eq, hm i, pk.mem_iff, List.mem_cons]
      exact Or.comm
    have hsz : es1.size ≤ n + 1 := by
      have e := pm.length_eq
      rw [List.length_append, Array.length_toList, Array.length_toList] at e
      show es1.size ≤ _
      rw [e]
      exact Nat.succ_le_succ hn
    have hb1 : es1.size < scanBound := Nat.lt_of_le_of_lt hsz room
    have hled : w.params.followText "set-order" = true ∨ t1.led = true := hl.imp id fun z => hl1.trans z
    refine wpAny_bind (hgw _ ?_)
    split
    · refine wpAny_bind ?_
      rw [hashByValue_scannable 8 hsc]
      refine wpAny_pure (rs_tail ?_ ho hex hd g1 nd1 m1 hb1 hsz ?_ ?_ ?_ ?_)
      · intro b s₁ Q' q
        cases b
        · exact wpAny_pure q
        · exact wpAny_rule q
      · first | (split <;> first | exact hf1 | exact SetTable.fits_plain_off hf1) | exact hf1
      · first | (split <;> exact hr1) | exact hr1
      · first | (split <;> exact hled) | exact hled
      · intro h' sb r
        exact wpAny_pure (hQ h' true sb r)
    · refine wpAny_bind (wpAny_pure ?_)
      rw [if_pos rfl]
      refine rs_tail ?_ ho hex hd g1 nd1 m1 hb1 hsz hf1 hr1 hled ?_
      · intro b s₁ Q' q
        cases b
        · exact wpAny_pure q
        · exact wpAny_rule q
      · intro h' sb r
        exact wpAny_pure (hQ h' true sb r)
end
section
variable {prog : Program} {w : World} {A : Around} {R : Result → Shared → Prop} {I : Addr} {fp wr : List Addr} {G : Array GenState → Array GenState → Prop} {n : Nat} {Pv : Nat → Value → Prop} {St : Nat → Shared → Prop}
def memB (xs : List Str) : Str → Bool := fun k => decide (k ∈ xs)
/-- a set is filled from what an iterator yields -/
theorem rs_loop (W : WalksS prog w A.in1 I fp wr G n Pv St) (S : Addr) (hSf : S ∉ fp) (xs : List Str) (hval : ∀ i v, Pv i v → ∃ x t, xs[i]? = some x ∧ v = .str x t) (hb : n + 1 < scanBound) :
    ∀ (k i : Nat) (s : Shared), n - i = k → i ≤ n → St i s → RS prog w s.heap S (memB (xs.take i)) i →
      (∀ s', Moved (S :: wr) G s s' → RS prog w s'.heap S (memB (xs.take n)) n → R (.ok (.ret .none)) s') → codeAny (model prog w) A (.builtin "set.update.loop" ⟨[.ref S, .ref I], []⟩) R s := by
  have hSw : S ∉ wr := fun h => hSf (W.sub _ h)
  have hsub : ∀ b ∈ wr, b ∈ S :: wr := fun b hb => List.mem_cons_of_mem _ hb
  intro k
  induction k with
  | zero =>
    intro i s hk hi hst hS hR
    obtain rfl : i = n := by omega
    refine codeAny_builtin PyProof.Rows.F.entry_set_update_loop ?_
    rw [Around.under_plainId PyProof.Rows.F.plain_set_update_loop _]
    show wpAny _ A.in1 (pyNext (.ref I) >>= _) _ _ s
    refine wpAny_bind (W.done s _ _ hst fun s' hm => ?_)
    exact wpAny_pure (hR s' (hm.mono hsub) (hS.moved fun o e => hm.heap S _ hSw e))
  | succ k ih =>
    intro i s hk hi hst hS hR
    have hlt : i < n := by omega
    refine codeAny_builtin PyProof.Rows.F.entry_set_update_loop ?_
    rw [Around.under_plainId PyProof.Rows.F.plain_set_update_loop _]
    show wpAny _ A.in1 (pyNext (.ref I) >>= _) _ _ s
    refine wpAny_bind (W.item i s _ _ hlt hst fun v s' hP hst' hm => ?_)
    obtain ⟨x, t, hx, rfl⟩ := hval i v hP
    have hS' : RS prog w s'.heap S (memB (xs.take i)) i := hS.moved fun o e => hm.heap S _ hSw e
    show wpAny _ A.in1 (holding [Value.str x t] (setAdd S (.str x t)) >>= _) _ _ s'
    refine wpAny_bind (wpAny_holding ?_)
    unfold setAdd
    refine wpAny_holding (wpAny_bind ((PySem.strKind prog w).pyHash (k := x) (PySem.strKind_is _ _ _ _) ?_))
    refine rs_add (s := { s' with toks := s'.toks + 1 }) hS' (by omega) fun h' b hsb hS2 => ?_
    have hS3 : RS prog w h' S (memB (xs.take (i + 1))) (i + 1) := hS2.congr (fun j => by
      unfold memB
      rw [List.take_add_one, hx]
      exact Bool.eq_iff_iff.mpr (by simp)) (Nat.le_refl _)
    refine wpAny_pure ⟨plainId_quiet PyProof.Rows.F.plain_set_update_loop _, ih (i + 1) _ (by omega) hlt (W.frame _ s' _ _ hst' (Nat.le_succ _) fun b hb o e => ?_) hS3 fun s'' hm'' hS'' => ?_⟩
    · rw [hsb.2 b (fun z => hSf (z ▸ hb))]
      exact e
    · refine hR s'' (Moved.trans W.gtrans ((hm.mono hsub).then_heap (Nat.le_succ _) fun b o hb e => ?_) hm'') hS''
      rw [hsb.2 b (fun z => hb (by rw [z]; exact List.mem_cons_self))]
      exact e
end
end Dl

set_option Elab.async false
set_option linter.all false
set_option maxRecDepth 100000
set_option maxHeartbeats 4000000
/-! D8: set(a list of texts), sorted of it. -/
namespace Dl
open PySem PySem.Spec PyProof.Rows L2

/-- a set just made -/
abbrev nuSet (w : World) : Obj := { cls := .type "set", dict := none, data := .set #[] 0 (.fresh 0 0 (!w.params.followText "set-order")) }
section
variable {P : Program} {w : World} {A : Around} {E : Value → Shared → Prop} {s : Shared}
theorem mk_set (a : Value) {R : Value → Shared → Prop} (h : R (.ref s.heap.objs.size) { s with heap := s.heap.push (nuSet w) }) :
    codeAny (model P w) A (.call (.builtin "set.__new__") ⟨[.type "set", a], []⟩) (wants R E) s := by
  refine codeAny_of_tree ?_
  show wpAny _ A.in1 (checkBuiltinCall "set.__new__" ⟨[.type "set", a], []⟩ >>= fun _ => again (.builtin "set.__new__" ⟨[.type "set", a], []⟩)) _ _ s
  refine wpAny_bind (wpAny_of_eq (PySem.F.newCall_set_1 a) (wpAny_pure ⟨plainId_quiet PySem.F.plain_set_new _, codeAny_builtin PySem.F.entry_set_new ?_⟩))
  rw [Around.under_plainId PySem.F.plain_set_new _]
  unfold Builtin.«set.__new__» Builtin.Frozenset.newClass
  have q := sub_set_self
  obtain ⟨hp, g, d, tk, os⟩ := s
  dsimp only
  wp_walk
  refine wpAny_askSetting (wpAny_pure ?_)
  dsimp only
  simp only [newObj]
  exact wpAny_bind (wpAny_alloc (wpAny_pure (wpAny_pure h)))
theorem rs_nu {h : Heap} : RS P w (h.push (nuSet w)) h.objs.size (memB []) 0 :=
  ⟨_, #[], 0, _, Heap.get?_push_size _ rfl, ⟨rfl, rfl, rfl⟩, rfl, fun e he => by simp at he, by simp, fun k => by simp [memB], by decide, by rfl, Nat.le_refl _, List.Pairwise.nil, by
    show _ ∨ (!w.params.followText "set-order") = true
    cases w.params.followText "set-order" <;> simp⟩
theorem str_at : ∀ {vs : List Value} {xs : List Str}, StrsAre vs xs → ∀ (i : Nat) (v : Value), vs[i]? = some v → ∃ x t, xs[i]? = some x ∧ v = .str x t
  | _, _, .nil, i, v, h => by simp at h
  | _, _, .cons n t r, 0, v, h => ⟨n, t, rfl, (Option.some.inj h).symm⟩
  | _, _, .cons n t r, i + 1, v, h => by
    rw [List.getElem?_cons_succ] at h
    obtain ⟨x, t', e1, e2⟩ := str_at r i v h
    exact ⟨x, t', by rw [List.getElem?_cons_succ]; exact e1, e2⟩
/-- set(a list of texts) -/
theorem set_of_list {l : Addr} {items : Array Value} {xs : List Str} {Q : Value → Shared → Prop} (hh : A.handled = none) (hl : s.heap.IsList l items) (hi : StrsAre items.toList xs) (hb : items.size + 1 < scanBound)
    (h : ∀ (h' : Heap) (tk : Nat), RS P w h' s.heap.objs.size (memB xs) items.size → (∀ b o, b < s.heap.objs.size → s.heap.get? b = some o → h'.get? b = some o) → Q (.ref s.heap.objs.size) { s with heap := h', toks := tk }) :
    wpAny (model P w) A (call (.type "set") [.ref l]) Q E s := by
  obtain ⟨c, tl, m1⟩ := PySem.F.called_set.mro
  have m2 := PySem.F.called_set.made
  have m3 := PySem.F.called_set.sub
  refine wpAny_call (codeAny_of_tree ?_)
  show wpAny _ _ (callAny (.type "set") _) _ _ _
  refine wpAny_pure ⟨Code.quiet_builtin _ (by decide +kernel), codeAny_builtin PySem.F.entry_type_call ?_⟩
  rw [Around.under_plain (weight_type_call_type "set" [.ref l] []) rfl]
  have m4 := PySem.F.called_set.notType
  have m5 := PySem.F.called_set.canCreate
  have m6 := PySem.F.typeCall_set_1 (.ref l)
  repeat (any_goals (first | assumption | wp_step))
  refine codeAny_mono (mk_set (.ref l) (E := E) (R := fun obj s₁ => obj = .ref s.heap.objs.size ∧ s₁ = { s with heap := s.heap.push (nuSet w) }) ⟨rfl, rfl⟩) fun r s₁ hr => ?_
  match r, hr with
  | .error e, hr => exact hr
  | .ok (.ret obj), ⟨e1, e2⟩ =>
    subst e1
    subst e2
    have hS : (s.heap.push (nuSet w)).get? s.heap.objs.size = some (nuSet w) := Heap.get?_push_size _ rfl
    have hT : Shared.TypeIs { s with heap := s.heap.push (nuSet w) } (.ref s.heap.objs.size) "set" := ⟨_, hS, rfl⟩
    have n1 := PySem.F.called_set.init.lookup
    have n2 := PySem.F.called_set.init.bind (.ref s.heap.objs.size)
    repeat (any_goals (first | assumption | wp_step))
    refine codeAny_mono (codeAny_call_builtin (R := wants (fun r s₂ => r = .none ∧ ∃ h' tk, s₂ = { s with heap := h', toks := tk } ∧ RS P w h' s.heap.objs.size (memB xs) items.size ∧
        (∀ b o, b < s.heap.objs.size → s.heap.get? b = some o → h'.get? b = some o)) E) PySem.F.called_set.init.plain PySem.F.entry_set_init (check_set_init_1 hT ?_)) fun r₂ s₂ hr₂ => ?_
    · obtain ⟨ol, hol, hcl, nl, hdl⟩ := hl
      obtain ⟨oc, od, odata, os⟩ := ol
      simp only at hcl hdl
      subst hcl
      subst hdl
      have hol' : (s.heap.push (nuSet w)).get? l = some { cls := .type "list", dict := od, data := .seq items nl, slots := os } := Heap.get?_push_of_some _ hol
      have k1 := PySem.F.sub_list_set
      have k2 := PySem.F.sub_list_frozenset
      have k3 : (Value.type "list" == Value.type "dict") = false := by decide
      have hl1 : (s.heap.push (nuSet w)).IsList l items := ⟨_, hol', rfl, nl, rfl⟩
      unfold Builtin.«set.__init__» noKeywords Builtin.Frozenset.updateFrom
      generalize hPI : pyIter = PI
      wp_walk
      subst hPI
      refine wpAny_pyIter_list hl1 (wpAny_bind (wpAny_runValue ?_))
      have hlS : l < s.heap.objs.size := Heap.lt_size hol
      have h3 : A.in1.in1.in1.handled = none := by simp [hh]
      have hsz : (s.heap.push (nuSet w)).objs.size = s.heap.objs.size + 1 := Heap.size_push _ _
      have hneI : l ≠ (s.heap.push (nuSet w)).objs.size := by rw [hsz]; exact Nat.ne_of_lt (Nat.lt_succ_of_lt hlS)
      have hSf : s.heap.objs.size ∉ [(s.heap.push (nuSet w)).objs.size, l] := by
        rw [hsz]
        simp only [List.mem_cons, List.not_mem_nil, or_false, not_or]
        exact ⟨Nat.ne_of_lt (Nat.lt_succ_self _), Nat.ne_of_gt hlS⟩
      have hR0 : RS P w ((s.heap.push (nuSet w)).push { cls := .type "list_iterator", data := .fields #[.ref l, .int 0 0] }) s.heap.objs.size (memB (xs.take 0)) 0 := rs_nu.moved fun o e => Heap.get?_push_of_some _ e
      have hxl : xs.length = items.size := by
        have := hi.length
        rw [Array.length_toList] at this
        omega
      refine rs_loop (Walks.list h3 _ l hneI items).toS s.heap.objs.size hSf xs (fun i v hv => str_at hi i v (by rw [Array.getElem?_toList]; exact hv)) hb (items.size - 0) 0 _ rfl (Nat.zero_le _) ⟨⟨_, Heap.get?_push_size _ rfl, rfl, rfl⟩, hl1.push _⟩ hR0 fun s' hm hS' => ?_
      obtain ⟨h', g', d', tk', os'⟩ := s'
      have eg : g' = s.gens := hm.gens
      have ed : d' = s.drawn := hm.drawn
      have eo : os' = s.os := hm.os
      subst eg
      subst ed
      subst eo
      show wpAny _ _ _ _ _ _
      refine wpAny_pure ?_
      show wpAny _ _ (ret Value.none) _ _ _
      refine wpAny_pure ⟨rfl, h', tk', rfl, ?_, fun b o hb e => ?_⟩
      · rw [← hxl, List.take_length] at hS'
        rw [← hxl]
        exact hS'
      · refine hm.heap b o ?_ (Heap.get?_push_of_some _ (Heap.get?_push_of_some _ e))
        rw [hsz]
        simp only [List.mem_cons, List.not_mem_nil, or_false, not_or]
        exact ⟨Nat.ne_of_lt hb, Nat.ne_of_lt (Nat.lt_succ_of_lt hb)⟩
    · match r₂, hr₂ with
      | .error e, hr₂ => exact hr₂
      | .ok (.ret r), hr₂ =>
        obtain ⟨e1, h', tk, e2, hS', hk'⟩ := hr₂
        subst e1
        subst e2
        repeat (any_goals (first | assumption | wp_step))
        exact h _ _ hS' hk'
end
end Dl

set_option Elab.async false
set_option linter.all false
set_option maxRecDepth 100000
set_option maxHeartbeats 4000000
/-! D9: sorted(set(a list of texts)), zip of two lists, an empty dict. -/
namespace Dl
open PySem PySem.Spec PyProof.Rows L2

/-! ### the order of texts -/
def ltS (a b : Str) : Bool := ltCps a.cps.toList b.cps.toList
theorem ltC_irr : ∀ a : List Nat, ltCps a a = false
  | [] => rfl
  | a :: r => by simp [ltCps, ltC_irr r]
theorem ltC_trans : ∀ a b c : List Nat, ltCps a b = true → ltCps b c = true → ltCps a c = true
  | [], [], _, h, _ => by simp [ltCps] at h
  | _ :: _, [], _, h, _ => by simp [ltCps] at h
  | _, _ :: _, [], _, h => by simp [ltCps] at h
  | [], _ :: _, _ :: _, _, _ => rfl
  | a :: r, b :: t, c :: u, h1, h2 => by
    simp only [ltCps, Bool.or_eq_true, decide_eq_true_eq, Bool.and_eq_true, beq_iff_eq] at h1 h2 ⊢
    rcases h1 with h1 | ⟨h1, h1'⟩
    · rcases h2 with h2 | ⟨h2, _⟩
      · exact .inl (Nat.lt_trans h1 h2)
      · exact .inl (h2 ▸ h1)
    · rcases h2 with h2 | ⟨h2, h2'⟩
      · exact .inl (h1 ▸ h2)
      · exact .inr ⟨h1.trans h2, ltC_trans r t u h1' h2'⟩
theorem ltC_tri : ∀ a b : List Nat, ltCps a b = false → ltCps b a = false → a = b
  | [], [], _, _ => rfl
  | [], _ :: _, h, _ => by simp [ltCps] at h
  | _ :: _, [], _, h => by simp [ltCps] at h
  | a :: r, b :: t, h1, h2 => by
    simp only [ltCps, Bool.or_eq_false_iff, decide_eq_false_iff_not, Bool.and_eq_false_imp, beq_iff_eq] at h1 h2
    have e : a = b := by omega
    subst e
    rw [ltC_tri r t (h1.2 rfl) (h2.2 rfl)]
theorem ltC_lex : ∀ a b : List Nat, ltCps a b = decide (a < b)
  | [], [] => by simp [ltCps]
  | [], b :: t => by simp [ltCps]
  | a :: r, [] => by simp [ltCps]
  | a :: r, b :: t => by
    rw [ltCps, ltC_lex r t]
    apply Bool.eq_iff_iff.mpr
    simp only [Bool.or_eq_true, decide_eq_true_eq, Bool.and_eq_true, beq_iff_eq]
    exact List.cons_lt_cons_iff.symm
theorem ltS_irr (a : Str) : ltS a a = false := ltC_irr _
theorem ltS_trans {a b c : Str} (h1 : ltS a b = true) (h2 : ltS b c = true) : ltS a c = true := ltC_trans _ _ _ h1 h2
theorem str_ext {a b : Str} (h : a.cps.toList = b.cps.toList) : a = b := by
  obtain ⟨⟨x⟩⟩ := a
  obtain ⟨⟨y⟩⟩ := b
  cases h
  rfl
theorem ltS_tri {a b : Str} (h1 : ltS a b = false) (h2 : ltS b a = false) : a = b := str_ext (ltC_tri _ _ h1 h2)
theorem ltS_dec (a b : Str) : decide (a.cps.toList < b.cps.toList) = ltS a b := (ltC_lex _ _).symm
/-- texts in their order, none twice -/
abbrev Asc (l : List Str) : Prop := l.Pairwise fun a b => ltS a b = true
theorem rising_pw : ∀ (l : List Str) (p : Str), risingS p l = true → (∀ x ∈ l, ltS x p = false) ∧ l.Pairwise fun a b => ltS b a = false
  | [], _, _ => ⟨fun _ h => by simp at h, List.Pairwise.nil⟩
  | x :: r, p, h => by
    have h' : (!ltS x p && risingS x r) = true := h
    obtain ⟨h1, h2⟩ := Bool.and_eq_true_iff.mp h'
    have h1 : ltS x p = false := by simpa using h1
    obtain ⟨a, b⟩ := rising_pw r x h2
    refine ⟨fun y hy => ?_, List.pairwise_cons.mpr ⟨a, b⟩⟩
    rcases List.mem_cons.mp hy with e | hy
    · rw [e]; exact h1
    · cases hc : ltS y p with
      | false => rfl
      | true =>
        cases hx : ltS p x with
        | true =>
          have := a y hy
          rw [ltS_trans hc hx] at this
          cases this
        | false =>
          have e := ltS_tri h1 hx
          subst e
          rw [a y hy] at hc
          cases hc
theorem sorted_asc {l : List Str} (h : sortedS l = true) (nd : l.Nodup) : Asc l := by
  have pw : l.Pairwise fun a b => ltS b a = false := by
    cases l with
    | nil => exact List.Pairwise.nil
    | cons x r => exact List.pairwise_cons.mpr (rising_pw r x h)
  refine List.Pairwise.imp₂ (fun a b (h1 : ltS b a = false) (h2 : a ≠ b) => ?_) pw nd
  cases h3 : ltS a b with
  | true => rfl
  | false => exact absurd (ltS_tri h3 h1) h2
theorem asc_unique : ∀ {l l' : List Str}, Asc l → Asc l' → (∀ x, x ∈ l ↔ x ∈ l') → l = l'
  | [], [], _, _, _ => rfl
  | [], y :: t, _, _, h => absurd ((h y).mpr List.mem_cons_self) (by simp)
  | x :: r, [], _, _, h => absurd ((h x).mp List.mem_cons_self) (by simp)
  | x :: r, y :: t, h1, h2, h => by
    obtain ⟨a1, a2⟩ := List.pairwise_cons.mp h1
    obtain ⟨b1, b2⟩ := List.pairwise_cons.mp h2
    have e : x = y := by
      rcases List.mem_cons.mp ((h x).mp List.mem_cons_self) with q | q
      · exact q
      · rcases List.mem_cons.mp ((h y).mpr List.mem_cons_self) with p | p
        · exact p.symm
        · have := ltS_trans (a1 y p) (b1 x q)
          rw [ltS_irr] at this
          cases this
    subst e
    refine congrArg _ (asc_unique a2 b2 fun z => ⟨fun hz => ?_, fun hz => ?_⟩)
    · rcases List.mem_cons.mp ((h z).mp (List.mem_cons_of_mem _ hz)) with q | q
      · have := a1 z hz
        rw [q, ltS_irr] at this
        cases this
      · exact q
    · rcases List.mem_cons.mp ((h z).mpr (List.mem_cons_of_mem _ hz)) with q | q
      · have := b1 z hz
        rw [q, ltS_irr] at this
        cases this
      · exact q

/-! ### sorted(a set of texts) -/
section
variable {P : Program} {w : World} {A : Around} {E : Value → Shared → Prop} {s : Shared}
theorem texts_of : ∀ (l : List Value), (∀ v ∈ l, ∃ x t, v = Value.str x t) → StrsAre l (l.map fun v => txtOf (0, v))
  | [], _ => .nil
  | v :: l, h => by
    obtain ⟨x, t, rfl⟩ := h v List.mem_cons_self
    exact .cons x t (texts_of l fun u hu => h u (List.mem_cons_of_mem _ hu))
theorem rs_sorted {a : Addr} {S : Str → Bool} {n : Nat} {Q : Value → Shared → Prop} (R : RS P w s.heap a S n) (hh : A.handled = none) (h64 : n < 64)
    (hQ : ∀ s' p (out : Array Value) (c : Nat) (ys : List Str), (∀ b o, s.heap.get? b = some o → s'.heap.get? b = some o) → s'.gens = s.gens → s'.os = s.os → s.heap.objs.size ≤ p →
      s'.heap.get? p = some (seqObj "list" out c) → StrsAre out.toList ys → Asc ys → (∀ k, k ∈ ys ↔ S k = true) → ys.length ≤ n → Q (.ref p) s') :
    wpAny (model P w) A (call (.builtin "sorted") [.ref a]) Q E s := by
  obtain ⟨o, es, ep, t, ho, hex, hd, g, nd, hm, hb, hf, hn, hr, hl⟩ := R
  refine Calls.call_function_entry kind_sorted plain_sorted entry_sorted (args_sorted1 _) ?_
  unfold Builtin.«sorted»
  refine wpAny_bind (m := checkCount "sorted" 1 1 _) (wpAny_pure (wpAny_bind (collect_set (A := A.in1) hh ⟨o, ho, hex.1, hd⟩ hf hb hr hl fun s1 vs k1 hz g1 o1 pm => ?_)))
  have hvl : vs.length ≤ n := by rw [pm.length_eq, List.length_map, Array.length_toList]; exact hn
  have hv64 : vs.length < 64 := Nat.lt_of_le_of_lt hvl h64
  have hS : StrsAre vs (vs.map fun v => txtOf (0, v)) := texts_of vs fun v hv => by
    obtain ⟨e, he, q⟩ := List.mem_map.mp (pm.mem_iff.mp hv)
    obtain ⟨t, h1⟩ := el_shape g he
    exact ⟨_, t, q ▸ h1⟩
  have pk : (vs.map fun v => txtOf (0, v)).Perm (es.toList.map txtOf) := by
    have q := pm.map fun v => txtOf (0, v)
    rw [List.map_map] at q
    exact q
  refine wpAny_bind (wpAny_newList ?_ (by rw [sizeLine_eq]; omega))
  have hoL : (s1.heap.push (seqObj "list" vs.toArray 0)).get? s1.heap.objs.size = some (seqObj "list" vs.toArray 0) := Heap.get?_push_size _ rfl
  show wpAny _ _ _ _ _ { s1 with heap := s1.heap.push (seqObj "list" vs.toArray 0) }
  refine wpAny_bind (wpAny_holding (wpAny_call_entry slot_list_sort ⟨_, hoL, rfl⟩ entry_list_sort
    (list_sort_treeK strKind_oneLt (s := { s1 with heap := s1.heap.push (seqObj "list" vs.toArray 0) }) hoL hS.keysOf (fun v₁ v₂ rest e => keyKind_strs (by rw [← e]; exact hS)) hv64 fun st' hp hs => ⟨_, rfl, ?_⟩) (args_list_sort _)))
  obtain ⟨ys, q1, q2, q3⟩ := sorted_out_str hS hp hs
  obtain ⟨c, hc⟩ := sortedHeap_at (vs := vs) (out := (arrOf st').map (·.2)) hoL
  have pn : ys.Perm (es.toList.map txtOf) := q2.trans pk
  refine wpAny_pure ⟨_, rfl, hQ _ s1.heap.objs.size _ c ys (fun b u e => ?_) g1 o1 hz hc q1 (sorted_asc q3 (pn.nodup_iff.mpr nd)) (fun k => by rw [pn.mem_iff, ← hm k]) ?_⟩
  · have q := k1 b u e
    have hlt := Heap.lt_size q
    show (sortedHeap (s1.heap.push (seqObj "list" vs.toArray 0)) s1.heap.objs.size vs _).get? b = some u
    rw [sortedHeap_old (Nat.ne_of_lt hlt) (by rw [size_push']; exact Nat.lt_succ_of_lt hlt)]
    exact Heap.get?_push_of_some _ q
  · rw [pn.length_eq, List.length_map, Array.length_toList]; exact hn
end

/-! ### the two by the abstract heap -/
def TsO (P : Program) (w : World) (a : Addr) (S : Str → Bool) (n : Nat) : HO := .ext fun h => RS P w h a S n
theorem tsO_new {w : World} {P : Program} {H : Hp} {h : Heap} {a : Addr} {S : Str → Bool} {n : Nat} (R : RS P w h a S n) : ObjOk P w H h a (TsO P w a S n) :=
  ⟨R, let ⟨o, _, _, _, ho, _⟩ := R; ⟨o, ho⟩, fun _ _ p k => RS.moved p k⟩
section
variable {X : Cx}
theorem tsO_get {pins : List (Addr × Obj)} {σ : L2.St} {H : Hp} {s : Shared} {a : Addr} {S : Str → Bool} {n : Nat} (I : Inv X pins σ H s) (ha : H a = some (TsO X.prog X.w a S n)) : RS X.prog X.w s.heap a S n := (I.hok a _ ha).1
def rSetT (K : PySem.W.Frag) (P : Program) (w : World) : List V → Hp → VK → Prop := fun xs H Q => ∃ (a : Addr) (zs : List Str), xs = [.ref a] ∧ SqL K H a (zs.map V.str) ∧ zs.length + 1 < scanBound ∧ ∀ p, H p = none → Q (.ref p) (upd H p (TsO P w p (memB zs) zs.length))
theorem cr_setT (hc : X.calm = true) : CallR X (.type "set") (rSetT X.K X.prog X.w) := by
  intro pins s σ H xs us Q I r h
  obtain ⟨a, zs, rfl, hq, hz, q⟩ := h
  rw [Vals.ref1 r]
  obtain ⟨its, rv, pl, _⟩ := I.list hq
  have hS : StrsAre its zs := rv.strs
  have hl : its.length = zs.length := by
    have e := rv.length
    rw [List.length_map] at e
    exact e.symm
  refine set_of_list (I.ok.hd hc) pl.isList (by simpa using hS) (by rw [List.size_toArray, hl]; exact hz) fun h' tk R hk => ?_
  have ez : its.toArray.size = zs.length := (List.size_toArray ..).trans hl
  rw [ez] at R
  exact ⟨.ref _, upd H s.heap.objs.size (TsO X.prog X.w s.heap.objs.size (memB zs) zs.length), I.laid (t' := tk) (fun b u e => hk b u (Heap.lt_size e) e) (Nat.le_refl _) (tsO_new R), rfl, q _ (I.hok.fresh (Nat.le_refl _))⟩
def rSrtT (P : Program) (w : World) : List V → Hp → VK → Prop := fun vs H Q => ∃ (a : Addr) (S : Str → Bool) (n : Nat), vs = [.ref a] ∧ H a = some (TsO P w a S n) ∧ n < 64 ∧
  ∀ (ys : List Str) (p : Addr), Asc ys → (∀ k, k ∈ ys ↔ S k = true) → ys.length ≤ n → H p = none → Q (.ref p) (upd H p (.lst (ys.map V.str)))
theorem cr_srtT (hc : X.calm = true) : CallR X (.builtin "sorted") (rSrtT X.prog X.w) := by
  intro pins s σ H vs us Q I r h
  obtain ⟨a, S, n, rfl, ha, h64, q⟩ := h
  rw [Vals.ref1 r]
  refine rs_sorted (tsO_get I ha) (I.ok.hd hc) h64 fun s' p out c ys k g o hp hg hi hs hm hl => ?_
  have hlen : (ys.map V.str).length ≤ sizeLine := by rw [List.length_map, sizeLine_eq]; omega
  have hn : H p = none := I.hok.fresh hp
  have J : Inv X pins σ (upd H p (.lst (ys.map V.str))) { s with heap := s'.heap, gens := s'.gens, drawn := s'.drawn, toks := s'.toks } :=
    I.call (ch := []) (Un.laid k hp hn) (I.hok.laid k hp ⟨hlen, out.toList, c, vals_of_strs hi, by rw [Array.toArray_toList]; exact hg⟩) (by rw [g]; exact I.bare) (fun _ z => nomatch z)
  have e : s' = { s with heap := s'.heap, gens := s'.gens, drawn := s'.drawn, toks := s'.toks } := by
    cases s'
    cases s
    cases o
    rfl
  rw [e]
  exact ⟨.ref p, _, J, rfl, q ys p hs hm hl hn⟩
end
/-- sorted(set(xs)), xs texts -/
def fSortSet (g : FA) : FE := fun Γ M k kx => g Γ M (fun ds M1 => ∃ xs : List Str, ds = [.lst (xs.map .str)] ∧ xs.length < 64 ∧ ∀ ys, Asc ys → (∀ x, x ∈ ys ↔ x ∈ xs) → k (.lst (ys.map .str)) M1) kx
section
variable {X : Cx} {E : L2.St → XK} {e : Expr} {g : FA} {p p2 pos pos2 : Pos}
theorem c_sortedSet (hc : X.calm = true) (hg : Gl X "sorted") (hg2 : Gl X "set") (hm : X.mg "sorted" = none) (hm2 : X.mg "set" = none) (ha : DA X E [e] g)
    (he : starEach [e] X.env = (false, eval e X.env) :: starEach [] X.env := by rfl) (he2 : starEach [.Call (.Name "set" p2) [e] [] pos2] X.env = (false, eval (.Call (.Name "set" p2) [e] [] pos2) X.env) :: starEach [] X.env := by rfl) :
    DE X E (.Call (.Name "sorted" p) [.Call (.Name "set" p2) [e] [] pos2] [] pos) (fSortSet g) :=
  pe_w (pe_callB (cr_srtT hc) hg hm (by decide +kernel) (pa_cons (pe_callTy (cr_setT hc) hg2 hm2 (by decide +kernel) ha (by decide) (by decide) he) pa_nil he2) (by decide) (by decide) he2) fun σ H Q h => by
    obtain ⟨F, Γ, M, k, kx, R, q, LX, L⟩ := h
    refine ⟨F, Γ, M, _, kx, R, q, LX, fun ds M1 vs H1 hx g1 R1 i1 => ?_⟩
    obtain ⟨xs, rfl, h64, hx⟩ := hx
    cases i1 with
    | cons v1 i1 =>
      cases i1
      obtain ⟨a, us, rfl, n, ha, hv⟩ := v1.to_lst
      obtain rfl := IsVs.of_strs hv
      have hsb : xs.length + 1 < scanBound := by have : (64 : Nat) < scanBound := by decide
                                                 omega
      refine ⟨a, xs, rfl, SqL.of ha, hsb, fun p hp => ?_⟩
      refine ⟨p, memB xs, xs.length, rfl, upd_same, h64, fun ys p' hs hm hl hp' => ?_⟩
      have R2 : RepM X.K F (upd H1 p (TsO X.prog X.w p (memB xs) xs.length)) M1 := R1.new hp
      have G := g1.trans (Go.new (K := X.K) (F := F) (M := M1) (o := TsO X.prog X.w p (memB xs) xs.length) hp)
      exact new_lst (L.go G) R2 (hx ys hs fun x => (hm x).trans (by simp [memB])) (IsVs.strs ys) p' hp'
/-- {} -/
theorem de_dct0 : DE X E (.Dict [] [] pos) (fC (.dct [])) := pe_w pe_dnewK fun σ H Q h => by
  obtain ⟨F, Γ, M, k, kx, R, q, LX, L⟩ := h
  exact fun p hp => L.new R.mem q hp fun n kp => .dct n (.inl upd_same) .nil
/-- zip(xs, ys), two lists -/
def fZip (g : FA) : FA := fun Γ M k kx => g Γ M (fun ds M1 => ∃ xs ys, ds = [.lst xs, .lst ys] ∧ k ((xs.zip ys).map fun p => .tup [p.1, p.2]) M1) kx
theorem itD_zip {K : PySem.W.Frag} {F : Addr → Prop} {H0 : Hp} {M0 : MS} {a b : Addr} {vs ws : List V} {ds es : List D} (ha : ¬ dm F M0 a) (ha1 : H0 a = some (.lst vs)) (hv : IsVs K (dm F M0) H0 vs ds) (hb : ¬ dm F M0 b) (hb1 : H0 b = some (.lst ws)) (hw : IsVs K (dm F M0) H0 ws es) :
    ItD K F H0 M0 (Itz K a b) ((ds.zip es).map fun p => .tup [p.1, p.2]) := by
  have at1 : ∀ (F' : Addr → Prop) H M, (∀ a, F' a → F a ∨ H0 a = none) → Go H0 M0 H M → SqL K H a vs ∧ SqL K H b ws := fun F' H M hF g => ⟨SqL.of (kpF g hF a _ ha ha1).2, SqL.of (kpF g hF b _ hb hb1).2⟩
  have hlen : ((ds.zip es).map fun p => D.tup [p.1, p.2]).length = min ds.length es.length := by rw [List.length_map, List.length_zip]
  refine ⟨fun F' i H M hF g R hi => ?_, fun F' i H M x H' hF g R hi y => ?_, fun F' H M hF g R => ?_⟩
  · rw [hlen] at hi
    obtain ⟨v, e, _⟩ := hv.get (List.getElem?_eq_getElem (show i < ds.length by omega))
    obtain ⟨u, e2, _⟩ := hw.get (List.getElem?_eq_getElem (show i < es.length by omega))
    exact ⟨vs, ws, v, u, (at1 F' H M hF g).1, (at1 F' H M hF g).2, e, e2⟩
  · obtain ⟨T, v, u, rfl, hT, rfl, q1, q2⟩ := y
    obtain ⟨d, e1, h1⟩ := hv.getV (q1 vs (at1 F' _ M hF g).1)
    obtain ⟨d2, e2, h2⟩ := hw.getV (q2 ws (at1 F' _ M hF g).2)
    have kp := kpF g hF
    have g2 : Go H M (upd H T (.tup [v, u])) M := Go.new (K := K) (F := F') hT
    have n := R.fresh hT
    have kp2 : Kp (dm F' M) (dm F' M) H (upd H T (.tup [v, u])) := g2.to_kp
    refine ⟨.tup [d, d2], ?_, g2, R.new hT, .tup (.inl ⟨n, .inl upd_same⟩) (.cons (IsV.kp kp2 _ _ (IsV.kp kp _ _ h1)) (.cons (IsV.kp kp2 _ _ (IsV.kp kp _ _ h2)) .nil))⟩
    rw [List.getElem?_map, (List.getElem?_zip_eq_some (z := (d, d2))).mpr ⟨e1, e2⟩]
    rfl
  · refine ⟨vs, ws, (at1 F' H M hF g).1, (at1 F' H M hF g).2, ?_⟩
    rw [hlen, hv.length, hw.length]
    omega
theorem di_zip {elts : List Expr} {kk : Nat} {tpos : Pos} {e2 : Expr} (hg : Gl X "zip") (hm : X.mg "zip" = none) (ha : DA X E [e, e2] g)
    (hs : starEach [e, e2] X.env = (false, eval e X.env) :: starEach [e2] X.env := by rfl) (hpl : (backTo pos (starEach [e2] X.env)).any (·.1) = false := by rfl) :
    DI X E (.Tuple elts kk tpos) (.Call (.Name "zip" p) [e, e2] [] pos) (fZip g) :=
  pi_w (pi_zip hg hm ha hs hpl) fun σ H R hh => by
    obtain ⟨F, Γ, M, k, kx, Rp, q, LX, L⟩ := hh
    refine ⟨F, Γ, M, _, kx, Rp, q, LX, fun x M1 v H1 hx g1 R1 i1 => ?_⟩
    obtain ⟨xs, ys, rfl, hx⟩ := hx
    cases i1 with
    | cons v1 i1 =>
      cases i1 with
      | cons v2 i1 =>
        cases i1
        obtain ⟨a, vs, rfl, n, ha, hv⟩ := v1.to_lst
        obtain ⟨b, ws, rfl, m, hb, hw⟩ := v2.to_lst
        exact ⟨a, b, vs, ws, rfl, SqL.of ha, SqL.of hb, L _ M1 _ H1 hx g1 R1 (itD_zip n ha hv m hb hw)⟩
end
end Dl

set_option Elab.async false
set_option linter.all false
set_option maxRecDepth 100000
set_option maxHeartbeats 4000000
/-! D10: the cell of what draws, by a bound; the transformers, applied (for simp). -/
namespace Dl
open PySem PySem.Spec PyProof.Rows L2

theorem ite_b {b : Bool} {c a : Prop} (h1 : b = true → c) (h2 : b = false → a) : (if b = true then c else a) := by
  cases b with
  | true => rw [if_pos rfl]; exact h1 rfl
  | false => rw [if_neg (by decide)]; exact h2 rfl
/-- behind B, what draws at p has begun at most b cells -/
def Dr (B : MS) (p : Addr) (ns : List Int) (b : Nat) (M : MS) : Prop := ∃ n, n ≤ b ∧ M = upM B p (.pen ns n)
section
variable {B : MS} {p : Addr} {ns : List Int} {b c : Nat} {M : MS}
theorem Dr.le (h : Dr B p ns b M) (hc : b ≤ c) : Dr B p ns c M := h.imp fun n z => ⟨Nat.le_trans z.1 hc, z.2⟩
theorem Dr.at (h : Dr B p ns b M) : ∃ n, n ≤ b ∧ M p = some (.pen ns n) ∧ ∀ m, upM M p (.pen ns m) = upM B p (.pen ns m) := by
  obtain ⟨n, h1, rfl⟩ := h
  exact ⟨n, h1, upM_same, fun m => upM_upM⟩
end
theorem len2 {α : Type} : ∀ {xs : List α}, xs.length = 2 → ∃ x y, xs = [x, y]
  | [x, y], _ => ⟨x, y, rfl⟩
theorem atI_at {α : Type} {xs : List α} {i : Int} (h0 : 0 ≤ i) (h1 : i < xs.length) : L2.atI xs i = some (xs[i.toNat]'(by omega)) := by
  unfold L2.atI ixN
  rw [if_pos h0, if_pos h1]
  exact List.getElem?_eq_getElem _

theorem atI_mem {α : Type} {xs : List α} {i : Int} (h0 : 0 ≤ i) (h1 : i < xs.length) : ∃ d, L2.atI xs i = some d ∧ d ∈ xs := ⟨_, atI_at h0 h1, List.getElem_mem _⟩
/-- LcD_rel, with the number of turns known -/
theorem LcD_relN {g : FG} {te : FE} {Γ : GE} {k : List D → MS → Prop} {R : D → Prop} {J : Nat → MS → Prop} {N : Nat} : ∀ (xs acc : List D) (n : Nat) (M : MS), acc.length + xs.length ≤ sizeLine → n + xs.length = N → J n M → (∀ y ∈ acc, R y) →
    (∀ x ∈ xs, ∀ (m : Nat) (M : MS) (k' : D → MS → Prop), m < N → J m M → (∀ y M1, R y → J (m + 1) M1 → k' y M1) → g x Γ fun Γ1 => te Γ1 M k' noX) →
    (∀ (ys : List D) (M1 : MS), ys.length = acc.length + xs.length → (∀ y ∈ ys, R y) → J N M1 → k ys M1) → LcD g fYes te Γ k xs acc M
  | [], acc, n, M, _, hN, hj, hr, _, hk => hk acc M rfl hr ((show n = N from hN) ▸ hj)
  | x :: xs, acc, n, M, hl, hN, hj, hr, h, hk => by
    rw [List.length_cons] at hl hk hN
    refine h x List.mem_cons_self n M _ (by omega) hj fun y M1 hy h1 => ⟨by omega, ?_⟩
    refine LcD_relN xs (acc ++ [y]) (n + 1) M1 (by rw [List.length_append]; show acc.length + 1 + xs.length ≤ _; omega) (by omega) h1 (fun z hz => ?_) (fun z hz => h z (List.mem_cons_of_mem _ hz)) fun ys M2 e hr2 h2 => ?_
    · rcases List.mem_append.mp hz with hz | hz
      · exact hr z hz
      · rw [List.mem_singleton.mp hz]; exact hy
    · refine hk ys M2 ?_ hr2 h2
      rw [e, List.length_append]
      show acc.length + 1 + xs.length = _
      omega
section
variable {Γ : GE} {M : MS} {k : KD} {kx : KX} {N : Nd} {kt : Bool → MS → Prop} {ka : List D → MS → Prop} {ko : Option Int → MS → Prop}
theorem ap_var {i : Nat} : fVar i Γ M k kx = ∃ d, Γ[i]? = some (some d) ∧ k d M := rfl
theorem ap_C {d : D} : fC d Γ M k kx = k d M := rfl
theorem ap_op {g : F2} {fa fb : FE} : fOp g fa fb Γ M k kx = fa Γ M (fun x M1 => fb Γ M1 (fun y M2 => g x y M2 k) kx) kx := rfl
theorem ap_un {g : F1} {fa : FE} : fUn g fa Γ M k kx = fa Γ M (fun x M1 => g x M1 k) kx := rfl
theorem ap_cb {g : FN} {fa : FA} : fCB g fa Γ M k kx = fa Γ M (fun ds M1 => g ds M1 k) kx := rfl
theorem ap_test {f : FE} : fTest f Γ M kt kx = f Γ M (fun d M1 => ∃ b, d = .bl b ∧ kt b M1) kx := rfl
theorem ap_chain {g g' : F2} {fa fb fc : FE} : fChain g g' fa fb fc Γ M k kx = fa Γ M (fun x M1 => fb Γ M1 (fun y M2 => g x y M2 fun z M3 => ∃ b, z = .bl b ∧ if b = true then fc Γ M3 (fun w M4 => g' y w M4 k) kx else k (.bl false) M3) kx) kx := rfl
theorem ap_and {f g : FT} : fAnd f g Γ M kt kx = f Γ M (fun b M1 => if b = true then g Γ M1 kt kx else kt false M1) kx := rfl
theorem ap_or {f g : FT} : fOr f g Γ M kt kx = f Γ M (fun b M1 => if b = true then kt true M1 else g Γ M1 kt kx) kx := rfl
theorem ap_not {f : FT} : fNot f Γ M kt kx = f Γ M (fun b M1 => kt (!b) M1) kx := rfl
theorem ap_andV {f g : FE} : fAndV f g Γ M k kx = f Γ M (fun x M1 => ∃ b, x = .bl b ∧ if b = true then g Γ M1 k kx else k (.bl false) M1) kx := rfl
theorem ap_orV {f g : FE} : fOrV f g Γ M k kx = f Γ M (fun x M1 => ∃ b, x = .bl b ∧ if b = true then k (.bl true) M1 else g Γ M1 k kx) kx := rfl
theorem ap_notV {f : FE} : fNotV f Γ M k kx = f Γ M (fun x M1 => ∃ b, x = .bl b ∧ k (.bl (!b)) M1) kx := rfl
theorem ap_if {f : FT} {g h : FE} : fIf f g h Γ M k kx = f Γ M (fun b M1 => if b = true then g Γ M1 k kx else h Γ M1 k kx) kx := rfl
theorem ap_nil : fNil Γ M ka kx = ka [] M := rfl
theorem ap_cons {f : FE} {g : FA} : fCons f g Γ M ka kx = f Γ M (fun x M1 => g Γ M1 (fun xs M2 => ka (x :: xs) M2) kx) kx := rfl
theorem ap_lst {g : FA} : fLst g Γ M k kx = g Γ M (fun ds M1 => ds.length ≤ sizeLine ∧ k (.lst ds) M1) kx := rfl
theorem ap_tup {g : FA} : fTup g Γ M k kx = g Γ M (fun ds M1 => ds.length ≤ sizeLine ∧ k (.tup ds) M1) kx := rfl
theorem ap_noP : fNoP Γ M ko kx = ko none M := rfl
theorem ap_part {f : FE} : fPart f Γ M ko kx = f Γ M (fun x M1 => ∃ i, x = .int i ∧ ko (some i) M1) kx := rfl
theorem ap_sl {g : D → Option Int → Option Int → MS → KD → Prop} {f : FE} {l h : FO} : fSl g f l h Γ M k kx = f Γ M (fun x M1 => l Γ M1 (fun lo M2 => h Γ M2 (fun hi M3 => g x lo hi M3 k) kx) kx) kx := rfl
theorem ap_next : fNext N Γ M = N.nx Γ M := rfl
theorem ap_seq {f g : FS} : fSeq f g N Γ M = f { N with nx := g N } Γ M := rfl
theorem ap_ret {f : FE} : fRet f N Γ M = f Γ M N.rt N.ex := rfl
theorem ap_set {i : Nat} {f : FE} : fSet i f N Γ M = f Γ M (fun d M1 => N.nx (Γ.set i (some d)) M1) N.ex := rfl
theorem ap_drop {f : FE} : fDrop f N Γ M = f Γ M (fun _ M1 => N.nx Γ M1) N.ex := rfl
theorem ap_asg {g : FG} {f : FE} : fAsg g f N Γ M = f Γ M (fun d M1 => g d Γ fun Γ1 => N.nx Γ1 M1) N.ex := rfl
theorem ap_par {i j : Nat} {g : FA} : fPar i j g N Γ M = g Γ M (fun ds M1 => ∃ c d, ds = [c, d] ∧ N.nx ((Γ.set i (some c)).set j (some d)) M1) N.ex := rfl
theorem ap_nm {i : Nat} {d : D} {kg : GE → Prop} : gNm i d Γ kg = kg (Γ.set i (some d)) := rfl
theorem ap_no {kg : GE → Prop} : gNo [] Γ kg = kg Γ := propext ⟨fun h => h.2, fun h => ⟨rfl, h⟩⟩
theorem ap_cn {g : FG} {gs : FGs} {d : D} {ds : List D} {kg : GE → Prop} : gCn g gs (d :: ds) Γ kg = g d Γ fun Γ1 => gs ds Γ1 kg := propext ⟨fun ⟨_, _, e, h⟩ => by cases e; exact h, fun h => ⟨_, _, rfl, h⟩⟩
theorem ap_tp {n : Nat} {gs : FGs} {ds : List D} {kg : GE → Prop} : gTp n gs (.tup ds) Γ kg = (ds.length = n ∧ gs ds Γ kg) := propext ⟨fun ⟨_, e, h⟩ => by cases e; exact h, fun h => ⟨_, rfl, h⟩⟩
theorem ap_itL {f : FE} : fItL f Γ M ka kx = f Γ M (fun x M1 => ∃ ds, x = .lst ds ∧ ka ds M1) kx := rfl
theorem ap_itZ {f : FE} : fItZ f Γ M ka kx = f Γ M (fun x M1 => ∃ ns : List Int, x = .scr ns ∧ ka (ns.map .int) M1) kx := rfl
theorem ap_itT {f : FE} : fItT f Γ M ka kx = f Γ M (fun x M1 => ∃ ds, x = .tup ds ∧ ka ds M1) kx := rfl
theorem ap_itS {f : FE} : fItS f Γ M ka kx = f Γ M (fun x M1 => ∃ z : Str, x = .str z ∧ ka (z.cps.toList.map fun c => .str ⟨#[c]⟩) M1) kx := rfl
theorem ap_rng1 {g : FA} : fRng1 g Γ M ka kx = g Γ M (fun ds M1 => ∃ j : Int, ds = [.int j] ∧ -(2 ^ 62) ≤ j ∧ j < 2 ^ 62 ∧ ka (rngD 0 j.toNat) M1) kx := rfl
theorem ap_zip {g : FA} : fZip g Γ M ka kx = g Γ M (fun ds M1 => ∃ xs ys, ds = [.lst xs, .lst ys] ∧ ka ((xs.zip ys).map fun p => .tup [p.1, p.2]) M1) kx := rfl
theorem ap_lc {fi : FA} {g : FG} {tt : FT} {te : FE} {vs : List Nat} : fLc fi g tt te vs Γ M k kx = fi Γ M (fun xs M1 => LcD g tt te (wipeG Γ vs) (fun ds M2 => k (.lst ds) M2) xs [] M1) kx := rfl
theorem ap_for {fi : FA} {g : FG} {fb : FS} : fFor fi g fb N Γ M = fi Γ M (fun xs M1 => ForD g fb N xs Γ M1) N.ex := rfl
theorem ap_yes : fYes Γ M kt kx = kt true M := rfl
theorem ap_call {pf : FN} {dds : List D} {g : FA} : fCall pf dds g Γ M k kx = g Γ M (fun ds M1 => pf (ds ++ dds) M1 k) kx := rfl
theorem ap_callK {pf : FN} {gD : List D → List D} {g : FA} : fCallK0 pf gD g Γ M k kx = g Γ M (fun ds M1 => pf (gD ds) M1 k) kx := rfl
theorem ap_join {f g : FE} : gJoin f g Γ M k kx = f Γ M (fun x M1 => ∃ a, x = .str a ∧ g Γ M1 (fun y M2 => ∃ ys : List Str, (vw M2 y = .lst (ys.map .str) ∨ vw M2 y = .tup (ys.map .str)) ∧ (ys.map (·.length)).sum + ys.length * a.length ≤ 16777216 ∧ k (.str (Txt.join a ys)) M2) kx) kx := rfl
theorem ap_pen {g : FA} : fPen g Γ M k kx = g Γ M (fun ds M1 => ∃ ns : List Int, ds = [.lst (ns.map .int), .int 0, .int 0] ∧ ∀ p, M1 p = none → k (.ref p) (upM M1 p (.pen ns 0))) kx := rfl
theorem ap_penSet {fe fo fi : FE} : fPenSet fe fo fi N Γ M = fe Γ M (fun x M1 => fo Γ M1 (fun o M2 => fi Γ M2 (fun i M3 => setP o i x M3 fun M4 => N.nx Γ M4) N.ex) N.ex) N.ex := rfl
theorem ap_sortSet {g : FA} : fSortSet g Γ M k kx = g Γ M (fun ds M1 => ∃ xs : List Str, ds = [.lst (xs.map .str)] ∧ xs.length < 64 ∧ ∀ ys, Asc ys → (∀ x, x ∈ ys ↔ x ∈ xs) → k (.lst (ys.map .str)) M1) kx := rfl
-- the operations, read through the changing objects
theorem ap_wop {g : F2} {x y : D} : wOp g x y M k = g (vw M x) (vw M y) M k := rfl
theorem ap_wcb {g : FN} {ds : List D} : wCB g ds M k = g (ds.map (vw M)) M k := rfl
theorem ap_wsl {x : D} {lo hi : Option Int} : wSl x lo hi M k = sCut (vw M x) lo hi M k := rfl
theorem ap_vwNon : vw M .non = .non := rfl
theorem ap_vwBl {b : Bool} : vw M (.bl b) = .bl b := rfl
theorem ap_vwInt {i : Int} : vw M (.int i) = .int i := rfl
theorem ap_vwStr {x : Str} : vw M (.str x) = .str x := rfl
theorem ap_vwTy {x : String} : vw M (.ty x) = .ty x := rfl
theorem ap_vwLst {xs : List D} : vw M (.lst xs) = .lst xs := rfl
theorem ap_vwTup {xs : List D} : vw M (.tup xs) = .tup xs := rfl
theorem ap_vwDct {xs : List (Key × D)} : vw M (.dct xs) = .dct xs := rfl
theorem ap_vwScr {xs : List Int} : vw M (.scr xs) = .scr xs := rfl
theorem ap_vwIns {C : Addr} {fs : List (Str × D)} : vw M (.ins C fs) = .ins C fs := rfl
theorem ap_vwExv {C : Addr} {fs : List (Str × D)} : vw M (.exv C fs) = .exv C fs := rfl
theorem vw_lst {p : Addr} {xs : List D} (h : M p = some (.lst xs)) : vw M (.ref p) = .lst xs := by
  show vwC p (M p) = _
  rw [h]
  rfl
theorem vw_dct {p : Addr} {xs : List (Key × D)} (h : M p = some (.dct xs)) : vw M (.ref p) = .dct xs := by
  show vwC p (M p) = _
  rw [h]
  rfl
theorem vw_ins {p C : Addr} {fs : List (Str × D)} (h : M p = some (.ins C fs)) : vw M (.ref p) = .ins C fs := by
  show vwC p (M p) = _
  rw [h]
  rfl
theorem vw_pen {p : Addr} {ns : List Int} {n : Nat} (h : M p = some (.pen ns n)) : vw M (.ref p) = .ref p := by
  show vwC p (M p) = _
  rw [h]
  rfl
theorem vw_none {p : Addr} (h : M p = none) : vw M (.ref p) = .ref p := by
  show vwC p (M p) = _
  rw [h]
  rfl
theorem ap_eq {x y : D} : oEq x y M k = (eqOk x = true ∧ eqOk y = true ∧ k (.bl (eqD x y)) M) := rfl
theorem ap_ne {x y : D} : oNe x y M k = (eqOk x = true ∧ eqOk y = true ∧ k (.bl (!eqD x y)) M) := rfl
theorem ap_isi {d : D} {n : String} : gIsi [d, .ty n] M k = (isTok n d = true ∧ k (.bl (isT n d)) M) := by
  apply propext
  constructor
  · rintro ⟨_, _, e, h⟩
    cases e
    exact h
  · exact fun h => ⟨_, _, rfl, h⟩
theorem ap_repr {d : D} : gRepr [d] M k = (shownOk d ∧ k (.str (toPy d).shown) M) := by
  apply propext
  constructor
  · rintro ⟨_, e, h⟩
    cases e
    exact h
  · exact fun h => ⟨_, rfl, h⟩
theorem ap_all {ds : List D} : gAll ds M k = ∃ bs : List Bool, ds = [.lst (bs.map .bl)] ∧ k (.bl (bs.all id)) M := rfl
theorem ap_I {C : Int → Int → Prop} {r : Int → Int → D} {i j : Int} : o2I C r (.int i) (.int j) M k = (C i j ∧ k (r i j) M) := rfl
theorem ap_1I {r : Int → D} {i : Int} : o1I r (.int i) M k = k (r i) M := rfl
theorem ap_addI {i j : Int} : oAdd (.int i) (.int j) M k = k (.int (i + j)) M := rfl
theorem ap_addS {i j : Str} : oAdd (.str i) (.str j) M k = (i.length + j.length ≤ sizeLine ∧ k (.str (i ++ j)) M) := rfl
theorem ap_addL {a b : List D} : oAdd (.lst a) (.lst b) M k = (a.length + b.length ≤ sizeLine ∧ k (.lst (a ++ b)) M) := rfl
theorem ap_ltI {i j : Int} : oLt (.int i) (.int j) M k = k (.bl (decide (i < j))) M := rfl
theorem ap_ltS {i j : Str} : oLt (.str i) (.str j) M k = k (.bl (ltS i j)) M := by
  rw [← ltS_dec]
  rfl
theorem ap_lenS {s : Str} : gLen [.str s] M k = (s.length ≤ sizeLine ∧ k (.int s.length) M) := rfl
theorem ap_lenL {xs : List D} : gLen [.lst xs] M k = k (.int xs.length) M := rfl
theorem ap_lenT {xs : List D} : gLen [.tup xs] M k = k (.int xs.length) M := rfl
theorem ap_lenZ {ns : List Int} : gLen [.scr ns] M k = k (.int ns.length) M := rfl
theorem ap_ixL {ds : List D} {i : Int} : oIx (.lst ds) (.int i) M k = ∃ d, L2.atI ds i = some d ∧ k d M := rfl
theorem ap_ixT {ds : List D} {i : Int} : oIx (.tup ds) (.int i) M k = ∃ d, L2.atI ds i = some d ∧ k d M := rfl
theorem ap_ixS {s : Str} {i : Int} : oIx (.str s) (.int i) M k = (s.length ≤ sizeLine ∧ ∃ c, L2.atI s.cps.toList i = some c ∧ k (.str ⟨#[c]⟩) M) := rfl
theorem ap_slL {ds : List D} {lo hi : Option Int} : sCut (.lst ds) lo hi M k = k (.lst (cutD ds lo hi)) M := rfl
theorem ap_slZ {ns : List Int} {lo hi : Option Int} : sCut (.scr ns) lo hi M k = k (.lst ((cutD ns lo hi).map .int)) M := rfl
theorem ap_slS {z : Str} {lo hi : Option Int} : sCut (.str z) lo hi M k = (z.length ≤ sizeLine ∧ k (.str (cutS z lo hi)) M) := rfl
theorem ap_abs {i : Int} : gAbs [.int i] M k = k (.int (if i < 0 then -i else i)) M := rfl
theorem ap_int {i : Int} : gInt [.int i] M k = k (.int i) M := rfl
theorem ap_listL {xs : List D} : gList [.lst xs] M k = k (.lst xs) M := rfl
theorem ap_listT {xs : List D} : gList [.tup xs] M k = k (.lst xs) M := rfl
theorem ap_listZ {ns : List Int} : gList [.scr ns] M k = k (.lst (ns.map .int)) M := rfl
theorem ap_listS {z : Str} : gList [.str z] M k = (z.length ≤ sizeLine ∧ k (.lst (z.cps.toList.map fun c => .str ⟨#[c]⟩)) M) := rfl
theorem ap_tupL {xs : List D} : gTuple [.lst xs] M k = k (.tup xs) M := rfl
theorem ap_tupT {xs : List D} : gTuple [.tup xs] M k = k (.tup xs) M := rfl
theorem ap_inL {neg : Bool} {x : D} {ds : List D} : oIn neg x (.lst ds) M k = (flatD x = true ∧ ds.all flatD = true ∧ k (.bl (if neg then !inD x ds else inD x ds)) M) := rfl
theorem ap_inS {neg : Bool} {z : Str} {c : Nat} : oIn neg (.str ⟨#[c]⟩) (.str z) M k = k (.bl (if neg then !decide (c ∈ z.cps.toList) else decide (c ∈ z.cps.toList))) M := by
  apply propext
  constructor
  · rintro ⟨_, e, h⟩
    cases e
    exact h
  · exact fun h => ⟨_, rfl, h⟩
section
variable {p : Addr} {ns : List Int} {n : Nat}
theorem rd_ix0 (hp : M p = some (.pen ns n)) : wOp oIx (.ref p) (.int 0) M k = k (.lst (ns.map .int)) M := by
  rw [ap_wop, vw_pen hp]
  apply propext
  constructor
  · rintro ⟨ns', n', e, h⟩
    rw [hp] at e
    cases e
    rcases h with ⟨_, h⟩ | ⟨e, _⟩ | ⟨e, _⟩
    · exact h
    · exact absurd e (by decide)
    · exact absurd e (by decide)
  · exact fun h => ⟨ns, n, hp, .inl ⟨rfl, h⟩⟩
theorem rd_ix1 (hp : M p = some (.pen ns n)) : wOp oIx (.ref p) (.int 1) M k = ∀ t : Int, 0 ≤ t → t ≤ (n : Int) → k (.int t) M := by
  rw [ap_wop, vw_pen hp]
  apply propext
  constructor
  · rintro ⟨ns', n', e, h⟩
    rw [hp] at e
    cases e
    rcases h with ⟨e, _⟩ | ⟨_, h⟩ | ⟨e, _⟩
    · exact absurd e (by decide)
    · exact h
    · exact absurd e (by decide)
  · exact fun h => ⟨ns, n, hp, .inr (.inl ⟨rfl, h⟩)⟩
theorem rd_ix2 (hp : M p = some (.pen ns n)) : wOp oIx (.ref p) (.int 2) M k = ∀ r : Int, 0 ≤ r → k (.int r) M := by
  rw [ap_wop, vw_pen hp]
  apply propext
  constructor
  · rintro ⟨ns', n', e, h⟩
    rw [hp] at e
    cases e
    rcases h with ⟨e, _⟩ | ⟨e, _⟩ | ⟨_, h⟩
    · exact absurd e (by decide)
    · exact absurd e (by decide)
    · exact h
  · exact fun h => ⟨ns, n, hp, .inr (.inr ⟨rfl, h⟩)⟩
theorem wr_1 {n' : Nat} {t : Int} {km : MS → Prop} (hp : M p = some (.pen ns n)) (hn : n ≤ n') (h0 : 0 ≤ t) (h1 : t ≤ (n' : Int)) (h : km (upM M p (.pen ns n'))) : setP (.ref p) (.int 1) (.int t) M km :=
  ⟨p, ns, n, n', rfl, hp, hn, .inl ⟨rfl, t, rfl, h0, h1, h⟩⟩
theorem wr_2 {n' : Nat} {t : Int} {km : MS → Prop} (hp : M p = some (.pen ns n)) (hn : n ≤ n') (h0 : 0 ≤ t) (h : km (upM M p (.pen ns n'))) : setP (.ref p) (.int 2) (.int t) M km :=
  ⟨p, ns, n, n', rfl, hp, hn, .inr ⟨rfl, t, rfl, h0, h⟩⟩
end
-- statements whose parts change nothing
variable {c : FT} {a b : FS} {f : FE} {g : FS} {i : Nat} {d : D} {v : Bool}
theorem do_next {nx : GE → MS → Prop} {rt : KD} {bk ct : GE → MS → Prop} {ex : KX} (h : nx Γ M) : fNext ⟨nx, rt, bk, ct, ex⟩ Γ M := h
theorem do_ret (hf : ∀ (k : KD) (kx : KX), k d M → f Γ M k kx) (h : N.rt d M) : fRet f N Γ M := hf _ _ h
theorem do_set (hf : ∀ (k : KD) (kx : KX), k d M → f Γ M k kx) (h : N.nx (Γ.set i (some d)) M) : fSet i f N Γ M := hf _ _ h
theorem do_setQ (Q : D → Prop) (hf : ∃ d, Q d ∧ ∀ (k : KD) (kx : KX), k d M → f Γ M k kx) (h : ∀ d, Q d → N.nx (Γ.set i (some d)) M) : fSet i f N Γ M :=
  let ⟨d, hd, hf⟩ := hf; hf _ _ (h d hd)
theorem do_seqQ {f' : FS} (Q : GE → MS → Prop) (h1 : ∀ nx : GE → MS → Prop, (∀ Γ' M', Q Γ' M' → nx Γ' M') → f' { N with nx := nx } Γ M) (h2 : ∀ Γ' M', Q Γ' M' → g N Γ' M') : fSeq f' g N Γ M := h1 _ h2
theorem do_if (hc : ∀ (k : Bool → MS → Prop) (kx : KX), k v M → c Γ M k kx) (h1 : v = true → a N Γ M) (h2 : v = false → b N Γ M) : fIfS c a b N Γ M := by
  refine hc _ _ ?_
  exact ite_b h1 h2
end
end Dl

set_option Elab.async false
set_option linter.all false
set_option maxRecDepth 100000
set_option maxHeartbeats 4000000
/-! D11: a def of one parameter, called by its name. -/
namespace Dl
open PySem PySem.Spec PyProof.Rows L2
section
variable {K : PySem.W.Frag} {x qual p : Str} {params : Arguments} {body : List Stmt} {scope : Scope} {kws : List (Str × V)} {f : Addr} {fd : FuncData}
theorem bindsW (F : FunD K x qual params body scope [] kws f fd) {args : Args} {l : List (Str × Value)} (h : ∀ (kV doc pm : Value) (an : Option Addr) (cdv ct : Value), bindArgs (PySem.W.fnOf x qual params body scope .none kV doc pm an cdv ct) args = pure l) (s : Shared) : BindsTo s fd args l := by
  obtain ⟨oc, od, dV, kV, doc, pm, an, cdv, ct, osl, rfl, lk, hcd, hD, hK⟩ := F.ex
  rcases hD with ⟨_, rfl⟩ | ⟨e, _⟩
  · exact .of_eq (h kV doc pm an cdv ct)
  · exact absurd rfl e
theorem kb1 (F : FunD K x qual params body scope [] kws f fd) (h1 : ∀ (kV doc pm : Value) (an : Option Addr) (cdv ct u : Value), bindArgs (PySem.W.fnOf x qual params body scope .none kV doc pm an cdv ct) ⟨[u], []⟩ = pure [(p, u)])
    (h2 : ∀ (kV doc pm : Value) (an : Option Addr) (cdv ct u : Value), bindArgs (PySem.W.fnOf x qual params body scope .none kV doc pm an cdv ct) ⟨[], [(p, u)]⟩ = pure [(p, u)]) : KBinds K fd [p] [p] (fun us ws => us ++ ws) (fun vs zs => vs ++ zs) := by
  refine ⟨fun s us ws _ hl => ?_, fun r1 r2 => r1.append r2⟩
  match us, ws, hl with
  | [], [u], _ => exact bindsW F (fun a b c d e g => h2 a b c d e g u) s
  | [u], [], _ => exact bindsW F (fun a b c d e g => h1 a b c d e g u) s
  | [], [], hl => cases hl
  | [], _ :: _ :: _, hl => cases hl
  | [_], _ :: _, hl => cases hl
  | _ :: _ :: _, _, hl => cases hl
end
end Dl

set_option Elab.async false
set_option linter.all false
set_option maxRecDepth 100000
set_option maxHeartbeats 4000000
/-! D12: defs that let exceptions out, and their calls, by data. -/
namespace Dl
open PySem PySem.Spec PyProof.Rows L2

abbrev FNx := List D → MS → KD → KX → Prop
def spX (K : PySem.W.Frag) (pf : FNx) : Sp := fun vs H Q E => ∃ F ds M k kx, RepM K F H M ∧ IsVs K (dm F M) H vs ds ∧ pf ds M k kx ∧ LinkX K F H M E kx ∧ Link K F H M k Q
section
variable {P : Program} {w : World} {K : PySem.W.Frag} {mg : Str → Option Value} {base : Heap}
/-- the rule of a def that may raise -/
theorem okX {x qual : Str} {params : Arguments} {body : List Stmt} {scope : Scope} {dvs : List V} {kws : List (Str × V)} {f : Addr} {fd : FuncData} {N ps : List Str} {k : Nat} {pf : FNx}
    (F : FunD K x qual params body scope dvs kws f fd) (S : FnScope N ps scope) (len : ∀ ds M k kx, pf ds M k kx → ds.length = ps.length)
    (hb : ∀ (cdv : Value) (A : Around) (outer : List Env) (s : Shared) (H : Hp) (E : XK), A.guards = some [] → Room k (A.deeper (envOfC qual scope s.heap.objs.size f cdv)) →
      ∃ g, DSs (cxOf (L2.CX P w) P w K mg base N qual scope f cdv A outer s H E) E body g ∧ ∀ ds M k kx, pf ds M k kx → g (ndOf k kx) (startG N ds) M) : FnG P w K mg base (L2.CX P w) (k + 1) f fd ps (spX K pf) := by
  refine fnG_of F S (fun vs H Q E ⟨Fr, ds, M, k, kx, R, hv, h, _, L⟩ => hv.length.trans (len _ _ _ _ h)) fun cdv A outer s H vs Q E hg hr ⟨Fr, ds, M, k, kx, R, hv, h, LX, L⟩ => ?_
  obtain ⟨g, hd, q⟩ := hb cdv A outer s H E hg hr
  refine ⟨_, hd, Fr, startG N ds, M, _, rep_start R hv, q ds M k kx h, ⟨fun Γ' M' σ' H' h' g' R' => ?_, L, fun _ _ _ _ (z : False) _ _ => z.elim, fun _ _ _ _ (z : False) _ _ => z.elim, LX⟩⟩
  exact L .non M' .non H' h' g' R'.mem .non
end
/-- a call's reading, the wish of exceptions by slots -/
def tCallE (sp : Sp) (dvs : List V) (E : L2.St → XK) (t : TA) : TE := fun σ H Q => t σ H fun vs H1 => sp (vs ++ dvs) H1 Q (E σ)
def fCallX (pf : FNx) (dds : List D) (g : FA) : FE := fun Γ M k kx => g Γ M (fun ds M1 => pf (ds ++ dds) M1 k kx) kx
section
variable {X : Cx} {CX : CXT} {k : Nat} {f : Addr} {fd : FuncData} {ps ks : List Str} {sp : Sp} {pf : FNx} {dvs : List V} {dds : List D} {ds : List Value} {E : L2.St → XK} {x : Str} {p pos : Pos} {e : Expr} {es : List Expr} {t : TA} {g : FA}
theorem end_callS {pins : List (Addr × Obj)} {σ : L2.St} {H : Hp} {s : Shared} {Q : VK} {E : XK} {us : List Value} {kw : List (Str × Value)} (hx : PassesAt CX X σ E) (I : Inv X pins σ H s)
    (h : codeAny (model X.prog X.w) X.A (.call (.ref f) ⟨us, kw⟩) (CR CX X.stack X.prog X.w H s Q E) s) : wpAny (model X.prog X.w) X.A (call (.ref f) us kw) (EP X pins σ Q) X.xe s := by
  refine wpAny_call (codeAny_mono h fun r s' hq => ?_)
  cases r with
  | error e => exact hx pins H s e s' I hq
  | ok fl => cases fl <;> first | exact I.after hq | exact False.elim hq
theorem run_fnGS {pins : List (Addr × Obj)} {σ : L2.St} {H : Hp} {s : Shared} {Q : VK} {E : XK} {us : List Value} {vs : List V} (F : FnG X.prog X.w X.K X.mg X.base CX k f fd ps sp) (hgd : X.A.guards = some []) (hr : Room k X.A) (hb : Binds X.K fd ps ds) (hd : Vals dvs ds) (hx : PassesAt CX X σ E)
    (I : Inv X pins σ H s) (r : Vals vs us) (h : sp (vs ++ dvs) H Q E) : wpAny (model X.prog X.w) X.A (call (.ref f) us) (EP X pins σ Q) X.xe s := by
  have r2 := r.append hd
  have hl := r2.length.symm.trans (F.len _ _ _ _ h)
  exact end_callS hx I (F.run X.A X.stack s H ⟨us, []⟩ (us ++ ds) (vs ++ dvs) Q E hgd hr I.env0 (hb s us I.kIn hl) r2 h)
theorem pe_callE (F : FnG X.prog X.w X.K X.mg X.base CX k f fd ps sp) (hgd : X.A.guards = some []) (hr : Room k X.A) (hg : Gl X x) (hm : X.mg x = some (.ref f)) (hk : PySem.W.keepIn X.K (.ref f) = true) (hb : Binds X.K fd ps ds) (hd : Vals dvs ds) (hx : ∀ σ, PassesAt CX X σ (E σ))
    (ha : PA X (e :: es) t) (hdb : (x == ("__debug__" : Str)) = false := by decide) (he : starEach (e :: es) X.env = (false, eval e X.env) :: starEach es X.env := by rfl) (hpl : (backTo pos (starEach es X.env)).any (·.1) = false := by rfl) :
    PE X (.Call (.Name x p) (e :: es) [] pos) (tCallE sp dvs E t) := by
  constructor
  intro pins s σ H Q I h
  refine wpAny_Call_Name_kw (ld_glob I hg hm (PySem.W.callWith_K (h₀ := X.base) I.ok.mod.kin hk (thn (ha.run pos pins s σ H _ I h) ?_) he hpl) hdb)
  rintro us s1 ⟨vs, H1, I1, r, q⟩
  exact ⟨I1.kIn, run_fnGS F hgd hr hb hd (hx σ) I1 r q⟩
theorem li_callX {K : PySem.W.Frag} {σ : L2.St} {H : Hp} {Q : VK} (hdd : ∀ P H, IsVs K P H dvs dds) (h : liE K E (fCallX pf dds g) σ H Q) : tCallE (spX K pf) dvs E (liA K E g) σ H Q := by
  obtain ⟨F, Γ, M, k, kx, R, q, LX, L⟩ := h
  exact ⟨F, Γ, M, _, kx, R, q, LX, fun xs M1 vs H1 h1 g1 R1 i1 => ⟨F, xs ++ dds, M1, k, kx, R1, i1.append (hdd _ _), h1, LX.go g1, L.go g1⟩⟩
/-- f(e, ..), f may raise; W: what this place wishes of exceptions -/
theorem de_callX {W : WX} (tk : Takes X W) (F : FnG X.prog X.w X.K X.mg X.base (L2.CX X.prog X.w) k f fd ps (spX X.K pf)) (hgd : X.A.guards = some []) (hr : Room k X.A) (hg : Gl X x) (hm : X.mg x = some (.ref f)) (hk : PySem.W.keepIn X.K (.ref f) = true) (hb : Binds X.K fd ps ds) (hd : Vals dvs ds) (hdd : ∀ P H, IsVs X.K P H dvs dds)
    (ha : DA X (WE W) (e :: es) g) (hdb : (x == ("__debug__" : Str)) = false := by decide) (he : starEach (e :: es) X.env = (false, eval e X.env) :: starEach es X.env := by rfl) (hpl : (backTo pos (starEach es X.env)).any (·.1) = false := by rfl) :
    DE X (WE W) (.Call (.Name x p) (e :: es) [] pos) (fCallX pf dds g) := pe_w (pe_callE F hgd hr hg hm hk hb hd (passAt tk) ha hdb he hpl) fun _ _ _ => li_callX hdd
end

/-! ### raise -/
/-- what an expression that makes an exception tells: class, fields, kept by the changing objects -/
abbrev FR := GE → MS → KX → KX → Prop
def liR (K : PySem.W.Frag) (E : L2.St → XK) (f : FR) : L2.St → Hp → XK → Prop := fun σ H Q => ∃ F Γ M k kx, Rep K F σ H Γ M ∧ f Γ M k kx ∧ LinkX K F H M (E σ) kx ∧ LinkX K F H M Q k
def fRaise (f : FR) : FS := fun N Γ M => f Γ M N.ex N.ex
theorem ds_raise {X : Cx} {E : XK} {e : Expr} {f : FR} {pos : Pos} (hc : X.calm = true) (tk : Takes X (fun cls d _ H => E cls d H)) (he : PMk X e (liR X.K (fun _ => E) f)) : DS X E (.Raise (some e) none pos) (fRaise f) :=
  ps_w (ps_raise hc tk he) fun D σ H ⟨F, Γ, M, N, R, q, L⟩ => ⟨F, Γ, M, N.ex, N.ex, R, q, L.ex, L.ex⟩
end Dl

set_option Elab.async false
set_option linter.all false
set_option maxRecDepth 100000
set_option maxHeartbeats 4000000
/-! D13: an exception that is caught and held as a value behind the suite. -/
namespace Dl
open PySem PySem.Spec PyProof.Rows L2

/-- a caught exception, tracked -/
def ExW (cls : Value) (d : Option Addr) (a : Addr) : HO := .ext fun h => ∃ (oe : Obj) (vs : Array Value), h.get? a = some oe ∧ oe.cls = cls ∧ oe.dict = d ∧ oe.data = .fields vs
theorem exW_ref (C : Addr) (d : Option Addr) (a : Addr) : ExW (.ref C) d a = ExV C d a := rfl
section
variable {X : Cx} {pins : List (Addr × Obj)} {σ : L2.St} {H : Hp} {s : Shared} {a : Addr}
/-- an object that stands untracked, of no frame, is tracked -/
theorem Inv.track {o : HO} (I : L2.Inv X pins σ H s) (ha : H a = none) (h0 : X.s_0.heap.get? a = none) (hl : a ≠ X.env.locals) (hc : ∀ x c, X.env.cells.lookup x = some c → c ≠ a) (hp : ∀ p ∈ X.pn ++ pins, p.1 ≠ a)
    (new : ObjOk X.prog X.w (upd H a o) s.heap a o) : L2.Inv X pins σ (upd H a o) s := by
  have ne0 : ∀ b ob, X.s_0.heap.get? b = some ob → b ≠ a := fun b ob e z => by
    rw [z, h0] at e
    cases e
  refine ⟨I.ok, I.os, I.bare, ⟨I.base.keep, I.base.slot, fun b ob e n hx => ?_, I.base.there, fun b xs e => ?_, fun b ob u e => ?_, fun b ps e => ?_⟩, I.loc, I.cell, ?_, fun x c e => ?_, fun p hm => ?_, fun b u e => ?_, I.len⟩
  · rw [upd_ne (ne0 b ob e)]
    exact I.base.free b ob e n hx
  · have q := I.base.tups b xs e
    rw [upd_ne (ne_of_none q ha)]
    exact q
  · have q := I.base.frzs b ob u e
    rw [upd_ne (ne_of_none q ha)]
    exact q
  · obtain ⟨m, q⟩ := I.base.tbls b ps e
    exact ⟨m, by rw [upd_ne (ne_of_none q ha)]; exact q⟩
  · rw [upd_ne (Ne.symm hl)]
    exact I.free
  · rw [upd_ne (hc x c e)]
    exact I.freeC x c e
  · obtain ⟨e1, n, e2, e3, e4⟩ := I.pin p hm
    exact ⟨e1, by rw [upd_ne (hp p hm)]; exact n, e2, e3, e4⟩
  · by_cases hb : b = a
    · subst hb
      rw [upd_same] at e
      cases e
      exact new
    · rw [upd_ne hb] at e
      exact (I.hok b u e).stay (fun _ _ _ q => q) (fun c q => by rw [upd_ne (ne_of_none q ha)]; exact q) fun c xs q => by rw [upd_ne (ne_of_none q ha)]; exact q
theorem exW_ok {P : Program} {w : World} {h : Heap} {cls : Value} {d : Option Addr} {oe : Obj} {vs : Array Value} (e : h.get? a = some oe) (z : Zc cls d oe) (hd : oe.data = .fields vs) : ObjOk P w H h a (ExW cls d a) :=
  ⟨⟨oe, vs, e, z.1, z.2, hd⟩, ⟨oe, e⟩, fun _ _ ⟨o, v, q, r⟩ k => ⟨o, v, k o q, r⟩⟩
end
/-- what is wished where the suite's exception is kept -/
def wKeep (K : PySem.W.Frag) (c : Value) (i : Nat) (ts : Addr → Value → Option Addr → TS) (Wout : WX) (D : Ends) : WX := fun cls d σ H =>
  ∃ b, PySem.W.exmOne K cls c = some b ∧ (b = true → ∀ a, H a = none → ts a cls d { nx := fun σ' H' => H' a = none → D.nx (σ'.set i none) (upd H' a (ExW cls d a)), rt := fun v H' => H' a = none → D.rt v (upd H' a (ExW cls d a)), bk := fun _ _ => False, ct := fun _ _ => False } (σ.set i (some (.ref a))) H) ∧
    (b = false → Wout cls d σ H)
section
variable {X : Cx} {x n : Str} {c : Value} {i : Nat} {body suite : List Stmt} {b₀ : Stmt} {np pos pos' : Pos} {tb : WX → TS} {ts : Addr → Value → Option Addr → TS} {Wout : WX}
theorem ps_try_keep (hx0 : X.ex = []) (hs : X.stack = X.env :: X.outer) (hf : X.env.frame = some X.env.locals) (hN : X.N.Nodup) (hi : X.N[i]? = some n) (hln : X.env.kindOf n = some .local) (hc : Names X x c) (tk : Takes X Wout)
    (hb : ∀ (W : WX) (pn : List (Addr × Obj)) (xe : Value → Shared → Prop), Takes (X.tr pn xe) W → PassesOwn (model X.prog X.w) X.A X.env xe → PSs (X.tr pn xe) body (tb W))
    (hsu : ∀ (a : Addr) (oe : Obj) (cls : Value) (d : Option Addr) (pn : List (Addr × Obj)), Zc cls d oe → (∃ vs, oe.data = .fields vs) → PSs (X.suite a ((a, oe) :: pn)) (b₀ :: suite) (ts a cls d)) :
    PS X (.Try body [.ExceptHandler (some (.Name x np)) (some n) (b₀ :: suite) pos'] [] [] pos) (fun D σ H => tb (wKeep X.K c i ts Wout D) D σ H) := by
  refine ⟨fun pins s σ H D I h => ?_⟩
  have ok := I.ok
  have hfr : X.A.frames = some (X.env :: X.outer) := ok.frames.trans (by rw [hs])
  have hbody := (hb (wKeep X.K c i ts Wout D) (X.pn ++ pins) (fun e s₁ => wpAny (model X.prog X.w) X.A (noteFrame e X.env) (fun _ s₂ => wpAny (model X.prog X.w) X.A (setFlight e none) (fun _ s₃ =>
    wpAny (model X.prog X.w) X.A (handleBy e X.env [.ExceptHandler (some (.Name x np)) (some n) (b₀ :: suite) pos']) (SP X pins D) X.xe s₃) X.xe s₂) X.xe s₁) (fun u s' xx => ?air) PassesOwn.looking).run [] s σ H D (I.toTry _) h
  case air =>
    obtain ⟨a, B, sI, pins', σ', H', cls, d, rfl, J', nb, up, sky, na, os, ag, b, hb1, hyes, hno⟩ := xx
    have J : L2.Inv X pins σ' H' sI := J'.ofTry ok
    have sk : Sky B (X.env :: X.outer) a (Zc cls d) X.env.locals s'.heap := hs ▸ sky
    refine Sky.land Zc.steady hfr hf sk fun h3 fl3 up3 => ?_
    have J3 : L2.Inv X pins σ' H' { s' with heap := h3 } := J.landed nb fl3.1 (up.trans up3) os ag
    obtain ⟨oe3, vs3, he3, hz3, hd3⟩ := fl3.there
    have nfr : a ∉ frs (X.env :: X.outer) := fun hm => by
      obtain ⟨_, o', e', hnf⟩ := fl3.2.2.1.mem hm
      rw [he3] at e'
      cases e'
      exact hnf _ hd3
    have nL : a ≠ X.env.locals := fun z => nfr (List.mem_filterMap.mpr ⟨X.env, List.mem_cons_self, by rw [hf, z]⟩)
    have nF : a ∉ X.fs := fun hm => by
      obtain ⟨e, he, q⟩ := List.mem_filterMap.mp hm
      exact nfr (List.mem_filterMap.mpr ⟨e, List.mem_cons_of_mem _ he, q⟩)
    -- the exception is none of what stood ahead of it
    have nI : sI.heap.get? a = none := by
      cases q : sI.heap.get? a with
      | none => rfl
      | some o =>
        have z := nb a o q (by rw [hs]; exact nfr)
        rw [fl3.2.1] at z
        cases z
    have of_I : ∀ {b : Addr} {o : Obj}, sI.heap.get? b = some o → b ≠ a := fun {b o} e z => by
      rw [z, nI] at e
      cases e
    have n0 : X.s_0.heap.get? a = none := by
      cases q : X.s_0.heap.get? a with
      | none => rfl
      | some o =>
        obtain ⟨o', z⟩ := J.base.there a o q (by rw [hx0]; simp)
        exact absurd rfl (of_I z)
    have nC : ∀ y c, X.env.cells.lookup y = some c → c ≠ a := fun y c e => by
      obtain ⟨v, o, ho, _⟩ := J.cell y c e
      exact of_I ho
    have nP : ∀ p ∈ X.pn ++ pins, p.1 ≠ a := fun p hp => of_I (J.pin p hp).1
    have S3 := J3.suite he3 hd3 na nL nF
    refine wpAny_handleBy_cons (codeAny_handlers_test ?_) (by intro q; cases q)
    have LM := PySem.W.exm_one (M := model X.prog X.w) J3.kIn (fun A Q E s k q => wpAny_typeOf_ref (k _ _ he3) (by rw [hz3.1]; exact q)) hb1
    have named : ∀ {Q E : Value → Shared → Prop}, Q c { s' with heap := h3 } → wpAny (model X.prog X.w) (X.A.mark (some (.ref a))) (eval (.Name x np) X.env) Q E { s' with heap := h3 } := fun {Q E} q => by
      rcases hc with ⟨hg, hdb, hm | ⟨hm, hv, hnn⟩⟩
      · exact ld_glob (X := X.suite a ((a, oe3) :: (X.pn ++ pins))) S3 hg hm q hdb
      · exact ld_blt (X := X.suite a ((a, oe3) :: (X.pn ++ pins))) S3 hg hm hv q hnn hdb
    refine named (LM.here ?_)
    match b, hyes, hno with
    | true, hyes, _ =>
      refine codeAny_handlers_suite_as (HandSPX.lands_againZ fl3 fun h4 fl4 up4 => ?_)
      have J4 : L2.Inv X pins σ' H' { s' with heap := h4 } := J.landed nb fl4.1 ((up.trans up3).trans up4) os ag
      obtain ⟨oe4, vs4, he4, hz4, hd4⟩ := fl4.there
      refine store_ok (X := X.suite a ((a, oe4) :: (X.pn ++ pins))) (v := .ref a) (J4.suite he4 hd4 na nL nF) hN hi (.inl hln) rfl (fun s5 S5 => ?_) (.inr hln)
      refine wpAny_mono ((hsu a oe4 cls d (X.pn ++ pins) hz4 ⟨_, hd4⟩).run [] s5 _ H' _ S5 (hyes rfl a na)) (fun f s6 hsp => ?_) (fun _ _ z => False.elim z)
      -- the name goes, the exception is tracked
      have leave : ∀ {σ6 : L2.St} {H6 : Hp} {Q : Shared → Prop}, L2.Inv (X.suite a ((a, oe4) :: (X.pn ++ pins))) [] σ6 H6 s6 → (H6 a = none → ∀ s7, L2.Inv X pins (σ6.set i none) (upd H6 a (ExW cls d a)) s7 → Q s7) →
          wpAny (model X.prog X.w) X.A (do bindName X.env n .none; unbindBehindTheSuite X.env n pos') (fun _ s7 => Q s7) X.xe s6 := fun {σ6 H6 Q} S6 hq =>
        gone_ok (X := X.suite a ((a, oe4) :: (X.pn ++ pins))) S6 hN hi hln fun s7 S7 => by
          obtain ⟨e7, n7, _⟩ := S7.pin (a, oe4) (List.mem_append_left _ List.mem_cons_self)
          exact hq n7 s7 (Inv.track (S7.unsuite ok) n7 n0 nL nC nP (exW_ok e7 hz4 hd4))
      match f, hsp with
      | .next, ⟨σ6, H6, S6, q6⟩ => exact leave S6 fun n6 s7 J7 => ⟨_, _, J7, q6 n6⟩
      | .brk, ⟨_, _, _, q6⟩ => exact q6.elim
      | .cont, ⟨_, _, _, q6⟩ => exact q6.elim
      | .ret u, ⟨v6, σ6, H6, S6, r6, q6⟩ => exact leave S6 fun n6 s7 J7 => ⟨_, _, _, J7, r6, q6 n6⟩
    | false, _, hno =>
      show wpAny _ X.A (handleBy (.ref a) X.env []) _ _ _
      refine wpAny_handleBy_nil ?_
      obtain ⟨_, _, _, oe, vs, T, oT, ts', he, hz, hd, h1, hr⟩ := id fl3
      unfold PySem.passOn
      refine wpAny_bind (wpAny_field he hd h1 ?_)
      rw [if_neg (show ¬ ((Value.ref T == Value.none) = true) from by simp)]
      have fin : wpAny (model X.prog X.w) X.A (setFlight (.ref a) X.env.frame) (fun _ s4 => wpAny (model X.prog X.w) X.A (throw (.ref a) : Sem Flow) (SP X pins D) X.xe s4) X.xe { s' with heap := h3 } := by
        rw [hf]
        refine HandSPX.setFlight_upZ fl3 fun h4 hh4 up4 => wpAny_throw (tk _ _ ?_)
        exact ⟨a, B, sI, pins, σ', H', cls, d, rfl, J, nb, (up.trans up3).trans up4, .inr (.inr (by rw [hs]; exact hh4)), na, os, ag, hno rfl⟩
      first
        | exact wpAny_bind (wpAny_pure (wpAny_bind fin))
        | exact wpAny_bind fin
  refine wpAny_Try_except (wpAny_mono hbody (fun f s1 hsp => ?_) fun e s1 he => he)
  match f, hsp with
  | .next, ⟨σ', H', J', q⟩ => exact wpAny_execs_nil ⟨σ', H', Inv.ofTry J' ok, q⟩
  | .brk, ⟨σ', H', J', q⟩ => exact ⟨σ', H', Inv.ofTry J' ok, q⟩
  | .cont, ⟨σ', H', J', q⟩ => exact ⟨σ', H', Inv.ofTry J' ok, q⟩
  | .ret u, ⟨v, σ', H', J', r, q⟩ => exact ⟨v, σ', H', Inv.ofTry J' ok, r, q⟩
end
end Dl

set_option Elab.async false
set_option linter.all false
set_option maxRecDepth 100000
set_option maxHeartbeats 4000000
/-! D14: try: call, except C as n: v = n, by data; fields, kinds of what was caught. -/
namespace Dl
open PySem PySem.Spec PyProof.Rows L2

/-- what is wished of an exception ahead of the suite v = n (slots j, i) -/
def kxTry (K : PySem.W.Frag) (c : Value) (i j : Nat) (N : Nd) (Γ : GE) : KX := fun C fs M' => ∃ b, PySem.W.exmOne K (.ref C) c = some b ∧ (b = true → N.nx (((Γ.set i none).set j (some (.exv C fs)))) M') ∧ (b = false → N.ex C fs M')
def fTryE (K : PySem.W.Frag) (c : Value) (i j : Nat) (f : FE) : FS := fun N Γ M => i < Γ.length ∧ f Γ M (fun _ M1 => N.nx Γ M1) (kxTry K c i j N Γ)
def fTryS (K : PySem.W.Frag) (c : Value) (i j m : Nat) (f : FE) : FS := fun N Γ M => i < Γ.length ∧ f Γ M (fun d M1 => N.nx (Γ.set m (some d)) M1) (kxTry K c i j N Γ)
section
variable {X : Cx} {E : XK} {x n v : Str} {c : Value} {i j m : Nat} {e : Expr} {f : FE} {np pn pv ps pos pos' p0 pm : Pos}
theorem keep_link {D : Ends} {F : Addr → Prop} {σ : L2.St} {H : Hp} {Γ : GE} {M : MS} {N : Nd} (hij : i ≠ j) (R : Rep X.K F σ H Γ M) (L : LinkS X.K F H M N D E) (hil : i < Γ.length) :
    LinkX X.K F H M (WE (wKeep X.K c i (fun _ _ _ => liS X.K E0 (fSet j (fVar i))) (fun cls d _ H => E cls d H) D) σ) (kxTry X.K c i j N Γ) := by
  intro C fs M' d H' hk g R' x
  obtain ⟨b, hb, h1, h2⟩ := hk
  refine ⟨b, hb, fun e a ha => ?_, fun e => L.ex C fs M' d H' (h2 e) g R' x⟩
  have Rg := (R.go g R').set i (.ref a)
  refine ⟨F, Γ.set i (some (.ref a)), M', ⟨fun Γ2 M2 => Γ2 = (Γ.set i (some (.ref a))).set j (some (.ref a)) ∧ M2 = M', fun _ _ => False, fun _ _ => False, fun _ _ => False, noX⟩, Rg, ⟨.ref a, by rw [List.getElem?_set_self hil], rfl, rfl⟩,
    ⟨fun Γ2 M2 σ2 H2 hq g2 R2 n2 => ?_, fun _ _ _ _ z => z.elim, fun _ _ _ _ z => z.elim, fun _ _ _ _ z => z.elim, linkX0⟩⟩
  obtain ⟨rfl, rfl⟩ := hq
  -- the exception is tracked
  have g3 : Go H2 M2 (upd H2 a (ExW (.ref C) d a)) M2 := Go.new (K := X.K) (F := F) n2
  have R3 : RepM X.K F (upd H2 a (ExW (.ref C) d a)) M2 := R2.mem.new n2
  have n3 : ¬ dm F M2 a := R2.mem.fresh n2
  have kp2 : Kp (dm F M2) (dm F M2) H' (upd H2 a (ExW (.ref C) d a)) := (g2.trans g3).to_kp
  have iv : IsV X.K (dm F M2) (upd H2 a (ExW (.ref C) d a)) (.ref a) (.exv C fs) := by
    rcases x with ⟨rfl, rfl⟩ | ⟨dd, vs, rfl, np, hd, hf⟩
    · exact .exv0 n3 (by rw [upd_same]; rfl)
    · obtain ⟨np2, hd2⟩ := kp2 dd _ np hd
      exact .exv n3 (by rw [upd_same]; rfl) np2 hd2 (IsFs.kp kp2 _ _ hf)
  refine L.nx _ M2 _ _ (h1 e) ((g.trans g2).trans g3) ⟨fun l d' q => ?_, ?_, R3⟩
  · by_cases hlj : l = j
    · subst hlj
      have hl : l < (Γ.set i none).length := by
        have := (List.getElem?_eq_some_iff.mp q).1
        rwa [List.length_set] at this
      rw [List.getElem?_set_self hl] at q
      cases q
      obtain ⟨w, hw, iw⟩ := R2.env l (.ref a) (by rw [List.getElem?_set_self (by rw [List.length_set] at hl ⊢; exact hl)])
      cases iw
      exact ⟨.ref a, by rw [List.getElem?_set_ne hij]; exact hw, iv⟩
    · rw [List.getElem?_set_ne (Ne.symm hlj)] at q
      by_cases hli : l = i
      · subst hli
        rw [List.getElem?_set_self (by
          have := (List.getElem?_eq_some_iff.mp q).1
          rwa [List.length_set] at this)] at q
        cases q
      · rw [List.getElem?_set_ne (Ne.symm hli)] at q
        obtain ⟨w, hw, iw⟩ := R2.env l d' (by rw [List.getElem?_set_ne (Ne.symm hlj), List.getElem?_set_ne (Ne.symm hli)]; exact q)
        exact ⟨w, by rw [List.getElem?_set_ne (Ne.symm hli)]; exact hw, IsV.kp g3.to_kp _ _ iw⟩
  · have := R2.len
    simp only [List.length_set] at this ⊢
    exact this
/-- try: e, except x as n: v = n -/
theorem ds_tryE (i j : Nat) (hij : i ≠ j) (hx0 : X.ex = []) (hs : X.stack = X.env :: X.outer) (hf : X.env.frame = some X.env.locals) (hN : X.N.Nodup) (hi : X.N[i]? = some n) (hln : X.env.kindOf n = some .local) (hc : Names X x c) (tk : Takes X (fun cls d _ H => E cls d H))
    (he : ∀ (W : WX) (pn : List (Addr × Obj)) (xe : Value → Shared → Prop), Takes (X.tr pn xe) W → DE (X.tr pn xe) (WE W) e f)
    (hsu : ∀ (a : Addr) (oe : Obj) (pn' : List (Addr × Obj)), DSs (X.suite a ((a, oe) :: pn')) E0 [.Assign [.Name v pv] (.Name n pn) ps] (fSet j (fVar i)))
    (hw : swapsWith e none p0.line X.env = pure false := by rfl) :
    DS X E (.Try [.Expr e p0] [.ExceptHandler (some (.Name x np)) (some n) [.Assign [.Name v pv] (.Name n pn) ps] pos'] [] [] pos) (fTryE X.K c i j f) :=
  ps_w (ps_try_keep (ts := fun _ _ _ => liS X.K E0 (fSet j (fVar i))) (tb := fun W D σ H => liE X.K (WE W) f σ H fun _ H' => D.nx σ H') hx0 hs hf hN hi hln hc tk (fun W pn xe tk' _ => pss_one (ps_expr (he W pn xe tk') hw)) fun a oe cls d pn' _ _ => hsu a oe pn') fun D σ H ⟨F, Γ, M, N, R, q, L⟩ => by
    obtain ⟨hil, q⟩ := q
    exact ⟨F, Γ, M, _, _, R, q, keep_link hij R L hil, fun d M1 v H1 h g1 R1 _ => L.nx _ _ _ _ h g1 (R.go g1 R1)⟩
/-- try: y = e, except x as n: v = n -/
theorem ds_tryS {y : Str} (i j m : Nat) (hij : i ≠ j) (hx0 : X.ex = []) (hs : X.stack = X.env :: X.outer) (hf : X.env.frame = some X.env.locals) (hN : X.N.Nodup) (hi : X.N[i]? = some n) (hm : X.N[m]? = some y) (hly : Loc X.env.scope y) (hln : X.env.kindOf n = some .local) (hc : Names X x c) (tk : Takes X (fun cls d _ H => E cls d H))
    (he : ∀ (W : WX) (pn : List (Addr × Obj)) (xe : Value → Shared → Prop), Takes (X.tr pn xe) W → DE (X.tr pn xe) (WE W) e f)
    (hsu : ∀ (a : Addr) (oe : Obj) (pn' : List (Addr × Obj)), DSs (X.suite a ((a, oe) :: pn')) E0 [.Assign [.Name v pv] (.Name n pn) ps] (fSet j (fVar i)))
    (hw : swapsWith e (some (.Name y pm)) p0.line X.env = pure false := by rfl) (hfn : X.fn y = true ∨ X.env.scope.names.lookup y = some .local := by first | exact .inl rfl | exact .inr rfl | assumption) :
    DS X E (.Try [.Assign [.Name y pm] e p0] [.ExceptHandler (some (.Name x np)) (some n) [.Assign [.Name v pv] (.Name n pn) ps] pos'] [] [] pos) (fTryS X.K c i j m f) :=
  ps_w (ps_try_keep (ts := fun _ _ _ => liS X.K E0 (fSet j (fVar i))) (tb := fun W D σ H => liE X.K (WE W) f σ H fun v H' => D.nx (σ.set m (some v)) H') hx0 hs hf hN hi hln hc tk (fun W pn xe tk' _ => pss_one (ps_set (X := X.tr pn xe) hN hm hly (he W pn xe tk') hw hfn)) fun a oe cls d pn' _ _ => hsu a oe pn') fun D σ H ⟨F, Γ, M, N, R, q, L⟩ => by
    obtain ⟨hil, q⟩ := q
    exact ⟨F, Γ, M, _, _, R, q, keep_link hij R L hil, fun d M1 v H1 h g1 R1 i1 => L.nx _ _ _ _ h g1 ((R.go g1 R1).set m i1)⟩
end
end Dl

set_option Elab.async false
set_option linter.all false
set_option maxRecDepth 100000
set_option maxHeartbeats 4000000
/-! D15: instances by data: fields read and set, made, methods called. -/
namespace Dl
open PySem PySem.Spec PyProof.Rows L2

theorem IsFs.lookup {K : PySem.W.Frag} {P : Addr → Prop} {H : Hp} {f : Str} : ∀ {fv : List (Str × V)} {fs : List (Str × D)} {d : D}, IsFs K P H fv fs → fs.lookup f = some d → ∃ v, fv.lookup f = some v ∧ IsV K P H v d
  | _, _, _, .nil, e => by cases e
  | _, _, d, .cons (k := k) h t, e => by
    rw [List.lookup_cons] at e ⊢
    cases q : f == k with
    | true =>
      rw [q] at e
      cases e
      exact ⟨_, rfl, h⟩
    | false =>
      rw [q] at e
      exact IsFs.lookup t e
theorem IsFs.none {K : PySem.W.Frag} {P : Addr → Prop} {H : Hp} {f : Str} : ∀ {fv : List (Str × V)} {fs : List (Str × D)}, IsFs K P H fv fs → fs.lookup f = none → fv.lookup f = none
  | _, _, .nil, _ => rfl
  | _, _, .cons (k := k) h t, e => by
    rw [List.lookup_cons] at e ⊢
    cases q : f == k with
    | true => rw [q] at e; cases e
    | false => rw [q] at e; exact IsFs.none t e
theorem IsFs.length {K : PySem.W.Frag} {P : Addr → Prop} {H : Hp} : ∀ {fv : List (Str × V)} {fs : List (Str × D)}, IsFs K P H fv fs → fv.length = fs.length
  | _, _, .nil => rfl
  | _, _, .cons _ t => congrArg Nat.succ t.length
def putD (f : Str) (v : D) : List (Str × D) → List (Str × D)
  | [] => [(f, v)]
  | (g, x) :: r => if g = f then (g, v) :: r else (g, x) :: putD f v r
theorem IsFs.put {K : PySem.W.Frag} {P : Addr → Prop} {H : Hp} {f : Str} {y : V} {d : D} (hy : IsV K P H y d) : ∀ {fv : List (Str × V)} {fs : List (Str × D)}, IsFs K P H fv fs → IsFs K P H (putF f y fv) (putD f d fs)
  | _, _, .nil => .cons hy .nil
  | _, _, .cons (k := k) (v := v) (d := e) h t => by
    unfold putF putD
    by_cases q : k = f
    · rw [if_pos q, if_pos q]
      exact .cons hy t
    · rw [if_neg q, if_neg q]
      exact .cons h (t.put hy)
/-- e.f -/
def fFld (K : PySem.W.Frag) (nm : Str) (f : FE) : FE := fun Γ M k kx => f Γ M (fun x M1 => ∃ C fs d, vw M1 x = .ins C fs ∧ Cls K C ∧ NoAttr K C nm ∧ fs.lookup nm = some d ∧ k d M1) kx
/-- o.f = e -/
def fFldSet (K : PySem.W.Frag) (nm : Str) (fv fo : FE) : FS := fun N Γ M => fv Γ M (fun y M1 => fo Γ M1 (fun x M2 => ∃ p C fs, x = .ref p ∧ M2 p = some (.ins C fs) ∧ Cls K C ∧ NoAttr K C nm ∧ fs.length < 1000 ∧ N.nx Γ (upM M2 p (.ins C (putD nm y fs)))) N.ex) N.ex
section
variable {X : Cx} {nm : Str} {pos pos' : Pos}
theorem de_fld {E : L2.St → XK} {e : Expr} {f : FE} (he : DE X E e f) (hb : attributeBase e nm X.env (eval e X.env) = eval e X.env := by rfl) : DE X E (.Attribute e nm pos) (fFld X.K nm f) := pe_w (pe_fld he hb) fun σ H Q h => by
  obtain ⟨F, Γ, M, k, kx, R, q, LX, L⟩ := h
  refine ⟨F, Γ, M, _, kx, R, q, LX, fun x M1 v H1 hx g1 R1 i1 => ?_⟩
  obtain ⟨C, fs, d, ex, hc, hn, hl, hx⟩ := hx
  have i2 := i1.rd R1
  rw [ex] at i2
  cases i2 with
  | ins h1 h2 =>
    obtain ⟨v, e1, iv⟩ := h2.lookup hl
    exact ⟨_, C, _, _, v, rfl, h1, hc, hn, e1, L _ M1 v H1 hx g1 R1 iv⟩
theorem ds_fld {E : XK} {o e : Expr} {fv fo : FE} (ho : DE X (fun _ => E) o fo) (he : DE X (fun _ => E) e fv) (hs : swapsWith e (some (.Attribute o nm pos')) pos.line X.env = pure false := by rfl) : DS X E (.Assign [.Attribute o nm pos'] e pos) (fFldSet X.K nm fv fo) :=
  ps_w (ps_fld ho he hs) fun D σ H ⟨F, Γ, M, N, R, q, L⟩ => by
    refine ⟨F, Γ, M, _, N.ex, R, q, L.ex, fun y M1 v H1 hy g1 R1 i1 => ?_⟩
    refine ⟨F, Γ, M1, _, N.ex, R.go g1 R1, hy, L.ex.go g1, fun x M2 u H2 hx g2 R2 i2 => ?_⟩
    obtain ⟨p, C, fs, rfl, hp, hc, hn, hl, hx⟩ := hx
    cases i2
    have i1 := IsV.kp g2.to_kp _ _ i1
    obtain ⟨dx, fv, e1, h1⟩ : ∃ dx fv, H2 p = some (.ins C dx fv) ∧ IsFs X.K (dm F M2) H2 fv fs := R2.cel p _ hp
    have hpn : M2 p ≠ none := by rw [hp]; exact nofun
    have g3 : Go H2 M2 (upd H2 p (.ins C dx (putF nm v fv))) (upM M2 p (.ins C (putD nm y fs))) := Go.chg hpn
    have R3 : RepM X.K F (upd H2 p (.ins C dx (putF nm v fv))) (upM M2 p (.ins C (putD nm y fs))) := R2.chg hpn ⟨dx, _, upd_same, IsFs.kp g3.to_kp _ _ (h1.put i1)⟩
    exact ⟨p, C, dx, fv, rfl, e1, hc, hn, by rw [h1.length]; exact hl, L.nx _ _ _ _ hx ((g1.trans g2).trans g3) (R.go ((g1.trans g2).trans g3) R3)⟩
end

/-! ### made -/
section
variable {X : Cx} {CX : CXT} {k : Nat} {f C : Addr} {fd : FuncData} {ps : List Str} {sp : Sp} {dvs : List V} {ds : List Value} {x : Str} {p pos : Pos} {e : Expr} {es : List Expr} {t : TA}
theorem run_makeG {pins : List (Addr × Obj)} {σ : L2.St} {H : Hp} {s : Shared} {Q : VK} {E : XK} {us : List Value} {vs : List V} (M : Mk X.K C f) (F : FnG X.prog X.w X.K X.mg X.base CX k f fd ps sp) (hgd : X.A.guards = some []) (hr : Room (k + 1) X.A) (hb : Binds X.K fd ps ds) (hd : Vals dvs ds)
    (hx : PassesAt CX X σ E) (I : L2.Inv X pins σ H s) (r : Vals vs us)
    (h : ∀ x dx, H x = none → H dx = none → dx ≠ x → sp (.ref x :: (vs ++ dvs)) (upd (upd H dx (.own x)) x (.ins C dx [])) (fun v H2 => v = .non ∧ Q (.ref x) H2) E) :
    wpAny (model X.prog X.w) X.A (call (.ref C) us) (EP X pins σ Q) X.xe s := by
  have n1 : H s.heap.objs.size = none := I.hok.fresh (Nat.le_refl _)
  have n2 : H (s.heap.objs.size + 1) = none := I.hok.fresh (Nat.le_succ _)
  have hq := h (s.heap.objs.size + 1) s.heap.objs.size n2 n1 (Nat.ne_of_lt (Nat.lt_succ_self _))
  have I2 := L2.Inv.made (C := C) I
  have r2 : Vals (V.ref (s.heap.objs.size + 1) :: (vs ++ dvs)) (Value.ref (s.heap.objs.size + 1) :: (us ++ ds)) := .cons rfl (r.append hd)
  have hl : (Value.ref (s.heap.objs.size + 1) :: us ++ ds).length = ps.length := r2.length.symm.trans (F.len _ _ _ _ hq)
  refine wpAny_call (make_map (f := f) I.kIn M.makes M.init (beq_iff_eq.mp M.fn) (codeAny_mono (F.run _ X.stack _ _ ⟨Value.ref (s.heap.objs.size + 1) :: us, []⟩ (Value.ref (s.heap.objs.size + 1) :: (us ++ ds)) _ _ E (by first | exact hgd | simpa using hgd) (hr.make C us [])
    (I2.env0.make C us []) (hb _ (Value.ref (s.heap.objs.size + 1) :: us) I2.kIn hl) r2 hq) fun r s' hq' => ?_))
  match r, hq' with
  | .error e, hq' => exact hx pins _ _ e s' I2 hq'
  | .ok (.ret u), hq' =>
    obtain ⟨v, H', I3, rv, ev, q3⟩ := I2.after hq'
    subst ev
    exact ⟨rv, ⟨V.ref (s.heap.objs.size + 1), H', I3, rfl, q3⟩⟩
def tMakeE (C : Addr) (sp : Sp) (dvs : List V) (E : L2.St → XK) (t : TA) : TE := fun σ H Q => t σ H fun vs H1 => ∀ x dx, H1 x = none → H1 dx = none → dx ≠ x →
  sp (.ref x :: (vs ++ dvs)) (upd (upd H1 dx (.own x)) x (.ins C dx [])) (fun v H2 => v = .non ∧ Q (.ref x) H2) (E σ)
end
end Dl

set_option Elab.async false
set_option linter.all false
set_option maxRecDepth 100000
set_option maxHeartbeats 4000000
/-! D16: C(..), o.m(..) by data. -/
namespace Dl
open PySem PySem.Spec PyProof.Rows L2
/-- C(..), its __init__ keeping pf; the instance changes no more -/
def fMake (C : Addr) (pf : FNx) (dds : List D) (g : FA) : FE := fun Γ M k kx => g Γ M (fun ds M1 => ∀ p, M1 p = none → pf (.ref p :: (ds ++ dds)) (upM M1 p (.ins C [])) (fun v M2 => v = .non ∧ ∃ fs, M2 p = some (.ins C fs) ∧ k (.ins C fs) (delM M2 p)) kx) kx
/-- .. the instance may change -/
def fMakeM (C : Addr) (pf : FNx) (dds : List D) (g : FA) : FE := fun Γ M k kx => g Γ M (fun ds M1 => ∀ p, M1 p = none → pf (.ref p :: (ds ++ dds)) (upM M1 p (.ins C [])) (fun v M2 => v = .non ∧ k (.ref p) M2) kx) kx
section
variable {X : Cx} {CX : CXT} {k : Nat} {f C : Addr} {fd : FuncData} {ps : List Str} {sp : Sp} {pf : FNx} {dvs : List V} {dds : List D} {ds : List Value} {x m : Str} {p pos apos : Pos} {e o : Expr} {es : List Expr} {t : TA} {E : L2.St → XK} {g : FA}
theorem pe_makeE {W : WX} (tk : Takes X W) (M : Mk X.K C f) (F : FnG X.prog X.w X.K X.mg X.base (L2.CX X.prog X.w) k f fd ps sp) (hgd : X.A.guards = some []) (hr : Room (k + 1) X.A) (hg : Gl X x) (hm : X.mg x = some (.ref C)) (hb : Binds X.K fd ps ds) (hd : Vals dvs ds)
    (ha : PA X (e :: es) t) (hdb : (x == ("__debug__" : Str)) = false := by decide) (he : starEach (e :: es) X.env = (false, eval e X.env) :: starEach es X.env := by rfl) (hpl : (backTo pos (starEach es X.env)).any (·.1) = false := by rfl) :
    PE X (.Call (.Name x p) (e :: es) [] pos) (tMakeE C sp dvs (WE W) t) := by
  refine ⟨fun pins s σ H Q I h => ?_⟩
  refine wpAny_Call_Name_kw (ld_glob I hg hm ?_ hdb)
  refine PySem.W.callWith_K (h₀ := X.base) I.ok.mod.kin M.kp (thn (ha.run pos pins s σ H _ I h) fun us s1 ⟨vs, H1, I1, r, q⟩ => ⟨I1.kIn, ?_⟩) he hpl
  exact run_makeG M F hgd hr hb hd (passAt tk σ) I1 r q
theorem li_make {K : PySem.W.Frag} {σ : L2.St} {H : Hp} {Q : VK} (hdd : ∀ P H, IsVs K P H dvs dds) (h : liE K E (fMakeM C pf dds g) σ H Q) : tMakeE C (spX K pf) dvs E (liA K E g) σ H Q := by
  obtain ⟨F, Γ, M, k, kx, R, q, LX, L⟩ := h
  refine ⟨F, Γ, M, _, kx, R, q, LX, fun xs M1 vs H1 h1 g1 R1 i1 p dx hp hdx ne => ?_⟩
  have R2 : RepM K F (upd H1 dx (.own p)) M1 := R1.new hdx
  have g2 : Go H1 M1 (upd H1 dx (.own p)) M1 := Go.new (K := K) (F := F) hdx
  have hp2 : upd H1 dx (.own p) p = none := by rw [upd_ne (Ne.symm ne)]; exact hp
  have g3 : Go (upd H1 dx (.own p)) M1 (upd (upd H1 dx (.own p)) p (.ins C dx [])) (upM M1 p (.ins C [])) := Go.newM R2 hp2
  have R3 : RepM K F (upd (upd H1 dx (.own p)) p (.ins C dx [])) (upM M1 p (.ins C [])) := R2.newM hp2 ⟨dx, [], upd_same, .nil⟩
  have G := (g1.trans g2).trans g3
  refine ⟨F, .ref p :: (xs ++ dds), _, _, kx, R3, .cons (.ref p) (IsVs.kp (g2.trans g3).to_kp _ _ (i1.append (hdd _ _))), h1 p (R1.freshM hp), LX.go G, fun d M' v H' hk g' R' i => ?_⟩
  obtain ⟨rfl, hk⟩ := hk
  cases i
  exact ⟨rfl, L (.ref p) M' _ H' hk (G.trans g') R' (.ref p)⟩
theorem li_makeF {K : PySem.W.Frag} {σ : L2.St} {H : Hp} {Q : VK} (hdd : ∀ P H, IsVs K P H dvs dds) (h : liE K E (fMake C pf dds g) σ H Q) : tMakeE C (spX K pf) dvs E (liA K E g) σ H Q := by
  obtain ⟨F, Γ, M, k, kx, R, q, LX, L⟩ := h
  refine ⟨F, Γ, M, _, kx, R, q, LX, fun xs M1 vs H1 h1 g1 R1 i1 p dx hp hdx ne => ?_⟩
  have R2 : RepM K F (upd H1 dx (.own p)) M1 := R1.new hdx
  have g2 : Go H1 M1 (upd H1 dx (.own p)) M1 := Go.new (K := K) (F := F) hdx
  have hp2 : upd H1 dx (.own p) p = none := by rw [upd_ne (Ne.symm ne)]; exact hp
  have g3 : Go (upd H1 dx (.own p)) M1 (upd (upd H1 dx (.own p)) p (.ins C dx [])) (upM M1 p (.ins C [])) := Go.newM R2 hp2
  have R3 : RepM K F (upd (upd H1 dx (.own p)) p (.ins C dx [])) (upM M1 p (.ins C [])) := R2.newM hp2 ⟨dx, [], upd_same, .nil⟩
  have G := (g1.trans g2).trans g3
  refine ⟨F, .ref p :: (xs ++ dds), _, _, kx, R3, .cons (.ref p) (IsVs.kp (g2.trans g3).to_kp _ _ (i1.append (hdd _ _))), h1 p (R1.freshM hp), LX.go G, fun d M' v H' hk g' R' i => ?_⟩
  obtain ⟨rfl, fs, hp', hk⟩ := hk
  cases i
  exact ⟨rfl, L _ (delM M' p) _ H' hk ((G.trans g').trans Go.del) (R'.del p) (frozen R' hp' rfl)⟩
theorem de_make {W : WX} (tk : Takes X W) (Mc : Mk X.K C f) (F : FnG X.prog X.w X.K X.mg X.base (L2.CX X.prog X.w) k f fd ps (spX X.K pf)) (hgd : X.A.guards = some []) (hr : Room (k + 1) X.A) (hg : Gl X x) (hm : X.mg x = some (.ref C)) (hb : Binds X.K fd ps ds) (hd : Vals dvs ds) (hdd : ∀ P H, IsVs X.K P H dvs dds)
    (ha : DA X (WE W) (e :: es) g) (hdb : (x == ("__debug__" : Str)) = false := by decide) (he : starEach (e :: es) X.env = (false, eval e X.env) :: starEach es X.env := by rfl) (hpl : (backTo pos (starEach es X.env)).any (·.1) = false := by rfl) :
    DE X (WE W) (.Call (.Name x p) (e :: es) [] pos) (fMake C pf dds g) := pe_w (pe_makeE tk Mc F hgd hr hg hm hb hd ha hdb he hpl) fun _ _ _ => li_makeF hdd
theorem de_makeM {W : WX} (tk : Takes X W) (Mc : Mk X.K C f) (F : FnG X.prog X.w X.K X.mg X.base (L2.CX X.prog X.w) k f fd ps (spX X.K pf)) (hgd : X.A.guards = some []) (hr : Room (k + 1) X.A) (hg : Gl X x) (hm : X.mg x = some (.ref C)) (hb : Binds X.K fd ps ds) (hd : Vals dvs ds) (hdd : ∀ P H, IsVs X.K P H dvs dds)
    (ha : DA X (WE W) (e :: es) g) (hdb : (x == ("__debug__" : Str)) = false := by decide) (he : starEach (e :: es) X.env = (false, eval e X.env) :: starEach es X.env := by rfl) (hpl : (backTo pos (starEach es X.env)).any (·.1) = false := by rfl) :
    DE X (WE W) (.Call (.Name x p) (e :: es) [] pos) (fMakeM C pf dds g) := pe_w (pe_makeE tk Mc F hgd hr hg hm hb hd ha hdb he hpl) fun _ _ _ => li_make hdd

/-! ### methods -/
/-- o.m(..), o an instance of the class at C -/
def fMeth (C : Addr) (nm : Str) (pf : FNx) (dds : List D) (fo : FE) (g : FA) : FE := fun Γ M k kx => fo Γ M (fun x M1 => ∃ fs, vw M1 x = .ins C fs ∧ fs.lookup nm = none ∧ g Γ M1 (fun ds M2 => pf (x :: (ds ++ dds)) M2 k kx) kx) kx
def tMethE (C : Addr) (nm : Str) (sp : Sp) (dvs : List V) (E : L2.St → XK) (ta : TE) (t : TA) : TE := fun σ H Q => ta σ H fun x H1 => ∃ a dx fs, x = .ref a ∧ H1 a = some (.ins C dx fs) ∧ fs.lookup nm = none ∧ t σ H1 fun vs H2 => sp (x :: (vs ++ dvs)) H2 Q (E σ)
theorem pe_methE {pl : Sem Bool} {ta : TE} (he : PE X o ta) (c : Cls X.K C) (hm : Meth X.K C m f) (F : FnG X.prog X.w X.K X.mg X.base CX k f fd ps sp) (hgd : X.A.guards = some []) (hr : Room k X.A) (hb : Binds X.K fd ps ds) (hd : Vals dvs ds) (hx : ∀ σ, PassesAt CX X σ (E σ)) (ha : PA X (e :: es) t)
    (hst : starEach (e :: es) X.env = (false, eval e X.env) :: starEach es X.env := by rfl) (hpl : (backTo pos (starEach es X.env)).any (·.1) = false := by rfl)
    (ht : eval (.Call (.Attribute o m apos) (e :: es) [] pos) X.env = (do
      let ov ← eval o X.env
      standAt apos.atName
      let (f, first) ← holding [ov] (getMethod ov m pl)
      callWith pos f first (backTo pos (starEach (e :: es) X.env)) (backToKw pos (keywordEach [] X.env))) := by rfl) :
    PE X (.Call (.Attribute o m apos) (e :: es) [] pos) (tMethE C m sp dvs E ta t) := by
  refine ⟨fun pins s σ H Q I h => ?_⟩
  refine PySem.W.methodCall_KW (pl := pl) (thn (he.run pins s σ H _ I h) ?_) ht
  rintro u s1 ⟨x, H1, I1, rx, a, dx, fs, rfl, ea, l, q⟩
  obtain rfl : u = Value.ref a := rx
  refine getmeth_ok I1 ea c hm l (PySem.W.callWith_K (first := [.ref a]) (h₀ := X.base) I.ok.mod.kin hm.kp (thn (ha.run pos pins s1 σ H1 _ I1 q) ?_) hst hpl)
  rintro us s2 ⟨vs, H2, I2, r, q2⟩
  exact ⟨I2.kIn, run_fnGS (us := .ref a :: us) (vs := .ref a :: vs) F hgd hr hb hd (hx σ) I2 (.cons rfl r) q2⟩
theorem pe_methE0 {pl : Sem Bool} {ta : TE} (he : PE X o ta) (c : Cls X.K C) (hm : Meth X.K C m f) (F : FnG X.prog X.w X.K X.mg X.base CX k f fd ps sp) (hgd : X.A.guards = some []) (hr : Room k X.A) (hb : Binds X.K fd ps ds) (hd : Vals dvs ds) (hx : ∀ σ, PassesAt CX X σ (E σ))
    (ht : eval (.Call (.Attribute o m apos) [] [] pos) X.env = (do
      let ov ← eval o X.env
      standAt apos.atName
      let (f, first) ← holding [ov] (getMethod ov m pl)
      callWith pos f first (backTo pos (starEach [] X.env)) (backToKw pos (keywordEach [] X.env))) := by rfl) :
    PE X (.Call (.Attribute o m apos) [] [] pos) (tMethE C m sp dvs E ta tNil) := by
  refine ⟨fun pins s σ H Q I h => ?_⟩
  refine PySem.W.methodCall_KW (pl := pl) (thn (he.run pins s σ H _ I h) ?_) ht
  rintro u s1 ⟨x, H1, I1, rx, a, dx, fs, rfl, ea, l, q⟩
  obtain rfl : u = Value.ref a := rx
  refine getmeth_ok I1 ea c hm l ?_
  exact PySem.W.callWith_K0 (first := [.ref a]) I1.kIn hm.kp (run_fnGS (us := [.ref a]) (vs := [.ref a]) F hgd hr hb hd (hx σ) I1 (.cons rfl .nil) q)
theorem li_meth {K : PySem.W.Frag} {σ : L2.St} {H : Hp} {Q : VK} {fo : FE} (hdd : ∀ P H, IsVs K P H dvs dds) (h : liE K E (fMeth C m pf dds fo g) σ H Q) : tMethE C m (spX K pf) dvs E (liE K E fo) (liA K E g) σ H Q := by
  obtain ⟨F, Γ, M, k, kx, R, q, LX, L⟩ := h
  refine ⟨F, Γ, M, _, kx, R, q, LX, fun x M1 v H1 hx g1 R1 i1 => ?_⟩
  obtain ⟨fs, ex, hl, hx⟩ := hx
  have i2 := i1.rd R1
  rw [ex] at i2
  cases i2 with
  | ins h1 h2 =>
    refine ⟨_, _, _, rfl, h1, h2.none hl, F, Γ, M1, _, kx, R.go g1 R1, hx, LX.go g1, fun xs M2 vs H2 h3 g2 R2 i3 => ?_⟩
    exact ⟨F, x :: (xs ++ dds), M2, k, kx, R2, .cons (IsV.kp g2.to_kp _ _ i1) (i3.append (hdd _ _)), h3, LX.go (g1.trans g2), L.go (g1.trans g2)⟩
theorem de_meth {W : WX} {pl : Sem Bool} {fo : FE} (tk : Takes X W) (he : DE X (WE W) o fo) (c : Cls X.K C) (hm : Meth X.K C m f) (F : FnG X.prog X.w X.K X.mg X.base (L2.CX X.prog X.w) k f fd ps (spX X.K pf)) (hgd : X.A.guards = some []) (hr : Room k X.A) (hb : Binds X.K fd ps ds) (hd : Vals dvs ds) (hdd : ∀ P H, IsVs X.K P H dvs dds) (ha : DA X (WE W) (e :: es) g)
    (hst : starEach (e :: es) X.env = (false, eval e X.env) :: starEach es X.env := by rfl) (hpl : (backTo pos (starEach es X.env)).any (·.1) = false := by rfl)
    (ht : eval (.Call (.Attribute o m apos) (e :: es) [] pos) X.env = (do
      let ov ← eval o X.env
      standAt apos.atName
      let (f, first) ← holding [ov] (getMethod ov m pl)
      callWith pos f first (backTo pos (starEach (e :: es) X.env)) (backToKw pos (keywordEach [] X.env))) := by rfl) :
    DE X (WE W) (.Call (.Attribute o m apos) (e :: es) [] pos) (fMeth C m pf dds fo g) := pe_w (pe_methE he c hm F hgd hr hb hd (passAt tk) ha hst hpl ht) fun _ _ _ => li_meth hdd
theorem de_meth0 {W : WX} {pl : Sem Bool} {fo : FE} (tk : Takes X W) (he : DE X (WE W) o fo) (c : Cls X.K C) (hm : Meth X.K C m f) (F : FnG X.prog X.w X.K X.mg X.base (L2.CX X.prog X.w) k f fd ps (spX X.K pf)) (hgd : X.A.guards = some []) (hr : Room k X.A) (hb : Binds X.K fd ps ds) (hd : Vals dvs ds) (hdd : ∀ P H, IsVs X.K P H dvs dds)
    (ht : eval (.Call (.Attribute o m apos) [] [] pos) X.env = (do
      let ov ← eval o X.env
      standAt apos.atName
      let (f, first) ← holding [ov] (getMethod ov m pl)
      callWith pos f first (backTo pos (starEach [] X.env)) (backToKw pos (keywordEach [] X.env))) := by rfl) :
    DE X (WE W) (.Call (.Attribute o m apos) [] [] pos) (fMeth C m pf dds fo fNil) := pe_w (pe_methE0 he c hm F hgd hr hb hd (passAt tk) ht) fun σ H Q h => by
  obtain ⟨F', Γ, M, k, kx, R, q, LX, L⟩ := h
  refine ⟨F', Γ, M, _, kx, R, q, LX, fun x M1 v H1 hx g1 R1 i1 => ?_⟩
  obtain ⟨fs, ex, hl, hx⟩ := hx
  have i2 := i1.rd R1
  rw [ex] at i2
  cases i2 with
  | ins h1 h2 => exact ⟨_, _, _, rfl, h1, h2.none hl, F', x :: ([] ++ dds), M1, k, kx, R1, .cons i1 (hdd _ _), hx, LX.go g1, L.go g1⟩
end
end Dl

set_option Elab.async false
set_option linter.all false
set_option maxRecDepth 100000
set_option maxHeartbeats 4000000
/-! D17: what was caught: its fields; own exceptions raised. -/
namespace Dl
open PySem PySem.Spec PyProof.Rows L2

/-- e.f of a caught exception -/
def fXf (K : PySem.W.Frag) (nm : Str) (f : FE) : FE := fun Γ M k kx => f Γ M (fun x M1 => ∃ C fs d, vw M1 x = .exv C fs ∧ XfC K C ∧ PySem.W.findIn K (.ref C) nm = some none ∧ fs.lookup nm = some d ∧ k d M1) kx
theorem de_xf {X : Cx} {nm : Str} {pos : Pos} {E : L2.St → XK} {e : Expr} {f : FE} (he : DE X E e f) (hb : attributeBase e nm X.env (eval e X.env) = eval e X.env := by rfl) : DE X E (.Attribute e nm pos) (fXf X.K nm f) := by
  refine ⟨fun pins s σ H Q I h => ?_⟩
  obtain ⟨F, Γ, M, k, kx, R, q, LX, L⟩ := h
  refine attr_of hb (thn (he.run pins s σ H _ I ⟨F, Γ, M, _, kx, R, q, LX, fun x M1 v H1 hx g1 R1 i1 => (show ∃ x M1, IsV X.K (dm F M1) H1 v x ∧ RepM X.K F H1 M1 ∧ Go H M H1 M1 ∧ ∃ C fs d, vw M1 x = .exv C fs ∧ XfC X.K C ∧ PySem.W.findIn X.K (.ref C) nm = some none ∧ fs.lookup nm = some d ∧ k d M1 from ⟨x, M1, i1, R1, g1, hx⟩)⟩) ?_)
  rintro u s1 ⟨v, H1, I1, rv, x, M1, i1, R1, g1, C, fs, d, ex, T, hno, hl, hk⟩
  have i2 := i1.rd R1
  rw [ex] at i2
  cases i2 with
  | exv0 h1 => cases hl
  | exv h1 h2 h3 =>
    obtain rfl := rv
    obtain ⟨w, e1, iw⟩ := h3.lookup hl
    obtain ⟨⟨oe, vs, ha, hc, hdi, hd⟩, _, _⟩ := I1.hok _ _ h1
    have hx : ObjOk X.prog X.w H1 s1.heap _ (.xd _) := I1.hok _ _ h2
    obtain ⟨mA, hns, hr⟩ := hx
    obtain ⟨od, ho, hlk⟩ := lookIn_ns hns
    obtain ⟨u, hu, ru⟩ := RelO.some_of (v := w) (o := mA nm) (by rw [← e1]; exact hr nm)
    have J : PySem.W.InstAt s1.heap _ oe C (some od) := ⟨ha, hc, by unfold PySem.W.notCls; rw [hd] <;> rfl, by rw [hdi]; exact ho⟩
    exact HandSPX.exc_get I1.kIn J T.ga T.gg T.exC (PySem.W.findObj_own T.hdC hno rfl (by rw [hlk, hu])) (handed_of ru) ⟨w, H1, I1.tok _, ru, L d M1 w H1 hk g1 R1 iw⟩
end Dl

set_option Elab.async false
set_option linter.all false
set_option maxRecDepth 100000
set_option maxHeartbeats 4000000
/-! D18: isinstance by a kind's word on K: built-in kinds, own classes, what was caught. -/
namespace Dl
open PySem PySem.Spec PyProof.Rows L2
def tyV : D → Option Value
  | .ins C _ => some (.ref C)
  | .exv C _ => some (.ref C)
  | d => (typeD d).map .type
def clV : D → Option Value
  | .ty n => some (.type n)
  | .ref C => some (.ref C)
  | _ => none
/-- what the class at C says, that its instances may be asked -/
structure InsC (K : PySem.W.Frag) (C : Addr) : Prop where
  cl : Cls K C
  ha : PySem.W.findIn K (.ref C) "__class__" = some (some (.builtin "object.__class__"))
  hn : PySem.W.specialIn K (.builtin "object.__class__") "__get__" = some (some (.builtin "getset_descriptor.__get__"))
  ht : PySem.W.takesIn K (.builtin "object.__class__") = some true
  hm : PySem.W.mroIn K C (.type "object") = some true
def okTy (K : PySem.W.Frag) : D → Prop
  | .ins C _ => InsC K C
  | .exv C _ => ExcC K C
  | _ => True
def gIsiO (K : PySem.W.Frag) : FN := fun ds M k => ∃ d c t u b, ds = [d, c] ∧ tyV d = some t ∧ clV c = some u ∧ okTy K d ∧ PySem.W.kitOne K t u = some b ∧ k (.bl b) M
def rIsiO (K : PySem.W.Frag) : List V → Hp → VK → Prop := fun vs H Q => ∃ F M v w d c t u b, vs = [v, w] ∧ IsR K F M H v d ∧ IsR K F M H w c ∧ tyV d = some t ∧ clV c = some u ∧ okTy K d ∧ PySem.W.kitOne K t u = some b ∧ Q (.bl b) H
theorem cr_isiO {X : Cx} : CallR X (.builtin "isinstance") (rIsiO X.K) := by
  intro pins s σ H vs us Q I r h
  obtain ⟨F, M, v, w, d, c, t, u, b, rfl, hv, hw, ht, hu, hok, hb, q⟩ := h
  obtain ⟨u1, u2, rfl, r1, r2⟩ := vals2 r
  have e2 : u2 = u := by
    cases hw with
    | ty n => cases hu; exact r2
    | ref C => cases hu; exact r2
    | _ => cases hu
  subst e2
  have viaTy : ∀ t', TyX X.K H v t' → t' = t → wpAny (model X.prog X.w) X.A (call (.builtin "isinstance") [u1, u2]) (EP X pins σ Q) X.xe s := fun t' ty e => by
    subst e
    obtain ⟨P, Z, p, hx⟩ := kit_of I r1 ty
    exact PySem.W.kia_one Z I.kIn p hb hx fun tk => ⟨.bl b, H, I.tok tk, rfl, q⟩
  have viaX : ∀ {a C : Addr} {od : Option Obj} {oe : Obj} {fs : List (Str × D)}, v = .ref a → d = .exv C fs → PySem.W.InstAt s.heap a oe C od → wpAny (model X.prog X.w) X.A (call (.builtin "isinstance") [u1, u2]) (EP X pins σ Q) X.xe s := fun {a C od oe fs} ev ed J => by
    subst ev
    subst ed
    cases ht
    obtain rfl : u1 = Value.ref a := r1
    have T : ExcC X.K C := hok
    have hcl : (PySem.W.clsIn X.K C).isSome = true := by
      obtain ⟨cd, hc, _⟩ := PySem.W.any_some T.hd
      rw [hc]
      rfl
    exact PySem.W.kia_one (PySem.W.kitx_exc (ox := oe) (od := od) hcl T.hg T.hk T.hs T.ha T.hn T.ht T.hm) I.kIn J hb (fun z => nomatch z) fun tk => ⟨.bl b, H, I.tok tk, rfl, q⟩
  cases hv with
  | exv0 h1 =>
    obtain ⟨⟨oe, vs, ha, hc, hdi, hd⟩, _, _⟩ := I.hok _ _ h1
    exact viaX (od := none) rfl rfl ⟨ha, hc, by unfold PySem.W.notCls; rw [hd] <;> rfl, by rw [hdi]; trivial⟩
  | exv h1 h2 _ =>
    obtain ⟨⟨oe, vs, ha, hc, hdi, hd⟩, _, _⟩ := I.hok _ _ h1
    have hx : ObjOk X.prog X.w H s.heap _ (.xd _) := I.hok _ _ h2
    obtain ⟨mA, hns, hr⟩ := hx
    obtain ⟨od, ho, hlk⟩ := lookIn_ns hns
    exact viaX (od := some od) rfl rfl ⟨ha, hc, by unfold PySem.W.notCls; rw [hd] <;> rfl, by rw [hdi]; exact ho⟩
  | ins h1 h2 => cases ht; exact viaTy _ (.base (.ins h1 hok.cl hok.ha hok.hn hok.ht hok.hm)) rfl
  | ty n => cases ht
  | ref a => cases ht
  | non => cases ht; exact viaTy _ (.base .non) rfl
  | bl b => cases ht; exact viaTy _ (.base (.bl b)) rfl
  | int i => cases ht; exact viaTy _ (.base (.int i)) rfl
  | str x => cases ht; exact viaTy _ (.base (.str x)) rfl
  | lst h1 h2 => cases ht; exact viaTy _ (tyX_of (d := .lst _) (.lst h1 h2) rfl) rfl
  | scr h1 => cases ht; exact viaTy _ (tyX_of (d := .scr _) (.scr h1) rfl) rfl
  | tup h1 h2 => cases ht; exact viaTy _ (tyX_of (d := .tup _) (.tup h1 h2) rfl) rfl
  | dct h1 h2 => cases ht; exact viaTy _ (tyX_of (d := .dct _) (.dct h1 h2) rfl) rfl
theorem cd_isiO {K : PySem.W.Frag} : CallD K (rIsiO K) (wCB (gIsiO K)) := cd_w fun F H M vs ds k Q R hv hg L => by
  obtain ⟨d, c, t, u, b, rfl, h1, h2, h3, h4, h5⟩ := hg
  cases hv with
  | cons v1 v2 =>
    cases v2 with
    | cons v2 v3 =>
      cases v3
      exact ⟨F, M, _, _, d, c, t, u, b, rfl, v1, v2, h1, h2, h3, h4, L.now R h5 (.bl b)⟩
section
variable {X : Cx} {E : L2.St → XK} {p pos : Pos} {e e2 : Expr} {g : FA}
/-- isinstance(e, C) -/
theorem c_isiO (hg : Gl X "isinstance") (hm : X.mg "isinstance" = none) (ha : DA X E [e, e2] g) (he : starEach [e, e2] X.env = (false, eval e X.env) :: starEach [e2] X.env := by rfl) (hpl : (backTo pos (starEach [e2] X.env)).any (·.1) = false := by rfl) : DE X E (.Call (.Name "isinstance" p) [e, e2] [] pos) (fCB (wCB (gIsiO X.K)) g) := de_callB cr_isiO cd_isiO hg hm (by decide +kernel) ha (by decide) (by decide) he hpl
/-- the name of a class -/
theorem de_cls {x : Str} {C : Addr} (hg : Gl X x) (hm : X.mg x = some (.ref C)) (hd : (x == ("__debug__" : Str)) = false := by decide) : DE X E (.Name x pos) (fC (.ref C)) := de_const (pe_glob (v := .ref C) hg hm rfl hd) fun _ _ _ => .ref _
end
end Dl

set_option Elab.async false
set_option linter.all false
set_option maxRecDepth 100000
set_option maxHeartbeats 4000000
/-! D19: raise C(..), C's own __init__ sets one or two fields. -/
namespace Dl
open PySem PySem.Spec PyProof.Rows L2
/-- what __init__(self, f) does: self.f = f -/
def spI1 (C : Addr) (f : Str) : Sp := fun vs H Q _ => ∃ a y, vs = [.ref a, y] ∧ H a = some (exo a C none) ∧ ∀ dx, H dx = none → dx ≠ a → Q .non (upd (upd H dx (exd dx [(f, y)])) a (exo a C (some dx)))
/-- .. of two fields -/
def spI2 (C : Addr) (f f' : Str) : Sp := fun vs H Q _ => ∃ a y z, vs = [.ref a, y, z] ∧ H a = some (exo a C none) ∧ ∀ dx, H dx = none → dx ≠ a → Q .non (upd (upd (upd H dx (exd dx [(f, y)])) a (exo a C (some dx))) dx (exd dx [(f', z), (f, y)]))
section
variable {K : PySem.W.Frag} {C : Addr} {f f' : Str} {vs : List V} {H : Hp} {Q : VK} {E : XK}
theorem pure_I1 (T : OexC K C) (hno : PySem.W.findIn K (.ref C) f = some none) (h : spI1 C f vs H Q E) : tOst K f (tVar 0) (tVar 1) { nx := fun _ H' => Q .non H', rt := Q } (L2.start ["self", f] vs) H := by
  obtain ⟨a, y, rfl, ha, h⟩ := h
  exact ⟨_, rfl, _, rfl, a, C, rfl, T, hno, .inl ⟨ha, fun dx n ne => h dx n ne⟩⟩
theorem pure_I2 (T : OexC K C) (hno : PySem.W.findIn K (.ref C) f = some none) (hno' : PySem.W.findIn K (.ref C) f' = some none) (h : spI2 C f f' vs H Q E) :
    tSeq (tOst K f (tVar 0) (tVar 1)) (tOst K f' (tVar 0) (tVar 2)) { nx := fun _ H' => Q .non H', rt := Q } (L2.start ["self", f, f'] vs) H := by
  obtain ⟨a, y, z, rfl, ha, h⟩ := h
  refine ⟨_, rfl, _, rfl, a, C, rfl, T, hno, .inl ⟨ha, fun dx n ne => ?_⟩⟩
  exact ⟨_, rfl, _, rfl, a, C, rfl, T, hno', .inr ⟨dx, [(f, y)], upd_same, by rw [upd_ne ne, upd_same], by show 1 ≤ 900; decide, h dx n ne⟩⟩
end
def fMk1 (C : Addr) (f : Str) (g : FA) : FR := fun Γ M k kx => g Γ M (fun ds M1 => ∃ y, ds = [y] ∧ k C [(f, y)] M1) kx
def fMk2 (C : Addr) (f f' : Str) (g : FA) : FR := fun Γ M k kx => g Γ M (fun ds M1 => ∃ y z, ds = [y, z] ∧ k C [(f', z), (f, y)] M1) kx
/-- the heap behind a raise: the dict alone is left -/
theorem raise_heap {H1 : Hp} {a d : Addr} {o o' o'' : HO} (ha : H1 a = none) (ne : d ≠ a) : upd (del (upd (upd (upd H1 a o) d o') a o'') a) d (.xd []) = upd H1 d (.xd []) ∧ ∀ u, upd (del (upd (upd (upd H1 a o) d o') a o'') a) d u = upd H1 d u := by
  have main : ∀ u, upd (del (upd (upd (upd H1 a o) d o') a o'') a) d u = upd H1 d u := fun u => by
    funext b
    by_cases hb : b = d
    · rw [hb, upd_same, upd_same]
    · rw [upd_ne hb, upd_ne hb]
      by_cases hba : b = a
      · rw [hba, del_same, ha]
      · rw [del_ne hba, upd_ne hba, upd_ne hb, upd_ne hba]
  exact ⟨main _, main⟩
theorem raise_heap2 {H1 : Hp} {a d : Addr} {o o' o'' o3 : HO} (ha : H1 a = none) (ne : d ≠ a) (u : HO) : upd (del (upd (upd (upd (upd H1 a o) d o') a o'') d o3) a) d u = upd H1 d u := by
  funext b
  by_cases hb : b = d
  · rw [hb, upd_same, upd_same]
  · rw [upd_ne hb, upd_ne hb]
    by_cases hba : b = a
    · rw [hba, del_same, ha]
    · rw [del_ne hba, upd_ne hb, upd_ne hba, upd_ne hb, upd_ne hba]
section
variable {K : PySem.W.Frag} {C : Addr} {f f' : Str} {E : L2.St → XK} {g : FA} {σ : L2.St} {H : Hp} {Q : XK}
theorem li_mk1 (h : liR K E (fMk1 C f g) σ H Q) : tMkO C (spI1 C f) [] (liA K E g) σ H Q := by
  obtain ⟨F, Γ, M, k, kx, R, q, LX, L⟩ := h
  refine ⟨F, Γ, M, _, kx, R, q, LX, fun ds M1 vs H1 hx g1 R1 i1 => ?_⟩
  obtain ⟨y, rfl, hk⟩ := hx
  cases i1 with
  | @cons yv _ _ _ iv i1 =>
    cases i1
    refine ⟨by show 1 ≤ 1000; decide, fun a ha => ⟨a, _, rfl, upd_same, fun dx hdx ne => ⟨rfl, dx, _, upd_same, by rw [upd_ne ne, upd_same], by rw [upd_ne ne] at hdx; exact hdx, ?_⟩⟩⟩
    rw [upd_ne ne] at hdx
    rw [(raise_heap ha ne).2]
    have g2 : Go H1 M1 (upd H1 dx (.xd [(f, yv)])) M1 := Go.new (K := K) (F := F) hdx
    exact L C _ M1 (some dx) _ hk (g1.trans g2) (R1.new hdx) (.inr ⟨dx, _, rfl, R1.fresh hdx, upd_same, .cons (IsV.kp g2.to_kp _ _ iv) .nil⟩)
theorem li_mk2 (h : liR K E (fMk2 C f f' g) σ H Q) : tMkO C (spI2 C f f') [] (liA K E g) σ H Q := by
  obtain ⟨F, Γ, M, k, kx, R, q, LX, L⟩ := h
  refine ⟨F, Γ, M, _, kx, R, q, LX, fun ds M1 vs H1 hx g1 R1 i1 => ?_⟩
  obtain ⟨y, z, rfl, hk⟩ := hx
  cases i1 with
  | @cons yv _ _ _ iv i1 =>
    cases i1 with
    | @cons zv _ _ _ iw i1 =>
      cases i1
      refine ⟨by show 2 ≤ 1000; decide, fun a ha => ⟨a, _, _, rfl, upd_same, fun dx hdx ne => ⟨rfl, dx, _, by rw [upd_ne (Ne.symm ne), upd_same], upd_same, by rw [upd_ne ne] at hdx; exact hdx, ?_⟩⟩⟩
      rw [upd_ne ne] at hdx
      rw [raise_heap2 ha ne]
      have g2 : Go H1 M1 (upd H1 dx (.xd [(f', zv), (f, yv)])) M1 := Go.new (K := K) (F := F) hdx
      exact L C _ M1 (some dx) _ hk (g1.trans g2) (R1.new hdx) (.inr ⟨dx, _, rfl, R1.fresh hdx, upd_same, .cons (IsV.kp g2.to_kp _ _ iw) (.cons (IsV.kp g2.to_kp _ _ iv) .nil)⟩)
end
section
variable {X : Cx} {E : XK} {x f f' : Str} {C fI : Addr} {k : Nat} {fd : FuncData} {ps : List Str} {e : Expr} {es : List Expr} {g : FA} {p pos pos2 : Pos}
/-- raise C(e) -/
theorem ds_raise1 (hc : X.calm = true) (tk : Takes X (fun cls d _ H => E cls d H)) (T : OexC X.K C) (iC : PySem.W.findIn X.K (.ref C) "__init__" = some (some (.ref fI))) (tI : PySem.W.typeIn X.K (.ref fI) = some (.type "function"))
    (F1 : FnOk X.prog X.w X.K X.mg X.base CX0 k fI fd ps (spI1 C f)) (hr : Room (k + 1) X.A) (hb : Binds X.K fd ps []) (hg : Gl X x) (hm : X.mg x = some (.ref C)) (ha : DA X (fun _ => E) (e :: es) g)
    (hdb : (x == ("__debug__" : Str)) = false := by decide) (he : starEach (e :: es) X.env = (false, eval e X.env) :: starEach es X.env := by rfl) (hpl : (backTo pos (starEach es X.env)).any (·.1) = false := by rfl) :
    DS X E (.Raise (some (.Call (.Name x p) (e :: es) [] pos)) none pos2) (fRaise (fMk1 C f g)) :=
  ds_raise hc tk fun pins s σ H Q I h => pmk_oex T iC tI F1 hr hb .nil pass0 hg hm ha hdb he hpl pins s σ H Q I (li_mk1 h)
theorem ds_raise2 (hc : X.calm = true) (tk : Takes X (fun cls d _ H => E cls d H)) (T : OexC X.K C) (iC : PySem.W.findIn X.K (.ref C) "__init__" = some (some (.ref fI))) (tI : PySem.W.typeIn X.K (.ref fI) = some (.type "function"))
    (F1 : FnOk X.prog X.w X.K X.mg X.base CX0 k fI fd ps (spI2 C f f')) (hr : Room (k + 1) X.A) (hb : Binds X.K fd ps []) (hg : Gl X x) (hm : X.mg x = some (.ref C)) (ha : DA X (fun _ => E) (e :: es) g)
    (hdb : (x == ("__debug__" : Str)) = false := by decide) (he : starEach (e :: es) X.env = (false, eval e X.env) :: starEach es X.env := by rfl) (hpl : (backTo pos (starEach es X.env)).any (·.1) = false := by rfl) :
    DS X E (.Raise (some (.Call (.Name x p) (e :: es) [] pos)) none pos2) (fRaise (fMk2 C f f' g)) :=
  ds_raise hc tk fun pins s σ H Q I h => pmk_oex T iC tI F1 hr hb .nil pass0 hg hm ha hdb he hpl pins s σ H Q I (li_mk2 h)
end
end Dl

set_option Elab.async false
set_option linter.all false
set_option maxRecDepth 100000
set_option maxHeartbeats 4000000
/-! D20: what the head leaves, told by any Bool word on the written part; what is asked of classes. -/
namespace Dl
open PySem PySem.Spec PyProof.Rows L2 He
/-- the written part: what the globals reach in n steps, and the table of modules -/
def asB (g : Addr → Option Obj) (n : Nat) : List Addr := asD g n ++ [sysModules]
/-- a def of the text and where it stands in the written part -/
structure DefB where
  adr : PySem.W.Frag → Addr
  d : DefD
/-- a global's, a class's method, a property's getter -/
def glB (d : DefD) : DefB := ⟨fun K => fAd K d.at_, d⟩
def propAd (K : PySem.W.Frag) (C : Addr) (f : Str) : Addr := match PySem.W.recIn K (ma K C f) "property" with
  | some (.ref g :: _) => g
  | _ => 0
def prB (cls f : Str) (d : DefD) : DefB := ⟨fun K => propAd K (ga K cls) f, d⟩
def fnA (K : PySem.W.Frag) (a : Addr) : FnW := match K.lookup a with
  | some ⟨_, _, .func fd, _⟩ => some (fd.name, fd.qualname, fd.params, fd.body, fd.scope, fd.globals, fd.closure, fd.builtins)
  | _ => none
def DefB.ok (K : PySem.W.Frag) (b : DefB) : Bool := PySem.W.keepIn K (.ref (b.adr K)) && (match K.lookup (b.adr K) with
  | some ⟨_, _, .func fd, _⟩ => PySem.W.codeIn K fd.code b.d.qual && (dflB K fd.defaults (b.d.dvs K) && kwdB K fd.kwdefaults (b.d.kws K))
  | _ => false)
theorem DefB.funD {K : PySem.W.Frag} {b : DefB} (e : fnA K (b.adr K) = b.d.val) (c : b.ok K = true) : ∃ fd, FunD K b.d.name b.d.qual b.d.params b.d.body b.d.scope (b.d.dvs K) (b.d.kws K) (b.adr K) fd := by
  obtain ⟨adr, d⟩ := b
  obtain ⟨kp, c2⟩ := Bool.and_eq_true_iff.mp c
  unfold fnA at e
  cases q : K.lookup (adr K) with
  | none =>
    rw [q] at c2
    cases c2
  | some o =>
    obtain ⟨oc, od, dt, osl⟩ := o
    rw [q] at c2 e
    cases dt with
    | func fd =>
      obtain ⟨n1, n2, n3, n4, n5, n6, n7, n8, n9, n10, n11, n12, n13, n14, n15⟩ := fd
      have e2 : (some (n1, n2, n3, n4, n5, n6, n7, n15) : FnW) = some (d.name, d.qual, d.params, .stmts d.body, d.scope, mainGlobals, [], builtinsNs) := e
      simp only [Option.some.injEq, Prod.mk.injEq] at e2
      obtain ⟨h1, h2, h3, h4, h5, h6, h7, h8⟩ := e2
      subst h1 h2 h3 h4 h5 h6 h7 h8
      obtain ⟨k1, k2⟩ := Bool.and_eq_true_iff.mp (show (PySem.W.codeIn K n13 d.qual && (dflB K n8 (d.dvs K) && kwdB K n9 (d.kws K))) = true from c2)
      obtain ⟨k3, k4⟩ := Bool.and_eq_true_iff.mp k2
      exact ⟨_, ⟨oc, od, n8, n9, n10, n11, n12, n13, n14, osl, rfl, q, k1, dflB_ok k3, kwdB_ok k4⟩, kp⟩
    | _ => cases c2
def obsB (ex : PySem.W.Frag → Bool) (fn : List DefB) (K : PySem.W.Frag) : AlD := (ex K && fn.all fun d => d.ok K, fn.map fun d => fnA K (d.adr K))
def valB (fn : List DefB) : AlD := (true, fn.map fun b => b.d.val)
def SaysB (ex : PySem.W.Frag → Bool) (fn : List DefB) (K : PySem.W.Frag) : Prop := obsB ex fn K = valB fn
def obsBG (n : Nat) (ex : PySem.W.Frag → Bool) (fn : List DefB) (g : Addr → Option Obj) : AlD := obsB ex fn (frG g (asB g n))
def hookB (n : Nat) (ex : PySem.W.Frag → Bool) (fn : List DefB) : PySem.W.Hook where
  α := AlD
  obs := fun s => obsBG n ex fn s.heap.get?
  val := fun _ => valB fn
  says := fun _ h => ∃ K : PySem.W.Frag, K.In h ∧ SaysB ex fn K
  of := fun _ _ e => ⟨_, frG_in, e⟩
  keeps := fun _ _ _ ⟨K, hK, c⟩ k => ⟨K, PySem.W.Frag.In.keeps hK k, c⟩
theorem obsBG_eq {n : Nat} {ex : PySem.W.Frag → Bool} {fn : List DefB} {g : Addr → Option Obj} {s : Shared} (h : ∀ a, g a = s.heap.get? a) : obsBG n ex fn g = (hookB n ex fn).obs s := by
  have e : g = s.heap.get? := funext h
  rw [e] <;> rfl
section
variable {wd : PySem.W.Frag → Bool} {fn : List DefB} {K : PySem.W.Frag}
theorem SaysB.word (c : SaysB wd fn K) : wd K = true := (Bool.and_eq_true_iff.mp (show (wd K && fn.all fun d => d.ok K) = true from congrArg (fun z : AlD => z.1) c)).1
theorem SaysB.def_ (c : SaysB wd fn K) (i : Nat) {b : DefB} (h : fn[i]? = some b := by rfl) : ∃ fd, FunD K b.d.name b.d.qual b.d.params b.d.body b.d.scope (b.d.dvs K) (b.d.kws K) (b.adr K) fd := by
  have c2 := (Bool.and_eq_true_iff.mp (show (wd K && fn.all fun d => d.ok K) = true from congrArg (fun z : AlD => z.1) c)).2
  have e : fn.map (fun d => fnA K (d.adr K)) = fn.map fun b => b.d.val := congrArg (fun z : AlD => z.2) c
  have e2 : (fn.map fun d => fnA K (d.adr K))[i]? = (fn.map fun b => b.d.val)[i]? := by rw [e]
  rw [List.getElem?_map, List.getElem?_map, h] at e2
  exact DefB.funD (Option.some.inj e2) (List.all_eq_true.mp c2 b (List.mem_of_getElem? h))
end
/-! ### Bool words -/
def excB (K : PySem.W.Frag) (C : Addr) : Bool := decide (PySem.W.findIn K (.ref C) "__getattribute__" = some (some (.builtin "BaseException.__getattribute__"))) && (decide (PySem.W.findIn K (.ref C) "__getattr__" = some none) && (decide (PySem.W.subIn K (.ref C) (.type "BaseException") = some true) &&
  (PySem.W.hasDictIn K C && (decide (PySem.W.findIn K (.ref C) "__class__" = some (some (.builtin "object.__class__"))) && (decide (PySem.W.specialIn K (.builtin "object.__class__") "__get__" = some (some (.builtin "getset_descriptor.__get__"))) &&
  (decide (PySem.W.takesIn K (.builtin "object.__class__") = some true) && decide (PySem.W.mroIn K C (.type "object") = some true)))))))
theorem excB_ok {K : PySem.W.Frag} {C : Addr} (h : excB K C = true) : ExcC K C ∧ XfC K C := by
  unfold excB at h
  simp only [Bool.and_eq_true, decide_eq_true_eq] at h
  obtain ⟨h1, h2, h3, h4, h5, h6, h7, h8⟩ := h
  exact ⟨⟨h1, h2, h3, h4, h5, h6, h7, h8⟩, ⟨h1, h2, h3, h4⟩⟩
def insB (K : PySem.W.Frag) (C : Addr) : Bool := PySem.W.plainGet K C Str.empty && (PySem.W.hasDictIn K C && (PySem.W.plainOver K C && (decide (PySem.W.findIn K (.ref C) "__setattr__" = some (some (.builtin "object.__setattr__"))) &&
  (decide (PySem.W.findIn K (.ref C) "__class__" = some (some (.builtin "object.__class__"))) && (decide (PySem.W.specialIn K (.builtin "object.__class__") "__get__" = some (some (.builtin "getset_descriptor.__get__"))) &&
  (decide (PySem.W.takesIn K (.builtin "object.__class__") = some true) && decide (PySem.W.mroIn K C (.type "object") = some true)))))))
theorem insB_ok {K : PySem.W.Frag} {C : Addr} (h : insB K C = true) : InsC K C := by
  unfold insB at h
  simp only [Bool.and_eq_true, decide_eq_true_eq] at h
  obtain ⟨h1, h2, h3, h4, h5, h6, h7, h8⟩ := h
  exact ⟨⟨h1, h2, h3, h4⟩, h5, h6, h7, h8⟩
/-- an own exception class below ValueError, with a dict: what is asked where it is raised -/
def oexB (K : PySem.W.Frag) (C : Addr) : Bool := (match K.lookup C with
    | some ⟨.type "type", _, .cls cd, ⟨[_, _, _, _, some (.builtin n), _]⟩⟩ => (match cd.mro with
      | .ref C' :: bm => decide (C' = C) && (decide (n = "ValueError.__new__") && (!cd.hasDel && (cd.hasDict && PySem.HandSPX.refsVE bm)))
      | _ => false)
    | _ => false) && (decide (PySem.W.findIn K (.ref C) "__setattr__" = some (some (.builtin "object.__setattr__"))) && (decide (PySem.W.subIn K (.ref C) (.type "BaseException") = some true) &&
  (decide (PySem.W.typeIn K (.ref C) = some (.type "type")) && PySem.W.keepIn K (.ref C))))
theorem oexB_ok {K : PySem.W.Frag} {C : Addr} (h : oexB K C = true) : OexC K C := by
  unfold oexB at h
  simp only [Bool.and_eq_true, decide_eq_true_eq] at h
  obtain ⟨h0, h1, h2, h3, h4⟩ := h
  refine ⟨?_, h1, h2, h3, h4⟩
  split at h0
  · rename_i cdd cd k0 k1 k2 k3 n k5 hl
    split at h0
    · rename_i C' bm hm
      simp only [Bool.and_eq_true, decide_eq_true_eq, Bool.not_eq_eq_eq_not, Bool.not_true] at h0
      obtain ⟨e1, e2, e3, e4, e5⟩ := h0
      obtain ⟨nm, bs, mro, ns, q, hd, sn, sub, ab, col, del⟩ := cd
      simp only at hm e3 e4
      subst e1 e2 e3 e4 hm
      exact ⟨nm, q, ns, bs, bm, sn, sub, ab, col, cdd, k0, k1, k2, k3, k5, hl, e5⟩
    · cases h0
  · cases h0
def kitK (K : PySem.W.Frag) (t u : Value) (b : Bool) : Bool := decide (PySem.W.kitOne K t u = some b)
theorem kitK_ok {K : PySem.W.Frag} {t u : Value} {b : Bool} (h : kitK K t u b = true) : PySem.W.kitOne K t u = some b := of_decide_eq_true h
end Dl

set_option Elab.async false
set_option linter.all false
set_option maxRecDepth 100000
set_option maxHeartbeats 4000000
/-! D21: lists that change: made, set, appended; what changes no more. -/
namespace Dl
open PySem PySem.Spec PyProof.Rows L2
/-- [..], a list that changes -/
def fLstM (g : FA) : FE := fun Γ M k kx => g Γ M (fun ds M1 => ds.length ≤ sizeLine ∧ ∀ p, M1 p = none → k (.ref p) (upM M1 p (.lst ds))) kx
theorem new_lstM {K : PySem.W.Frag} {F : Addr → Prop} {H : Hp} {M : MS} {k : KD} {Q : VK} {ds : List D} {vs : List V} (L : Link K F H M k Q) (R : RepM K F H M) (h : ∀ p, M p = none → k (.ref p) (upM M p (.lst ds))) (hv : IsVs K (dm F M) H vs ds) :
    ∀ p, H p = none → Q (.ref p) (upd H p (.lst vs)) := fun p hp => by
  have g : Go H M (upd H p (.lst vs)) (upM M p (.lst ds)) := Go.newM R hp
  exact L (.ref p) _ _ _ (h p (R.freshM hp)) g (R.newM hp ⟨vs, upd_same, IsVs.kp g.to_kp _ _ hv⟩) (.ref p)
section
variable {X : Cx} {pos pos' spos apos cpos : Pos} {es : List Expr} {o i e : Expr} {g : FA}
theorem de_lstM {E : L2.St → XK} (h : DA X E es g) : DE X E (.List es pos) (fLstM g) := pe_w (pe_lst h) fun σ H Q hh => by
  obtain ⟨F, Γ, M, k, kx, R, q, LX, L⟩ := hh
  refine ⟨F, Γ, M, _, kx, R, q, LX, fun ds M1 vs H1 hx g1 R1 i1 => ?_⟩
  exact ⟨by rw [i1.length]; exact hx.1, new_lstM (L.go g1) R1 hx.2 i1⟩
/-- xs[i] = e -/
def fIxSet (fe fo fi : FE) : FS := fun N Γ M => fe Γ M (fun y M1 => fo Γ M1 (fun x M2 => fi Γ M2 (fun i M3 => ∃ p ds j n, x = .ref p ∧ i = .int j ∧ M3 p = some (.lst ds) ∧ L2.ixN ds.length j = some n ∧ N.nx Γ (upM M3 p (.lst (ds.set n y)))) N.ex) N.ex) N.ex
theorem ds_ixSet {E : XK} {fe fo fi : FE} (he : DE X (fun _ => E) e fe) (ho : DE X (fun _ => E) o fo) (hi : DE X (fun _ => E) i fi)
    (ha : ∀ v, assign (.Subscript o i spos) X.env v = (do
      let ov ← holding [v] (eval o X.env)
      let iv ← holding [v, ov] (eval i X.env)
      standAt spos
      holding [v, ov, iv] (setItem ov iv v)
      release [v, ov, iv] []) := by intro _; rfl)
    (hs : swapsWithSole [.Subscript o i spos] e pos.line X.env = pure false := by rfl) (hw : swappedStores [.Subscript o i spos] e X.env = pure none := by rfl)
    (h1 : (assignEach [.Subscript o i spos] X.env).map (·.2) = [assign (.Subscript o i spos) X.env] := by rfl) : DS X E (.Assign [.Subscript o i spos] e pos) (fIxSet fe fo fi) :=
  ps_w (ps_asg he (pg_sub ho hi set_list ha) hs hw h1) fun D σ H ⟨F, Γ, M, N, R, q, L⟩ => by
    refine ⟨F, Γ, M, _, N.ex, R, q, L.ex, fun y M1 v H1 hx g1 R1 i1 => ?_⟩
    refine ⟨F, Γ, M1, _, N.ex, R.go g1 R1, hx, L.ex.go g1, fun x M2 w H2 ho g2 R2 i2 => ?_⟩
    refine ⟨F, Γ, M2, _, N.ex, R.go (g1.trans g2) R2, ho, L.ex.go (g1.trans g2), fun i M3 u H3 hi g3 R3 i3 => ?_⟩
    obtain ⟨p, ds, j, n, rfl, rfl, hp, hn, hk⟩ := hi
    cases i2
    cases i3
    obtain ⟨vs, e1, h1⟩ : ∃ vs, H3 p = some (.lst vs) ∧ IsVs X.K (dm F M3) H3 vs ds := R3.cel p _ hp
    have hpn : M3 p ≠ none := by rw [hp]; exact nofun
    have g4 : Go H3 M3 (upd H3 p (.lst (vs.set n v))) (upM M3 p (.lst (ds.set n y))) := Go.chg hpn
    have iv := IsV.kp (g2.trans g3).to_kp _ _ i1
    have G := ((g1.trans g2).trans g3).trans g4
    exact ⟨p, vs, j, n, rfl, rfl, e1, by rw [h1.length]; exact hn, L.nx _ _ _ _ hk G (R.go G (R3.chg hpn ⟨_, upd_same, IsVs.kp g4.to_kp _ _ (IsVs.set iv n h1)⟩))⟩
/-- xs.append(e) -/
def fApp (fo : FE) (g : FA) : FE := fun Γ M k kx => fo Γ M (fun x M1 => (∃ xs, vw M1 x = .lst xs) ∧ g Γ M1 (fun ds M2 => ∃ p xs y, x = .ref p ∧ ds = [y] ∧ M2 p = some (.lst xs) ∧ xs.length < sizeLine ∧ k .non (upM M2 p (.lst (xs ++ [y])))) kx) kx
theorem de_app {E : L2.St → XK} {fo : FE} (ho : DE X E o fo) (ha : DA X E (e :: es) g)
    (hbase : attributeBase o "append" X.env (eval o X.env) = eval o X.env := by rfl)
    (hfew : ((backTo cpos (starEach (e :: es) X.env)).all (fun x => !x.1) && (backToKw cpos (keywordEach [] X.env)).all (fun x => x.1.isSome)
      && decide ((e :: es).length + ([] : List Keyword).length + (if ([] : List Keyword).isEmpty then 0 else 1) < 30)) = true := by rfl)
    (hline : (apos.endLine == cpos.line) = true := by rfl) (hs : starEach (e :: es) X.env = (false, eval e X.env) :: starEach es X.env := by rfl) (hplain : (backTo cpos (starEach es X.env)).any (·.1) = false := by rfl) :
    DE X E (.Call (.Attribute o "append" apos) (e :: es) [] cpos) (fApp fo g) := pe_w (pe_bm PySem.F.plainAttrs_list PySem.F.slot_list_append PySem.F.type_list_append mt_append ho ha hbase hfew hline hs hplain) fun σ H Q hh => by
  obtain ⟨F, Γ, M, k, kx, R, q, LX, L⟩ := hh
  refine ⟨F, Γ, M, _, kx, R, q, LX, fun x M1 v H1 hx g1 R1 i1 => ?_⟩
  obtain ⟨⟨xs, ex⟩, hx⟩ := hx
  have i2 := i1.rd R1
  rw [ex] at i2
  cases i2 with
  | @lst a _ _ h1 h2 =>
    refine ⟨.inl ⟨rfl, _, SqL.of h1⟩, F, Γ, M1, _, kx, R.go g1 R1, hx, LX.go g1, fun ds M2 vs H2 h3 g2 R2 i3 => ?_⟩
    obtain ⟨p, ys, y, rfl, rfl, hp, hl, hk⟩ := h3
    have ep : p = a := by cases i1; rfl
    subst ep
    cases i3 with
    | @cons yv _ _ _ iy i3 =>
      cases i3
      obtain ⟨ws, e1, h4⟩ : ∃ ws, H2 p = some (.lst ws) ∧ IsVs X.K (dm F M2) H2 ws ys := R2.cel p _ hp
      have hpn : M2 p ≠ none := by rw [hp]; exact nofun
      refine ⟨p, ws, _, rfl, rfl, e1, by rw [h4.length]; exact hl, ?_⟩
      have g4 : Go H2 M2 (upd H2 p (.lst (ws ++ [yv]))) (upM M2 p (.lst (ys ++ [y]))) := Go.chg hpn
      exact L .non _ .non _ hk ((g1.trans g2).trans g4) (R2.chg hpn ⟨_, upd_same, IsVs.kp g4.to_kp _ _ (h4.append (.cons iy .nil))⟩) .non
end
/-! ### what changes no more -/
def frzD (p : Addr) (d : D) : Option D → Option D
  | some (.ref q) => if q = p then some d else some (.ref q)
  | o => o
theorem Rep.frz {K : PySem.W.Frag} {F : Addr → Prop} {σ : L2.St} {H : Hp} {Γ : GE} {M : MS} {p : Addr} {c : Cell} {d : D} (R : Rep K F σ H Γ M) (e : M p = some c) (t : treeOf c = some d) : Rep K F σ H (Γ.map (frzD p d)) (delM M p) := by
  refine ⟨fun i d' q => ?_, by rw [List.length_map]; exact R.len, R.mem.del p⟩
  rw [List.getElem?_map] at q
  cases h : Γ[i]? with
  | none => rw [h] at q; cases q
  | some o =>
    rw [h] at q
    have q' : frzD p d o = some d' := Option.some.inj q
    match o, q' with
    | none, q' => cases q'
    | some x, q' =>
      obtain ⟨v, h1, h2⟩ := R.env i x h
      refine ⟨v, h1, ?_⟩
      cases x with
      | ref a =>
        have q2 : (if a = p then some d else some (.ref a)) = some d' := q'
        by_cases ha : a = p
        · rw [if_pos ha] at q2
          cases q2
          subst ha
          cases h2
          exact frozen R.mem e t
        · rw [if_neg ha] at q2
          cases q2
          exact IsV.kp kp_del _ _ h2
      | _ => cases q'; exact IsV.kp kp_del _ _ h2
def fFrz (f : FS) : FS := fun N Γ M => f N Γ M ∨ ∃ p c d, M p = some c ∧ treeOf c = some d ∧ f N (Γ.map (frzD p d)) (delM M p)
theorem li_frz {K : PySem.W.Frag} {E : XK} {f : FS} {D : Ends} {σ : L2.St} {H : Hp} (h : liS K E (fFrz f) D σ H) : liS K E f D σ H := by
  obtain ⟨F, Γ, M, N, R, q, L⟩ := h
  rcases q with q | ⟨p, c, d, e, t, q⟩
  · exact ⟨F, Γ, M, N, R, q, L⟩
  · exact ⟨F, _, _, N, R.frz e t, q, L.go Go.del⟩
theorem ds_frz {X : Cx} {E : XK} {st : Stmt} {f : FS} (h : DS X E st f) : DS X E st (fFrz f) := ps_w h fun _ _ _ => li_frz
theorem dss_frz {X : Cx} {E : XK} {st : List Stmt} {f : FS} (h : DSs X E st f) : DSs X E st (fFrz f) := pss_w h fun _ _ _ => li_frz
end Dl

set_option Elab.async false
set_option linter.all false
set_option maxRecDepth 100000
set_option maxHeartbeats 4000000
/-! D22: properties, wide products, dicts asked, by data. -/
namespace Dl
open PySem PySem.Spec PyProof.Rows L2
section
variable {X : Cx} {k : Nat} {C p g a dx : Addr} {fs : List (Str × V)} {f : Str} {fd : FuncData} {ps : List Str} {sp : Sp} {pf : FN} {E : L2.St → XK} {e : Expr} {pos : Pos} {fo : FE}
theorem getprop_G {pins : List (Addr × Obj)} {σ : L2.St} {H : Hp} {s : Shared} {Q : VK} {b : Bool} {E' : Value → Shared → Prop} (I : L2.Inv X pins σ H s) (ea : H a = some (.ins C dx fs)) (c : Cls X.K C) (hp : PropOf X.K C f p g)
    (F : FnG X.prog X.w X.K X.mg X.base CX0 k g fd ps sp) (hgd : X.A.guards = some []) (hr : Room (k + 1) X.A) (hb : Binds X.K fd ps []) (h : sp [.ref a] H Q E0) : wpAny (model X.prog X.w) X.A (getAttr (.ref a) f b) (EP X pins σ Q) E' s := by
  obtain ⟨mA, O, _, _, _, _⟩ := ins_get I.hok ea
  obtain ⟨od, J, _⟩ := O.look
  obtain ⟨rest, hrec⟩ := hp.rec_
  have I1 := I.tok (s.toks + 1)
  have hl : ([Value.ref a] ++ []).length = ps.length := F.len _ _ _ _ h
  have hc : (PySem.W.clsIn X.K C).isSome = true := by
    obtain ⟨cd, hc, _⟩ := PySem.W.any_some c.hd
    rw [hc]
    rfl
  refine PySem.W.get_bind I.kIn J (PySem.W.plainGet_of (c.get f)).1 (PySem.W.findObj_data hc hp.at_ hp.get hp.tak) (PySem.W.plainGet_of (c.get f)).2 (wpAny_call (PySem.W.prop_get (s := { s with toks := s.toks + 1 }) I.kIn hrec ?_))
  refine codeAny_mono (F.run X.A.in1 X.stack { s with toks := s.toks + 1 } H ⟨[.ref a], []⟩ [.ref a] [.ref a] Q E0 (by first | exact hgd | simpa using hgd) hr.in1 I1.env0.in1 (hb _ [.ref a] I1.kIn hl) (show Vals [V.ref a] [Value.ref a] from .cons rfl .nil) h) fun r s' hq => ?_
  match r, hq with
  | .error er, hq => exact hq.elim
  | .ok (.ret u), hq =>
    obtain ⟨v, H', I3, rv, q3⟩ := I1.after hq
    show wpAny _ _ (handedOut u) _ _ _
    rw [PySem.W.handedOut_of (handed_of rv)]
    exact wpAny_pure ⟨v, H', I3, rv, q3⟩
/-- e.f, a property -/
def fProp (C : Addr) (pf : FN) (fo : FE) : FE := fun Γ M k kx => fo Γ M (fun x M1 => ∃ fs, vw M1 x = .ins C fs ∧ pf [x] M1 k) kx
theorem de_prop (he : DE X E e fo) (c : Cls X.K C) (hp : PropOf X.K C f p g) (F : FnG X.prog X.w X.K X.mg X.base CX0 k g fd ps (spD X.K pf)) (hgd : X.A.guards = some []) (hr : Room (k + 1) X.A) (hb : Binds X.K fd ps [])
    (hab : attributeBase e f X.env (eval e X.env) = eval e X.env := by rfl) : DE X E (.Attribute e f pos) (fProp C pf fo) := by
  refine ⟨fun pins s σ H Q I h => ?_⟩
  obtain ⟨F', Γ, M, k', kx, R, q, LX, L⟩ := h
  refine attr_of hab (thn (he.run pins s σ H _ I ⟨F', Γ, M, _, kx, R, q, LX, fun x M1 v H1 hx g1 R1 i1 => (show ∃ x M1, IsV X.K (dm F' M1) H1 v x ∧ RepM X.K F' H1 M1 ∧ Go H M H1 M1 ∧ ∃ fs, vw M1 x = .ins C fs ∧ pf [x] M1 k' from ⟨x, M1, i1, R1, g1, hx⟩)⟩) ?_)
  rintro u s1 ⟨v, H1, I1, rv, x, M1, i1, R1, g1, fs, ex, hk⟩
  have i2 := i1.rd R1
  rw [ex] at i2
  cases i2 with
  | ins h1 h2 =>
    obtain rfl := rv
    exact getprop_G I1 h1 c hp F hgd hr hb ⟨F', [x], M1, k', R1, .cons i1 .nil, hk, L.go g1⟩
/-- a product of two wide ints -/
abbrev oMulW : F2 := o2I CMulW fun i j => .int (i * j)
theorem d_mulW {a b : Expr} {fa fb : FE} (ha : DE X E a fa) (hb : DE X E b fb) : DE X E (.BinOp a .Mult b pos) (fOp oMulW fa fb) := de_op op_mulW (opd_I fun _ _ _ _ => .int _) ha hb
end
end Dl

set_option Elab.async false
set_option linter.all false
set_option maxRecDepth 100000
set_option maxHeartbeats 4000000
/-! D23: dicts of int and text keys: asked, set, by data. -/
namespace Dl
open PySem PySem.Spec PyProof.Rows L2
def keyD : Key → D
  | .inl i => .int i
  | .inr x => .str x
def keyOf? : D → Option Key
  | .int i => some (.inl i)
  | .str x => some (.inr x)
  | _ => none
def valD (ks : List (Key × D)) (k : Key) : Option D := (ks.find? fun kv => decide (kv.1 = k)).map (·.2)
def putKD (ks : List (Key × D)) (k : Key) (v : D) : List (Key × D) :=
  if (ks.any fun kv => decide (kv.1 = k)) = true then ks.map (fun kv => if kv.1 = k then (kv.1, v) else kv) else ks ++ [(k, v)]
section
variable {K : PySem.W.Frag} {P : Addr → Prop} {H : Hp}
theorem key_of {v : V} {d : D} {k : Key} (h : IsV K P H v d) (e : keyOf? d = some k) : v = kV k := by
  cases h with
  | int i => cases e; rfl
  | str x => cases e; rfl
  | _ => cases e
theorem IsKs.valS : ∀ {kvs : List (Key × V)} {ks : List (Key × D)} {k : Key} {d : D}, IsKs K P H kvs ks → valD ks k = some d → ∃ v, valV kvs k = some v ∧ IsV K P H v d
  | _, _, _, _, .nil, e => by cases e
  | _, _, k, d, .cons (k := k') (v := v) (d := d') (kvs := kvs) (ks := ks) h t, e => by
    by_cases q : k' = k
    · have e1 : valD ((k', d') :: ks) k = some d' := by unfold valD; rw [List.find?_cons_of_pos (by simpa using q)]; rfl
      have e2 : valV ((k', v) :: kvs) k = some v := by unfold valV; rw [List.find?_cons_of_pos (by simpa using q)]; rfl
      rw [e1] at e
      cases e
      exact ⟨v, e2, h⟩
    · have e1 : valD ((k', d') :: ks) k = valD ks k := by unfold valD; rw [List.find?_cons_of_neg (by simpa using q)]
      have e2 : valV ((k', v) :: kvs) k = valV kvs k := by unfold valV; rw [List.find?_cons_of_neg (by simpa using q)]
      rw [e1] at e
      rw [e2]
      exact IsKs.valS t e
theorem IsKs.valN : ∀ {kvs : List (Key × V)} {ks : List (Key × D)} {k : Key}, IsKs K P H kvs ks → valD ks k = none → valV kvs k = none
  | _, _, _, .nil, _ => rfl
  | _, _, k, .cons (k := k') (v := v) (d := d') (kvs := kvs) (ks := ks) h t, e => by
    by_cases q : k' = k
    · have e1 : valD ((k', d') :: ks) k = some d' := by unfold valD; rw [List.find?_cons_of_pos (by simpa using q)]; rfl
      rw [e1] at e
      cases e
    · have e1 : valD ((k', d') :: ks) k = valD ks k := by unfold valD; rw [List.find?_cons_of_neg (by simpa using q)]
      have e2 : valV ((k', v) :: kvs) k = valV kvs k := by unfold valV; rw [List.find?_cons_of_neg (by simpa using q)]
      rw [e1] at e
      rw [e2]
      exact IsKs.valN t e
theorem IsKs.length : ∀ {kvs : List (Key × V)} {ks : List (Key × D)}, IsKs K P H kvs ks → kvs.length = ks.length
  | _, _, .nil => rfl
  | _, _, .cons _ t => congrArg Nat.succ t.length
theorem IsKs.anyK {k : Key} : ∀ {kvs : List (Key × V)} {ks : List (Key × D)}, IsKs K P H kvs ks → (kvs.any fun kv => decide (kv.1 = k)) = (ks.any fun kv => decide (kv.1 = k))
  | _, _, .nil => rfl
  | _, _, .cons _ t => by rw [List.any_cons, List.any_cons, t.anyK]
theorem IsKs.mapK {k : Key} {v : V} {d : D} (h : IsV K P H v d) : ∀ {kvs : List (Key × V)} {ks : List (Key × D)}, IsKs K P H kvs ks → IsKs K P H (kvs.map fun kv => if kv.1 = k then (kv.1, v) else kv) (ks.map fun kv => if kv.1 = k then (kv.1, d) else kv)
  | _, _, .nil => .nil
  | _, _, .cons (k := k') g t => by
    rw [List.map_cons, List.map_cons]
    by_cases q : k' = k
    · rw [if_pos q, if_pos q]
      exact .cons h (t.mapK h)
    · rw [if_neg q, if_neg q]
      exact .cons g (t.mapK h)
theorem IsKs.snoc {k : Key} {v : V} {d : D} (h : IsV K P H v d) : ∀ {kvs : List (Key × V)} {ks : List (Key × D)}, IsKs K P H kvs ks → IsKs K P H (kvs ++ [(k, v)]) (ks ++ [(k, d)])
  | _, _, .nil => .cons h .nil
  | _, _, .cons g t => .cons g (t.snoc h)
theorem IsKs.put {k : Key} {v : V} {d : D} (h : IsV K P H v d) {kvs : List (Key × V)} {ks : List (Key × D)} (t : IsKs K P H kvs ks) : IsKs K P H (putK kvs k v) (putKD ks k d) := by
  unfold putK putKD
  rw [t.anyK]
  by_cases q : (ks.any fun kv => decide (kv.1 = k)) = true
  · rw [if_pos q, if_pos q]
    exact t.mapK h
  · rw [if_neg q, if_neg q]
    exact t.snoc h
end
/-- d[y] -/
def fDGet (fo fi : FE) : FE := fun Γ M k kx => fo Γ M (fun x M1 => fi Γ M1 (fun y M2 => ∃ ks c d, vw M2 x = .dct ks ∧ keyOf? y = some c ∧ valD ks c = some d ∧ k d M2) kx) kx
/-- d.get(y, z) -/
def fDGet2 (fo fi fz : FE) : FE := fun Γ M k kx => fo Γ M (fun x M1 => (∃ ks, vw M1 x = .dct ks) ∧ fi Γ M1 (fun y M2 => fz Γ M2 (fun z M3 => ∃ ks c, vw M3 x = .dct ks ∧ keyOf? y = some c ∧ k ((valD ks c).getD z) M3) kx) kx) kx
section
variable {X : Cx} {E : L2.St → XK} {o i e f : Expr} {pos apos cpos : Pos} {fo fi fz : FE}
theorem de_dget (hu : X.A.units + 1 < cLine) (ho : DE X E o fo) (hi : DE X E i fi) (hs : NoSl i) : DE X E (.Subscript o i pos) (fDGet fo fi) := pe_w (pe_dget hu ho hi hs) fun σ H Q h => by
  obtain ⟨F, Γ, M, k, kx, R, q, LX, L⟩ := h
  refine ⟨F, Γ, M, _, kx, R, q, LX, fun x M1 v H1 hx g1 R1 i1 => ?_⟩
  refine ⟨F, Γ, M1, _, kx, R.go g1 R1, hx, LX.go g1, fun y M2 w H2 hy g2 R2 i2 => ?_⟩
  obtain ⟨ks, c, d, ex, ec, ed, hk⟩ := hy
  have i3 := (IsV.kp g2.to_kp _ _ i1).rd R2
  rw [ex] at i3
  cases i3 with
  | dct h1 h2 =>
    obtain ⟨u, eu, iu⟩ := h2.valS ed
    exact ⟨_, u, rfl, .inl ⟨_, c, h1, key_of i2 ec, eu.symm⟩, L d M2 u H2 hk (g1.trans g2) R2 iu⟩
end
end Dl

set_option Elab.async false
set_option linter.all false
set_option maxRecDepth 100000
set_option maxHeartbeats 2000000
/-! E1: the functional layer: values by ids (class ids first), slots that own a list or dict, results as functions; Sim: a reading of D2 holds where the function ends well. -/
namespace Fl
open PySem PySem.Spec PyProof.Rows L2 Dl

/-! ### values by ids -/
mutual
inductive RT (ρ : List Addr) : D → D → Prop
  | non : RT ρ .non .non
  | bl (b : Bool) : RT ρ (.bl b) (.bl b)
  | int (i : Int) : RT ρ (.int i) (.int i)
  | str (x : Str) : RT ρ (.str x) (.str x)
  | ty (n : String) : RT ρ (.ty n) (.ty n)
  | scr (ns : List Int) : RT ρ (.scr ns) (.scr ns)
  | ref {i a : Nat} : ρ[i]? = some a → RT ρ (.ref i) (.ref a)
  | lst {xs ys : List D} : RTs ρ xs ys → RT ρ (.lst xs) (.lst ys)
  | tup {xs ys : List D} : RTs ρ xs ys → RT ρ (.tup xs) (.tup ys)
  | dct {xs ys : List (Key × D)} : RTk ρ xs ys → RT ρ (.dct xs) (.dct ys)
  | ins {c C : Nat} {xs ys : List (Str × D)} : ρ[c]? = some C → RTf ρ xs ys → RT ρ (.ins c xs) (.ins C ys)
  | exv {c C : Nat} {xs ys : List (Str × D)} : ρ[c]? = some C → RTf ρ xs ys → RT ρ (.exv c xs) (.exv C ys)
inductive RTs (ρ : List Addr) : List D → List D → Prop
  | nil : RTs ρ [] []
  | cons {x y : D} {xs ys : List D} : RT ρ x y → RTs ρ xs ys → RTs ρ (x :: xs) (y :: ys)
inductive RTk (ρ : List Addr) : List (Key × D) → List (Key × D) → Prop
  | nil : RTk ρ [] []
  | cons {k : Key} {x y : D} {xs ys : List (Key × D)} : RT ρ x y → RTk ρ xs ys → RTk ρ ((k, x) :: xs) ((k, y) :: ys)
inductive RTf (ρ : List Addr) : List (Str × D) → List (Str × D) → Prop
  | nil : RTf ρ [] []
  | cons {k : Str} {x y : D} {xs ys : List (Str × D)} : RT ρ x y → RTf ρ xs ys → RTf ρ ((k, x) :: xs) ((k, y) :: ys)
end
theorem pre_get {ρ ρ' : List Addr} (h : ρ <+: ρ') {i a : Nat} (e : ρ[i]? = some a) : ρ'[i]? = some a := by
  obtain ⟨t, rfl⟩ := h
  rw [List.getElem?_append_left (List.getElem?_eq_some_iff.mp e).1]
  exact e
mutual
theorem RT.mono {ρ ρ' : List Addr} (h : ρ <+: ρ') : ∀ (x : D) {y : D}, RT ρ x y → RT ρ' x y
  | .non, _, r => by cases r; exact .non
  | .bl _, _, r => by cases r; exact .bl _
  | .int _, _, r => by cases r; exact .int _
  | .str _, _, r => by cases r; exact .str _
  | .ty _, _, r => by cases r; exact .ty _
  | .scr _, _, r => by cases r; exact .scr _
  | .ref _, _, r => by cases r with | ref e => exact .ref (pre_get h e)
  | .lst xs, _, r => by cases r with | lst q => exact .lst (RTs.mono h xs q)
  | .tup xs, _, r => by cases r with | tup q => exact .tup (RTs.mono h xs q)
  | .dct xs, _, r => by cases r with | dct q => exact .dct (RTk.mono h xs q)
  | .ins _ xs, _, r => by cases r with | ins e q => exact .ins (pre_get h e) (RTf.mono h xs q)
  | .exv _ xs, _, r => by cases r with | exv e q => exact .exv (pre_get h e) (RTf.mono h xs q)
theorem RTs.mono {ρ ρ' : List Addr} (h : ρ <+: ρ') : ∀ (x : List D) {y : List D}, RTs ρ x y → RTs ρ' x y
  | [], _, r => by cases r; exact .nil
  | x :: xs, _, r => by cases r with | cons a b => exact .cons (RT.mono h x a) (RTs.mono h xs b)
theorem RTk.mono {ρ ρ' : List Addr} (h : ρ <+: ρ') : ∀ (x : List (Key × D)) {y : List (Key × D)}, RTk ρ x y → RTk ρ' x y
  | [], _, r => by cases r; exact .nil
  | (_, x) :: xs, _, r => by cases r with | cons a b => exact .cons (RT.mono h x a) (RTk.mono h xs b)
theorem RTf.mono {ρ ρ' : List Addr} (h : ρ <+: ρ') : ∀ (x : List (Str × D)) {y : List (Str × D)}, RTf ρ x y → RTf ρ' x y
  | [], _, r => by cases r; exact .nil
  | (_, x) :: xs, _, r => by cases r with | cons a b => exact .cons (RT.mono h x a) (RTf.mono h xs b)
end
mutual
/-- what holds no class and no changing object stands for itself -/
theorem RT.plain {ρ : List Addr} : ∀ (x : D) {y : D}, plain x = true → RT ρ x y → y = x
  | .non, _, _, r => by cases r; rfl
  | .bl _, _, _, r => by cases r; rfl
  | .int _, _, _, r => by cases r; rfl
  | .str _, _, _, r => by cases r; rfl
  | .ty _, _, _, r => by cases r; rfl
  | .scr _, _, _, r => by cases r; rfl
  | .ref _, _, p, _ => by cases p
  | .lst xs, _, p, r => by cases r with | lst q => rw [RTs.plain xs p q]
  | .tup xs, _, p, r => by cases r with | tup q => rw [RTs.plain xs p q]
  | .dct xs, _, p, _ => by cases p
  | .ins _ xs, _, p, _ => by cases p
  | .exv _ xs, _, p, _ => by cases p
theorem RTs.plain {ρ : List Addr} : ∀ (x : List D) {y : List D}, plains x = true → RTs ρ x y → y = x
  | [], _, _, r => by cases r; rfl
  | x :: xs, _, p, r => by
    cases r with
    | cons a b =>
      have p' := Bool.and_eq_true_iff.mp (show (Dl.plain x && plains xs) = true from p)
      rw [RT.plain x p'.1 a, RTs.plain xs p'.2 b]
end
mutual
theorem RT.self {ρ : List Addr} : ∀ {x : D}, plain x = true → RT ρ x x
  | .non, _ => .non
  | .bl _, _ => .bl _
  | .int _, _ => .int _
  | .str _, _ => .str _
  | .scr _, _ => .scr _
  | .lst xs, p => .lst (RTs.self p)
  | .tup xs, p => .tup (RTs.self p)
  | .ty _, p => by cases p
  | .ref _, p => by cases p
  | .dct xs, p => by cases p
  | .ins _ xs, p => by cases p
  | .exv _ xs, p => by cases p
theorem RTs.self {ρ : List Addr} : ∀ {x : List D}, plains x = true → RTs ρ x x
  | [], _ => .nil
  | x :: xs, p => by
    have p' := Bool.and_eq_true_iff.mp (show (Dl.plain x && plains xs) = true from p)
    exact .cons (RT.self p'.1) (RTs.self p'.2)
end
section
variable {ρ : List Addr}
theorem RTs.length : ∀ {xs ys : List D}, RTs ρ xs ys → ys.length = xs.length
  | _, _, .nil => rfl
  | _, _, .cons _ t => congrArg Nat.succ t.length
theorem RTs.get : ∀ {xs ys : List D} {i : Nat} {d : D}, RTs ρ xs ys → xs[i]? = some d → ∃ v, ys[i]? = some v ∧ RT ρ d v
  | _, _, _, _, .nil, e => by simp at e
  | _, _, 0, _, .cons h _, e => ⟨_, rfl, (Option.some.inj e) ▸ h⟩
  | _, _, i + 1, d, .cons _ t, e => by
    rw [List.getElem?_cons_succ] at e
    obtain ⟨v, h1, h2⟩ := t.get e
    exact ⟨v, by rw [List.getElem?_cons_succ]; exact h1, h2⟩
theorem RTs.append : ∀ {xs ys us vs : List D}, RTs ρ xs ys → RTs ρ us vs → RTs ρ (xs ++ us) (ys ++ vs)
  | _, _, _, _, .nil, s => s
  | _, _, _, _, .cons h t, s => .cons h (t.append s)
theorem RTs.take : ∀ {xs ys : List D} (n : Nat), RTs ρ xs ys → RTs ρ (xs.take n) (ys.take n)
  | _, _, 0, _ => .nil
  | _, _, _ + 1, .nil => .nil
  | _, _, n + 1, .cons h t => .cons h (t.take n)
theorem RTs.drop : ∀ {xs ys : List D} (n : Nat), RTs ρ xs ys → RTs ρ (xs.drop n) (ys.drop n)
  | _, _, 0, r => r
  | _, _, _ + 1, .nil => .nil
  | _, _, n + 1, .cons _ t => t.drop n
theorem RTs.set {d e : D} (h : RT ρ d e) : ∀ {xs ys : List D} (i : Nat), RTs ρ xs ys → RTs ρ (xs.set i d) (ys.set i e)
  | _, _, _, .nil => .nil
  | _, _, 0, .cons _ t => .cons h t
  | _, _, i + 1, .cons q t => .cons q (RTs.set h i t)
theorem RTs.cut {xs ys : List D} {lo hi : Option Int} (h : RTs ρ xs ys) : RTs ρ (Dl.cutD xs lo hi) (Dl.cutD ys lo hi) := by
  unfold Dl.cutD
  rw [h.length]
  exact (h.drop _).take _
theorem RTs.atI {xs ys : List D} {i : Int} {d : D} (h : RTs ρ xs ys) (e : L2.atI xs i = some d) : ∃ v, L2.atI ys i = some v ∧ RT ρ d v := by
  unfold L2.atI at e ⊢
  rw [h.length]
  cases q : ixN xs.length i with
  | none => rw [q] at e; cases e
  | some j =>
    rw [q] at e
    exact h.get e
theorem RTs.ints : ∀ ns : List Int, RTs ρ (ns.map D.int) (ns.map D.int)
  | [] => .nil
  | n :: ns => .cons (.int n) (RTs.ints ns)
theorem RTs.strs : ∀ ns : List Str, RTs ρ (ns.map D.str) (ns.map D.str)
  | [] => .nil
  | n :: ns => .cons (.str n) (RTs.strs ns)
theorem RTs.of_ints : ∀ {ns : List Int} {ys : List D}, RTs ρ (ns.map D.int) ys → ys = ns.map D.int
  | [], _, h => by cases h; rfl
  | n :: ns, _, h => by
    cases h with
    | cons h1 h2 =>
      cases h1
      rw [RTs.of_ints h2]
      rfl
theorem RTs.of_bls : ∀ {ns : List Bool} {ys : List D}, RTs ρ (ns.map D.bl) ys → ys = ns.map D.bl
  | [], _, h => by cases h; rfl
  | n :: ns, _, h => by
    cases h with
    | cons h1 h2 =>
      cases h1
      rw [RTs.of_bls h2]
      rfl
theorem RTs.of_strs : ∀ {ns : List Str} {ys : List D}, RTs ρ (ns.map D.str) ys → ys = ns.map D.str
  | [], _, h => by cases h; rfl
  | n :: ns, _, h => by
    cases h with
    | cons h1 h2 =>
      cases h1
      rw [RTs.of_strs h2]
      rfl
end

/-! ### the world -/
inductive Sl where
  | no | val (d : D) | own (c : Cell)
abbrev SG := List Sl
abbrev AH := List (Option Cell)
inductive RC (ρ : List Addr) : Cell → Cell → Prop
  | lst {xs ys : List D} : RTs ρ xs ys → RC ρ (.lst xs) (.lst ys)
  | dct {xs ys : List (Key × D)} : RTk ρ xs ys → RC ρ (.dct xs) (.dct ys)
  | ins {c C : Nat} {xs ys : List (Str × D)} : ρ[c]? = some C → RTf ρ xs ys → RC ρ (.ins c xs) (.ins C ys)
theorem RC.mono {ρ ρ' : List Addr} (h : ρ <+: ρ') {x y : Cell} (r : RC ρ x y) : RC ρ' x y := by
  cases r with
  | lst r => exact .lst (RTs.mono h _ r)
  | dct r => exact .dct (RTk.mono h _ r)
  | ins e r => exact .ins (pre_get h e) (RTf.mono h _ r)
def cellD : Cell → D
  | .lst ds => .lst ds | .dct ks => .dct ks | .ins C fs => .ins C fs | .pen _ _ => .non
theorem RC.tree {ρ : List Addr} {x y : Cell} (r : RC ρ x y) (p : Addr) : RT ρ (cellD x) (vwC p (some y)) ∧ treeOf y = some (vwC p (some y)) := by
  cases r with
  | lst r => exact ⟨.lst r, rfl⟩
  | dct r => exact ⟨.dct r, rfl⟩
  | ins e r => exact ⟨.ins e r, rfl⟩
def Live (A : AH) (ρ : List Addr) (a : Addr) : Prop := ∃ (i : Nat) (c : Cell), A[i]? = some (some c) ∧ ρ[i]? = some a
def Own (Γt : SG) (Γ : GE) (a : Addr) : Prop := ∃ (i : Nat) (c : Cell), Γt[i]? = some (.own c) ∧ Γ[i]? = some (some (.ref a))
def NoOwn : Addr → Prop := fun _ => False
/-- the classes' addresses; the address that the first slot holds where it owns -/
structure Kc where
  cls : List Addr
  pin : Option Addr
structure HM (cl ρ : List Addr) (A : AH) (M : MS) : Prop where
  pre : cl <+: ρ
  len : A.length = ρ.length
  cel : ∀ (i : Nat) (c : Cell), A[i]? = some (some c) → ∃ a dc, ρ[i]? = some a ∧ M a = some dc ∧ RC ρ c dc
  inj : ∀ (i j : Nat) (c c' : Cell), A[i]? = some (some c) → A[j]? = some (some c') → ρ[i]? = ρ[j]? → i = j
structure Wd (κ : Kc) (ρ : List Addr) (Γt : SG) (A : AH) (Γ : GE) (M : MS) : Prop where
  hm : HM κ.cls ρ A M
  len : Γ.length = Γt.length
  val : ∀ (i : Nat) (t : D), Γt[i]? = some (.val t) → ∃ d, Γ[i]? = some (some d) ∧ RT ρ t d
  own : ∀ (i : Nat) (c : Cell), Γt[i]? = some (.own c) → ∃ p dc, Γ[i]? = some (some (.ref p)) ∧ M p = some dc ∧ RC ρ c dc ∧ ¬ Live A ρ p
  sep : ∀ (i j : Nat) (c c' : Cell), Γt[i]? = some (.own c) → Γt[j]? = some (.own c') → Γ[i]? = Γ[j]? → i = j
  pin : ∀ (p : Addr) (c : Cell), κ.pin = some p → Γt[0]? = some (.own c) → Γ[0]? = some (some (.ref p))
structure Stp (ρ : List Addr) (A : AH) (M : MS) (O : Addr → Prop) (ρ' : List Addr) (A' : AH) (M' : MS) (O' : Addr → Prop) : Prop where
  pre : ρ <+: ρ'
  fr : ∀ a, M a ≠ none → ¬ Live A ρ a → ¬ O a → M' a = M a
  new : ∀ a, Live A' ρ' a ∨ O' a → Live A ρ a ∨ O a ∨ M a = none
section
variable {ρ ρ1 ρ2 : List Addr} {A A1 A2 : AH} {M M1 M2 : MS} {O O1 O2 : Addr → Prop}
theorem Stp.refl : Stp ρ A M O ρ A M O := ⟨List.prefix_refl _, fun _ _ _ _ => rfl, fun _ z => z.elim .inl fun q => .inr (.inl q)⟩
theorem Stp.trans (s : Stp ρ A M O ρ1 A1 M1 O1) (t : Stp ρ1 A1 M1 O1 ρ2 A2 M2 O2) : Stp ρ A M O ρ2 A2 M2 O2 := by
  refine ⟨s.pre.trans t.pre, fun a h1 h2 h3 => ?_, fun a z => ?_⟩
  · have e := s.fr a h1 h2 h3
    have n : ∀ z : Live A1 ρ1 a ∨ O1 a, False := fun z => by
      rcases s.new a z with q | q | q
      · exact h2 q
      · exact h3 q
      · exact h1 q
    rw [t.fr a (by rw [e]; exact h1) (fun z => n (.inl z)) (fun z => n (.inr z)), e]
  · rcases t.new a z with q | q | q
    · exact s.new a (.inl q)
    · exact s.new a (.inr q)
    · by_cases h1 : M a = none
      · exact .inr (.inr h1)
      · by_cases h2 : Live A ρ a
        · exact .inl h2
        · by_cases h3 : O a
          · exact .inr (.inl h3)
          · rw [s.fr a h1 h2 h3] at q
            exact absurd q h1
end

/-! ### results -/
inductive R (α : Type) where
  | ok (a : α) (Γ : SG) (A : AH) | exc (C : Nat) (fs : List (Str × D)) (Γ : SG) (A : AH) | no
abbrev Mo (α : Type) := SG → AH → R α
def R.bind {α β : Type} (r : R α) (f : α → Mo β) : R β := match r with
  | .ok a Γ A => f a Γ A
  | .exc C fs Γ A => .exc C fs Γ A
  | .no => .no
def mBind {α β : Type} (m : Mo α) (f : α → Mo β) : Mo β := fun Γ A => (m Γ A).bind f
def mRet {α : Type} (a : α) : Mo α := fun Γ A => .ok a Γ A
def mO {α : Type} (o : Option α) : Mo α := fun Γ A => match o with
  | some a => .ok a Γ A
  | none => .no
abbrev Rl (α β : Type) := List Addr → GE → α → β → Prop
def Sat {α β : Type} (κ : Kc) (rel : Rl α β) (o : R α) (ρ : List Addr) (Γt : SG) (A : AH) (Γ : GE) (M : MS) (k : β → MS → Prop) (kx : KX) : Prop := match o with
  | .ok a Γt' A' => ∀ ρ' M' b, Wd κ ρ' Γt' A' Γ M' → Stp ρ A M (Own Γt Γ) ρ' A' M' (Own Γt' Γ) → rel ρ' Γ a b → k b M'
  | .exc C fs Γt' A' => ∀ ρ' M' Ca gs, Wd κ ρ' Γt' A' Γ M' → Stp ρ A M (Own Γt Γ) ρ' A' M' (Own Γt' Γ) → ρ'[C]? = some Ca → RTf ρ' fs gs → kx Ca gs M'
  | .no => False
abbrev FX (β : Type) := GE → MS → (β → MS → Prop) → KX → Prop
def SimAt {α β : Type} (κ : Kc) (rel : Rl α β) (ρ : List Addr) (Γ : GE) (f : FX β) (m : Mo α) : Prop :=
  ∀ Γt A M k kx, Wd κ ρ Γt A Γ M → Sat κ rel (m Γt A) ρ Γt A Γ M k kx → f Γ M k kx
def Sim {α β : Type} (κ : Kc) (rel : Rl α β) (f : FX β) (m : Mo α) : Prop := ∀ ρ Γ, SimAt κ rel ρ Γ f m
def rD : Rl D D := fun ρ _ x y => RT ρ x y
def rB : Rl Bool Bool := fun _ _ x y => y = x
def rOI : Rl (Option Int) (Option Int) := fun _ _ x y => y = x
def rA : Rl (List D) (List D) := fun ρ _ x y => RTs ρ x y
section
variable {κ : Kc} {ρ ρ1 : List Addr} {Γ : GE} {α β α' β' : Type} {rel : Rl α β} {ra : Rl α' β'}
theorem Sat.step {o : R α} {Γt Γ1 : SG} {A A1 : AH} {M M1 : MS} {k : β → MS → Prop} {kx : KX} (s : Stp ρ A M (Own Γt Γ) ρ1 A1 M1 (Own Γ1 Γ)) (h : Sat κ rel o ρ Γt A Γ M k kx) : Sat κ rel o ρ1 Γ1 A1 Γ M1 k kx := by
  cases o with
  | ok a Γ' A' => exact fun ρ' M' b w t r => h ρ' M' b w (s.trans t) r
  | exc C fs Γ' A' => exact fun ρ' M' Ca gs w t e r => h ρ' M' Ca gs w (s.trans t) e r
  | no => exact h
theorem sim_bind {fa : FX β'} {ma : Mo α'} {fb : β' → FX β} {mb : α' → Mo α} (ha : SimAt κ ra ρ Γ fa ma) (hb : ∀ ρ' a b, ρ <+: ρ' → ra ρ' Γ a b → SimAt κ rel ρ' Γ (fb b) (mb a)) :
    SimAt κ rel ρ Γ (fun Γ M k kx => fa Γ M (fun x M1 => fb x Γ M1 k kx) kx) (mBind ma mb) := fun Γt A M k kx w h => by
  refine ha Γt A M _ kx w ?_
  unfold mBind at h
  cases e : ma Γt A with
  | ok a Γ1 A1 =>
    rw [e] at h
    exact fun ρ1 M1 b w1 s1 r1 => hb ρ1 a b s1.pre r1 Γ1 A1 M1 k kx w1 (Sat.step s1 h)
  | exc C fs Γ1 A1 =>
    rw [e] at h
    exact h
  | no =>
    rw [e] at h
    exact h
/-- a step that changes nothing -/
theorem sim_o {f : FX β} {o : Option α} (h : ∀ M (k : β → MS → Prop) kx a, o = some a → (∀ b, rel ρ Γ a b → k b M) → f Γ M k kx) : SimAt κ rel ρ Γ f (mO o) := fun Γt A M k kx w h' => by
  unfold mO at h'
  cases e : o with
  | none => rw [e] at h'; exact h'.elim
  | some a => rw [e] at h'; exact h M k kx a e fun b r => h' ρ M b w Stp.refl r
theorem sim_ret {f : FX β} {a : α} (h : ∀ M (k : β → MS → Prop) kx, (∀ b, rel ρ Γ a b → k b M) → f Γ M k kx) : SimAt κ rel ρ Γ f (mRet a) := fun Γt A M k kx w h' => h M k kx fun b r => h' ρ M b w Stp.refl r
end

/-! ### names, operands -/
inductive Opd where
  | v (d : D) | s (i : Nat)
def rO : Rl Opd D := fun ρ Γ o d => match o with
  | .v t => RT ρ t d
  | .s i => Γ[i]? = some (some d)
theorem rO_mono {ρ ρ' : List Addr} {Γ : GE} (h : ρ <+: ρ') {o : Opd} {d : D} (r : rO ρ Γ o d) : rO ρ' Γ o d := by
  cases o with
  | v t => exact RT.mono h _ r
  | s i => exact r
def mV (i : Nat) : Mo D := fun Γ A => match Γ[i]? with
  | some (.val t) => .ok t Γ A
  | _ => .no
def mB (i : Nat) : Mo Opd := fun Γ A => match Γ[i]? with
  | some (.val t) => .ok (.v t) Γ A
  | some (.own _) => .ok (.s i) Γ A
  | _ => .no
def mVal (m : Mo D) : Mo Opd := mBind m fun d => mRet (.v d)
/-- an operand read through -/
def rdO (o : Opd) (Γ : SG) (A : AH) : Option D := match o with
  | .v (.ref i) => match A[i]? with
    | some (some c) => some (cellD c)
    | _ => none
  | .v d => some d
  | .s i => match Γ[i]? with
    | some (.own c) => some (cellD c)
    | _ => none
section
variable {κ : Kc} {ρ : List Addr} {Γ : GE}
theorem sim_v (i : Nat) : Sim κ rD (fVar i) (mV i) := fun ρ Γ Γt A M k kx w h => by
  unfold mV at h
  cases e : Γt[i]? with
  | none => rw [e] at h; exact h.elim
  | some s =>
    rw [e] at h
    cases s with
    | val t =>
      obtain ⟨d, e1, r⟩ := w.val i t e
      exact ⟨d, e1, h ρ M d w Stp.refl r⟩
    | no => exact h.elim
    | own c => exact h.elim
theorem sim_b (i : Nat) : Sim κ rO (fVar i) (mB i) := fun ρ Γ Γt A M k kx w h => by
  unfold mB at h
  cases e : Γt[i]? with
  | none => rw [e] at h; exact h.elim
  | some s =>
    rw [e] at h
    cases s with
    | val t =>
      obtain ⟨d, e1, r⟩ := w.val i t e
      exact ⟨d, e1, h ρ M d w Stp.refl r⟩
    | no => exact h.elim
    | own c =>
      obtain ⟨p, dc, e1, _⟩ := w.own i c e
      exact ⟨_, e1, h ρ M _ w Stp.refl e1⟩
theorem sim_val {f : FE} {m : Mo D} (h : Sim κ rD f m) : Sim κ rO f (mVal m) := fun ρ Γ => sim_bind (fb := fun x _ M k _ => k x M) (h ρ Γ) fun ρ' a b _ r => sim_ret fun M k kx q => q b r
theorem rd_rel {Γt : SG} {A : AH} {M : MS} {o : Opd} {d t : D} (w : Wd κ ρ Γt A Γ M) (r : rO ρ Γ o d) (e : rdO o Γt A = some t) : RT ρ t (vw M d) := by
  cases o with
  | s i =>
    replace e : (match Γt[i]? with | some (.own c) => some (cellD c) | _ => none) = some t := e
    cases q : Γt[i]? with
    | none => rw [q] at e; cases e
    | some s =>
      rw [q] at e
      cases s with
      | own c =>
        cases e
        obtain ⟨p, dc, e1, e2, rc, _⟩ := w.own i c q
        have r' : Γ[i]? = some (some d) := r
        rw [e1] at r'
        cases r'
        show RT ρ _ (vwC p (M p))
        rw [e2]
        exact (rc.tree p).1
      | no => cases e
      | val _ => cases e
  | v x =>
    have r : RT ρ x d := r
    cases x with
    | ref i =>
      cases r with
      | ref ei =>
        replace e : (match A[i]? with | some (some c) => some (cellD c) | _ => none) = some t := e
        cases q : A[i]? with
        | none => rw [q] at e; cases e
        | some oc =>
          cases oc with
          | none => rw [q] at e; cases e
          | some c =>
            rw [q] at e
            cases e
            obtain ⟨a, dc, e1, e2, rc⟩ := w.hm.cel i c q
            rw [ei] at e1
            cases e1
            show RT ρ _ (vwC _ (M _))
            rw [e2]
            exact (rc.tree _).1
    | _ => cases e; cases r; first | exact .non | exact .bl _ | exact .int _ | exact .str _ | exact .ty _ | exact .scr _ | (rename_i q; first | exact .lst q | exact .tup q | exact .dct q) | (rename_i q1 q2; first | exact .ins q1 q2 | exact .exv q1 q2)
/-- a constant -/
def mC (d : D) : Mo D := mRet d
theorem sim_c {d : D} (h : plain d = true) : Sim κ rD (fC d) (mC d) := fun ρ Γ => sim_ret fun M k kx q => q d (by
  cases d with
  | non => exact .non
  | bl _ => exact .bl _
  | int _ => exact .int _
  | str _ => exact .str _
  | scr _ => exact .scr _
  | _ => exact RT.self h)
end
end Fl

set_option Elab.async false
set_option linter.all false
set_option maxRecDepth 100000
set_option maxHeartbeats 2000000
/-! E2: expressions of the functional layer: operators, tests, displays, slices, updates of cells, built-in calls. -/
namespace Fl
open PySem PySem.Spec PyProof.Rows L2 Dl
structure ME (κ : Kc) (X : Cx) (E : L2.St → XK) (e : Expr) (m : Mo D) : Prop where ex : ∃ f, DE X E e f ∧ Sim κ rD f m
structure MP (κ : Kc) (X : Cx) (E : L2.St → XK) (e : Expr) (m : Mo Opd) : Prop where ex : ∃ f, DE X E e f ∧ Sim κ rO f m
structure MT (κ : Kc) (X : Cx) (E : L2.St → XK) (e : Expr) (m : Mo Bool) : Prop where ex : ∃ f, DT X E e f ∧ Sim κ rB f m
structure MW (κ : Kc) (X : Cx) (E : L2.St → XK) (e : Expr) (m : Mo Bool) : Prop where ex : ∃ f, DW X E e f ∧ Sim κ rB f m
structure MA (κ : Kc) (X : Cx) (E : L2.St → XK) (e : List Expr) (m : Mo (List D)) : Prop where ex : ∃ f, DA X E e f ∧ Sim κ rA f m
structure MO (κ : Kc) (X : Cx) (E : L2.St → XK) (e : Option Expr) (m : Mo (Option Int)) : Prop where ex : ∃ f, DO X E e f ∧ Sim κ rOI f m

section
variable {κ : Kc} {ρ : List Addr} {Γ : GE}
/-! ### operators of two values -/
def OpT (g : F2) (o : D → D → Option D) : Prop := ∀ (ρ : List Addr) (x y dx dy : D) (M : MS) (k : KD) (t : D), RT ρ x dx → RT ρ y dy → o x y = some t → (∀ d, RT ρ t d → k d M) → g dx dy M k
def mOp (o : D → D → Option D) (a b : Mo D) : Mo D := mBind a fun x => mBind b fun y => mO (o x y)
theorem sim_op {g : F2} {o : D → D → Option D} {fa fb : FE} {a b : Mo D} (h : OpT g o) (ha : Sim κ rD fa a) (hb : Sim κ rD fb b) : Sim κ rD (fOp g fa fb) (mOp o a b) := fun ρ Γ =>
  sim_bind (fb := fun x Γ M k kx => fb Γ M (fun y M2 => g x y M2 k) kx) (ha ρ Γ) fun ρ1 x dx _ rx => sim_bind (fb := fun y Γ M k kx => g dx y M k) (hb ρ1 Γ) fun ρ2 y dy p ry => sim_o fun M k kx t e q => h ρ2 x y dx dy M k t (RT.mono p _ rx) ry e q
/-- an operator that reads through -/
def mRd2 (o : D → D → Option D) (x y : Opd) : Mo D := fun Γ A => match rdO x Γ A, rdO y Γ A with
  | some a, some b => mO (o a b) Γ A
  | _, _ => .no
def mRd1 (o : D → Option D) (x : Opd) : Mo D := fun Γ A => match rdO x Γ A with
  | some a => mO (o a) Γ A
  | _ => .no
def mOpW (o : D → D → Option D) (a b : Mo Opd) : Mo D := mBind a fun x => mBind b fun y => mRd2 o x y
theorem sat_o {ρ : List Addr} {Γt : SG} {A : AH} {Γ : GE} {M : MS} {k : KD} {kx : KX} {o : Option D} (w : Wd κ ρ Γt A Γ M) (h : Sat κ rD (mO o Γt A) ρ Γt A Γ M k kx) : ∃ t, o = some t ∧ ∀ d, RT ρ t d → k d M := by
  cases o with
  | none => exact h.elim
  | some t => exact ⟨t, rfl, fun d r => h ρ M d w Stp.refl r⟩
theorem sim_rd2 {g : F2} {o : D → D → Option D} {x y : Opd} {dx dy : D} (h : OpT g o) (rx : rO ρ Γ x dx) (ry : rO ρ Γ y dy) : SimAt κ rD ρ Γ (fun Γ M k kx => wOp g dx dy M k) (mRd2 o x y) := fun Γt A M k kx w hh => by
  unfold mRd2 at hh
  cases e1 : rdO x Γt A with
  | none => rw [e1] at hh; exact hh.elim
  | some a =>
    cases e2 : rdO y Γt A with
    | none => rw [e1, e2] at hh; exact hh.elim
    | some b =>
      rw [e1, e2] at hh
      obtain ⟨t, e, q⟩ := sat_o w hh
      exact h ρ a b _ _ M k t (rd_rel w rx e1) (rd_rel w ry e2) e q
theorem sim_opw {g : F2} {o : D → D → Option D} {fa fb : FE} {a b : Mo Opd} (h : OpT g o) (ha : Sim κ rO fa a) (hb : Sim κ rO fb b) : Sim κ rD (fOp (wOp g) fa fb) (mOpW o a b) := fun ρ Γ =>
  sim_bind (fb := fun x Γ M k kx => fb Γ M (fun y M2 => wOp g x y M2 k) kx) (ha ρ Γ) fun ρ1 x dx _ rx => sim_bind (fb := fun y Γ M k kx => wOp g dx y M k) (hb ρ1 Γ) fun ρ2 y dy p ry => sim_rd2 h (rO_mono p rx) ry

/-! ### ints -/
def t2I (C : Int → Int → Bool) (r : Int → Int → D) (x y : D) : Option D := match x, y with
  | .int i, .int j => if C i j = true then some (r i j) else none
  | _, _ => none
theorem opt_I {C : Int → Int → Prop} {c : Int → Int → Bool} {r : Int → Int → D} (hc : ∀ i j, c i j = true → C i j) (hp : ∀ i j, plain (r i j) = true) : OpT (o2I C r) (t2I c r) := by
  intro ρ x y dx dy M k t rx ry e q
  cases rx with
  | int i =>
    cases ry with
    | int j =>
      simp only [t2I] at e
      split at e
      · rename_i hq
        cases e
        exact ⟨hc _ _ hq, q _ (RT.self (hp _ _))⟩
      · cases e
    | _ => cases e
  | _ => cases e
def cT : Int → Int → Bool := fun _ _ => true
def cMulB (i j : Int) : Bool := (decide (-(2 ^ 64) < i) && decide (i < 2 ^ 64)) || ((decide (-(2 ^ 64) < j) && decide (j < 2 ^ 64)) || decide (i.natAbs.log2 + j.natAbs.log2 < 1000000))
def cModB (_ j : Int) : Bool := decide (0 < j)
def cDivB (_ j : Int) : Bool := decide (0 < j) && decide (j.natAbs.log2 < 9000)
def cPowB (i j : Int) : Bool := decide (0 ≤ j) && (decide (j ≤ 1000000) && decide (i.natAbs < 2 ^ 64))
def tSub := t2I cT fun i j => .int (i - j)
def tMul := t2I cMulB fun i j => .int (i * j)
def tMod := t2I cModB fun i j => .int (i % j)
def tDiv := t2I cDivB fun i j => .int (i / j)
def tPow := t2I cPowB fun i j => .int (i ^ j.toNat)
def tLe := t2I cT fun i j => .bl (decide (i ≤ j))
def tGt := t2I cT fun i j => .bl (decide (j < i))
def tGe := t2I cT fun i j => .bl (decide (j ≤ i))
def tAdd (x y : D) : Option D := match x, y with
  | .int i, .int j => some (.int (i + j))
  | .str i, .str j => if i.length + j.length ≤ sizeLine then some (.str (i ++ j)) else none
  | .lst a, .lst b => if a.length + b.length ≤ sizeLine then some (.lst (a ++ b)) else none
  | .tup a, .tup b => if a.isEmpty = false ∧ a.length + b.length ≤ sizeLine then some (.tup (a ++ b)) else none
  | _, _ => none
def tLt (x y : D) : Option D := match x, y with
  | .int i, .int j => some (.bl (decide (i < j)))
  | .str i, .str j => some (.bl (decide (i.cps.toList < j.cps.toList)))
  | _, _ => none
def tIsN (neg : Bool) (x y : D) : Option D := match y with
  | .non => match x with
    | .non => some (.bl (!neg))
    | _ => some (.bl neg)
  | _ => none
def tEq (neg : Bool) (x y : D) : Option D := if eqOk x = true ∧ eqOk y = true then some (.bl (if neg then !eqD x y else eqD x y)) else none
def tIn (neg : Bool) (x y : D) : Option D := match y with
  | .lst ds => if flatD x = true ∧ ds.all flatD = true then some (.bl (if neg then !inD x ds else inD x ds)) else none
  | .tup ds => if flatD x = true ∧ ds.all flatD = true then some (.bl (if neg then !inD x ds else inD x ds)) else none
  | .str z => match x with
    | .str s => match s.cps.toList with
      | [c] => some (.bl (if neg then !decide (c ∈ z.cps.toList) else decide (c ∈ z.cps.toList)))
      | _ => none
    | _ => none
  | _ => none
def tIx (x y : D) : Option D := match x, y with
  | .lst ds, .int i => L2.atI ds i
  | .tup ds, .int i => L2.atI ds i
  | .scr ns, .int i => (L2.atI ns i).map .int
  | .str s, .int i => if s.length ≤ sizeLine then (L2.atI s.cps.toList i).map fun c => .str ⟨#[c]⟩ else none
  | _, _ => none
theorem opt_add : OpT oAdd tAdd := by
  intro ρ x y dx dy M k t rx ry e q
  cases rx with
  | int i => cases ry with
    | int j => cases e; exact q _ (.int _)
    | _ => cases e
  | str i => cases ry with
    | str j =>
      simp only [tAdd] at e
      split at e
      · rename_i h; cases e; exact ⟨h, q _ (.str _)⟩
      · cases e
    | _ => cases e
  | lst a => cases ry with
    | lst b =>
      simp only [tAdd] at e
      split at e
      · rename_i h; cases e; exact ⟨by rw [a.length, b.length]; exact h, q _ (.lst (a.append b))⟩
      · cases e
    | _ => cases e
  | tup a => cases ry with
    | tup b =>
      simp only [tAdd] at e
      split at e
      · rename_i h; cases e; refine ⟨fun z => ?_, by rw [a.length, b.length]; exact h.2, q _ (.tup (a.append b))⟩
        have hl := a.length
        rw [z] at hl
        have h1 := h.1
        rw [List.eq_nil_of_length_eq_zero hl.symm] at h1
        cases h1
      · cases e
    | _ => cases e
  | _ => cases e
theorem opt_lt : OpT oLt tLt := by
  intro ρ x y dx dy M k t rx ry e q
  cases rx with
  | int i => cases ry with
    | int j => cases e; exact q _ (.bl _)
    | _ => cases e
  | str i => cases ry with
    | str j => cases e; exact q _ (.bl _)
    | _ => cases e
  | _ => cases e
theorem opt_isN {neg : Bool} : OpT (oIsN neg) (tIsN neg) := by
  intro ρ x y dx dy M k t rx ry e q
  cases ry with
  | non =>
    refine ⟨rfl, ?_⟩
    cases rx <;> (cases e; exact q _ (.bl _))
  | _ => cases e
theorem eqOk_plain {x : D} (h : eqOk x = true) : plain x = true := (Bool.and_eq_true_iff.mp h).1
theorem opt_eq : OpT oEq (tEq false) := by
  intro ρ x y dx dy M k t rx ry e q
  unfold tEq at e
  split at e
  · rename_i h
    cases e
    rw [RT.plain x (eqOk_plain h.1) rx, RT.plain y (eqOk_plain h.2) ry]
    exact ⟨h.1, h.2, q _ (.bl _)⟩
  · cases e
theorem opt_ne : OpT oNe (tEq true) := by
  intro ρ x y dx dy M k t rx ry e q
  unfold tEq at e
  split at e
  · rename_i h
    cases e
    rw [RT.plain x (eqOk_plain h.1) rx, RT.plain y (eqOk_plain h.2) ry]
    exact ⟨h.1, h.2, q _ (.bl _)⟩
  · cases e
theorem flat_plain {x : D} (h : flatD x = true) : plain x = true := by cases x <;> first | rfl | cases h
theorem flats_plain : ∀ {xs : List D}, xs.all flatD = true → plains xs = true
  | [], _ => rfl
  | x :: xs, h => by
    rw [List.all_cons, Bool.and_eq_true] at h
    show (Dl.plain x && plains xs) = true
    rw [flat_plain h.1, flats_plain h.2]
    rfl
theorem opt_in {neg : Bool} : OpT (oIn neg) (tIn neg) := by
  intro ρ x y dx dy M k t rx ry e q
  cases ry with
  | lst b =>
    simp only [tIn] at e
    split at e
    · rename_i h
      cases e
      rw [RT.plain x (flat_plain h.1) rx, RTs.plain _ (flats_plain h.2) b]
      exact ⟨h.1, h.2, q _ (.bl _)⟩
    · cases e
  | tup b =>
    simp only [tIn] at e
    split at e
    · rename_i h
      cases e
      rw [RT.plain x (flat_plain h.1) rx, RTs.plain _ (flats_plain h.2) b]
      exact ⟨h.1, h.2, q _ (.bl _)⟩
    · cases e
  | str z =>
    cases rx with
    | str s =>
      simp only [tIn] at e
      split at e
      · rename_i c hc
        cases e
        refine ⟨c, ?_, q _ (.bl _)⟩
        obtain ⟨⟨l⟩⟩ := s
        have hl : l = [c] := hc
        rw [hl]
      · cases e
    | _ => cases e
  | _ => cases e
theorem opt_ix : OpT oIx tIx := by
  intro ρ x y dx dy M k t rx ry e q
  cases ry with
  | int i =>
    cases rx with
    | lst a => obtain ⟨d, h1, h2⟩ := a.atI e; exact ⟨d, h1, q d h2⟩
    | tup a => obtain ⟨d, h1, h2⟩ := a.atI e; exact ⟨d, h1, q d h2⟩
    | scr ns =>
      simp only [tIx, Option.map_eq_some_iff] at e
      obtain ⟨n, h1, rfl⟩ := e
      exact ⟨n, h1, q _ (.int _)⟩
    | str s =>
      simp only [tIx] at e
      split at e
      · rename_i hl
        rw [Option.map_eq_some_iff] at e
        obtain ⟨n, h1, rfl⟩ := e
        exact ⟨hl, n, h1, q _ (.str _)⟩
      · cases e
    | _ => cases e
  | _ => cases rx <;> cases e
end

/-! ### the rules: names, constants, operators -/
theorem mul_any {X : Cx} : OpR X (binaryOp .Mult) (fun x y H Q => rI CMul (fun i j => V.int (i * j)) x y H Q ∨ rI CMulW (fun i j => V.int (i * j)) x y H Q) := Dl.OpR.or op_mul op_mulW
abbrev oMulA : F2 := o2I (fun i j => CMul i j ∨ CMulW i j) fun i j => D.int (i * j)
theorem opd_mulA {K : PySem.W.Frag} : OpD K (fun x y H Q => rI CMul (fun i j => V.int (i * j)) x y H Q ∨ rI CMulW (fun i j => V.int (i * j)) x y H Q) oMulA := by
  intro F H M v w x y k Q R hv hw hg L
  cases hv with
  | int i =>
    cases hw with
    | int j =>
      rcases hg with ⟨h | h, hg⟩
      · exact .inl ⟨i, j, rfl, rfl, h, L.now R hg (.int _)⟩
      · exact .inr ⟨i, j, rfl, rfl, h, L.now R hg (.int _)⟩
    | _ => exact hg.elim
  | _ => exact hg.elim
theorem opd_isN {K : PySem.W.Frag} : OpD K (fun x y H Q => y = V.non ∧ Q (V.bl (decide (x = V.non))) H) (oIsN false) := fun F H M v w x y k Q R hv hw hg L => by
  obtain ⟨rfl, hg⟩ := hg
  cases hw
  refine ⟨rfl, ?_⟩
  cases hv <;> exact L.now R hg (.bl _)
theorem opd_notN {K : PySem.W.Frag} : OpD K (fun x y H Q => y = V.non ∧ Q (V.bl !decide (x = V.non)) H) (oIsN true) := fun F H M v w x y k Q R hv hw hg L => by
  obtain ⟨rfl, hg⟩ := hg
  cases hw
  refine ⟨rfl, ?_⟩
  cases hv <;> exact L.now R hg (.bl _)
section
variable {κ : Kc} {X : Cx} {E : L2.St → XK} {pos : Pos} {e a b c : Expr} {es : List Expr} {ma mb mc : Mo D} {pa pb pc : Mo Opd} {ta tb tc : Mo Bool}
theorem me_v (i : Nat) {x : Str} (hN : X.N[i]? = some x := by rfl) (hv : Vis X.env.scope x := by first | exact Or.inl rfl | exact Or.inr (Or.inl rfl) | exact Or.inr (Or.inr rfl)) (hd : (x == ("__debug__" : Str)) = false := by decide)
    (hcd : (x == ("__classdict__" : Str)) = false := by decide) : ME κ X E (.Name x pos) (mV i) := ⟨_, de_var i hN hv hd hcd, sim_v i⟩
theorem mp_v (i : Nat) {x : Str} (hN : X.N[i]? = some x := by rfl) (hv : Vis X.env.scope x := by first | exact Or.inl rfl | exact Or.inr (Or.inl rfl) | exact Or.inr (Or.inr rfl)) (hd : (x == ("__debug__" : Str)) = false := by decide)
    (hcd : (x == ("__classdict__" : Str)) = false := by decide) : MP κ X E (.Name x pos) (mB i) := ⟨_, de_var i hN hv hd hcd, sim_b i⟩
theorem mp_e (h : ME κ X E e ma) : MP κ X E e (mVal ma) := let ⟨f, d, s⟩ := h.ex; ⟨f, d, sim_val s⟩
theorem me_int {i j} : ME κ X E (.Constant (.int i) j pos) (mC (.int i)) := ⟨_, de_int, sim_c rfl⟩
theorem me_bl {i j} : ME κ X E (.Constant (.bool i) j pos) (mC (.bl i)) := ⟨_, de_bl, sim_c rfl⟩
theorem me_non {j} : ME κ X E (.Constant .none j pos) (mC .non) := ⟨_, de_non, sim_c rfl⟩
theorem me_str {x j} : ME κ X E (.Constant (.str x) j pos) (mC (.str x)) := ⟨_, de_str, sim_c rfl⟩
theorem me_gint {x : Str} {i : Int} (hg : Gl X x) (hm : ∃ t, X.mg x = some (.int i t)) (hd : (x == ("__debug__" : Str)) = false := by decide) : ME κ X E (.Name x pos) (mC (.int i)) := ⟨_, de_gintE hg hm hd, sim_c rfl⟩
theorem me_gstr {x y : Str} (hg : Gl X x) (hm : ∃ t, X.mg x = some (.str y t)) (hd : (x == ("__debug__" : Str)) = false := by decide) : ME κ X E (.Name x pos) (mC (.str y)) := ⟨_, de_gstrE hg hm hd, sim_c rfl⟩
theorem me_opG {g : F2} {o : D → D → Option D} (h : OpT g o) (r : ∀ {fa fb}, DE X E a fa → DE X E b fb → DE X E e (fOp g fa fb)) (ha : ME κ X E a ma) (hb : ME κ X E b mb) : ME κ X E e (mOp o ma mb) :=
  let ⟨_, d1, s1⟩ := ha.ex; let ⟨_, d2, s2⟩ := hb.ex; ⟨_, r d1 d2, sim_op h s1 s2⟩
theorem me_opWG {g : F2} {o : D → D → Option D} (h : OpT g o) (r : ∀ {fa fb}, DE X E a fa → DE X E b fb → DE X E e (fOp (wOp g) fa fb)) (ha : MP κ X E a pa) (hb : MP κ X E b pb) : ME κ X E e (mOpW o pa pb) :=
  let ⟨_, d1, s1⟩ := ha.ex; let ⟨_, d2, s2⟩ := hb.ex; ⟨_, r d1 d2, sim_opw h s1 s2⟩
theorem me_sub (ha : ME κ X E a ma) (hb : ME κ X E b mb) : ME κ X E (.BinOp a .Sub b pos) (mOp tSub ma mb) := me_opG (opt_I (fun _ _ _ => trivial) fun _ _ => rfl) (fun h1 h2 => d_sub h1 h2) ha hb
theorem me_mul (ha : ME κ X E a ma) (hb : ME κ X E b mb) : ME κ X E (.BinOp a .Mult b pos) (mOp tMul ma mb) := me_opG (g := oMulA) (opt_I (fun i j h => by
  simp only [cMulB, Bool.or_eq_true, Bool.and_eq_true, decide_eq_true_eq] at h
  rcases h with h | h | h
  · exact .inl (.inl h)
  · exact .inl (.inr h)
  · exact .inr h) fun _ _ => rfl) (fun h1 h2 => de_op mul_any opd_mulA h1 h2) ha hb
theorem me_mod (ha : ME κ X E a ma) (hb : ME κ X E b mb) : ME κ X E (.BinOp a .Mod b pos) (mOp tMod ma mb) := me_opG (opt_I (fun i j h => by simpa [cModB] using h) fun _ _ => rfl) (fun h1 h2 => d_mod h1 h2) ha hb
theorem me_div (ha : ME κ X E a ma) (hb : ME κ X E b mb) : ME κ X E (.BinOp a .FloorDiv b pos) (mOp tDiv ma mb) := me_opG (opt_I (fun i j h => by
  simp only [cDivB, Bool.and_eq_true, decide_eq_true_eq] at h
  exact h) fun _ _ => rfl) (fun h1 h2 => d_div h1 h2) ha hb
theorem me_pow (ha : ME κ X E a ma) (hb : ME κ X E b mb) : ME κ X E (.BinOp a .Pow b pos) (mOp tPow ma mb) := me_opG (opt_I (fun i j h => by
  simp only [cPowB, Bool.and_eq_true, decide_eq_true_eq] at h
  exact h) fun _ _ => rfl) (fun h1 h2 => d_pow h1 h2) ha hb
theorem me_le (ha : ME κ X E a ma) (hb : ME κ X E b mb) : ME κ X E (.Compare a [.LtE] [b] pos) (mOp tLe ma mb) := me_opG (opt_I (fun _ _ _ => trivial) fun _ _ => rfl) (fun h1 h2 => d_le h1 h2) ha hb
theorem me_gt (ha : ME κ X E a ma) (hb : ME κ X E b mb) : ME κ X E (.Compare a [.Gt] [b] pos) (mOp tGt ma mb) := me_opG (opt_I (fun _ _ _ => trivial) fun _ _ => rfl) (fun h1 h2 => d_gt h1 h2) ha hb
theorem me_ge (ha : ME κ X E a ma) (hb : ME κ X E b mb) : ME κ X E (.Compare a [.GtE] [b] pos) (mOp tGe ma mb) := me_opG (opt_I (fun _ _ _ => trivial) fun _ _ => rfl) (fun h1 h2 => d_ge h1 h2) ha hb
theorem me_lt (ha : ME κ X E a ma) (hb : ME κ X E b mb) : ME κ X E (.Compare a [.Lt] [b] pos) (mOp tLt ma mb) := me_opG opt_lt (fun h1 h2 => d_lt h1 h2) ha hb
theorem me_isN (ha : ME κ X E a ma) (hb : ME κ X E b mb) : ME κ X E (.Compare a [.Is] [b] pos) (mOp (tIsN false) ma mb) := me_opG opt_isN (fun h1 h2 => d_isN h1 h2) ha hb
theorem me_notN (ha : ME κ X E a ma) (hb : ME κ X E b mb) : ME κ X E (.Compare a [.IsNot] [b] pos) (mOp (tIsN true) ma mb) := me_opG opt_isN (fun h1 h2 => d_notN h1 h2) ha hb
theorem me_add (ha : MP κ X E a pa) (hb : MP κ X E b pb) : ME κ X E (.BinOp a .Add b pos) (mOpW tAdd pa pb) := me_opWG opt_add (fun h1 h2 => d_add h1 h2) ha hb
theorem me_eq (hu : X.A.units + 64 < cLine) (ha : MP κ X E a pa) (hb : MP κ X E b pb) : ME κ X E (.Compare a [.Eq] [b] pos) (mOpW (tEq false) pa pb) := me_opWG opt_eq (fun h1 h2 => d_eq hu h1 h2) ha hb
theorem me_ne (hu : X.A.units + 64 < cLine) (ha : MP κ X E a pa) (hb : MP κ X E b pb) : ME κ X E (.Compare a [.NotEq] [b] pos) (mOpW (tEq true) pa pb) := me_opWG opt_ne (fun h1 h2 => d_ne hu h1 h2) ha hb
theorem me_in (ha : MP κ X E a pa) (hb : MP κ X E b pb) (hm : behindInMarks .In b = false := by rfl) : ME κ X E (.Compare a [.In] [b] pos) (mOpW (tIn false) pa pb) := me_opWG opt_in (fun h1 h2 => d_in h1 h2 hm) ha hb
theorem me_nin (ha : MP κ X E a pa) (hb : MP κ X E b pb) (hm : behindInMarks .NotIn b = false := by rfl) : ME κ X E (.Compare a [.NotIn] [b] pos) (mOpW (tIn true) pa pb) := me_opWG opt_in (fun h1 h2 => d_nin h1 h2 hm) ha hb
theorem me_ix (ha : MP κ X E a pa) (hb : MP κ X E b pb) (hs : PlainIx b := by exact fun _ _ => rfl) : ME κ X E (.Subscript a b pos) (mOpW tIx pa pb) := me_opWG opt_ix (fun h1 h2 => d_ix h1 h2 hs) ha hb
/-! ### tests -/
def blO : D → Option Bool
  | .bl b => some b
  | _ => none
def mTest (m : Mo D) : Mo Bool := mBind m fun d => mO (blO d)
theorem sim_test {f : FE} {m : Mo D} (h : Sim κ rD f m) : Sim κ rB (fTest f) (mTest m) := fun ρ Γ =>
  sim_bind (fb := fun d Γ M k kx => ∃ b, d = .bl b ∧ k b M) (h ρ Γ) fun ρ1 x d _ r => sim_o fun M k kx b e q => by
    cases r with
    | bl b' => cases e; exact ⟨_, rfl, q _ rfl⟩
    | _ => cases e
theorem mt_v (h : ME κ X E a ma) (he : ∀ whole, isTrue a X.env whole = (do let v ← whole; standAt a.pos; holding [v] (truthy v)) := by intro _; rfl) : MT κ X E a (mTest ma) := let ⟨_, d, s⟩ := h.ex; ⟨_, dt_val d he, sim_test s⟩
theorem mt_opG {g : F2} {o : D → D → Option D} (h : OpT g o) (r : ∀ {fa fb}, DE X E a fa → DE X E b fb → DT X E e (fTest (fOp g fa fb))) (ha : ME κ X E a ma) (hb : ME κ X E b mb) : MT κ X E e (mTest (mOp o ma mb)) :=
  let ⟨_, d1, s1⟩ := ha.ex; let ⟨_, d2, s2⟩ := hb.ex; ⟨_, r d1 d2, sim_test (sim_op h s1 s2)⟩
theorem mt_opWG {g : F2} {o : D → D → Option D} (h : OpT g o) (r : ∀ {fa fb}, DE X E a fa → DE X E b fb → DT X E e (fTest (fOp (wOp g) fa fb))) (ha : MP κ X E a pa) (hb : MP κ X E b pb) : MT κ X E e (mTest (mOpW o pa pb)) :=
  let ⟨_, d1, s1⟩ := ha.ex; let ⟨_, d2, s2⟩ := hb.ex; ⟨_, r d1 d2, sim_test (sim_opw h s1 s2)⟩
theorem mt_le (ha : ME κ X E a ma) (hb : ME κ X E b mb) : MT κ X E (.Compare a [.LtE] [b] pos) (mTest (mOp tLe ma mb)) := mt_opG (opt_I (fun _ _ _ => trivial) fun _ _ => rfl) (fun h1 h2 => t_le h1 h2) ha hb
theorem mt_gt (ha : ME κ X E a ma) (hb : ME κ X E b mb) : MT κ X E (.Compare a [.Gt] [b] pos) (mTest (mOp tGt ma mb)) := mt_opG (opt_I (fun _ _ _ => trivial) fun _ _ => rfl) (fun h1 h2 => t_gt h1 h2) ha hb
theorem mt_ge (ha : ME κ X E a ma) (hb : ME κ X E b mb) : MT κ X E (.Compare a [.GtE] [b] pos) (mTest (mOp tGe ma mb)) := mt_opG (opt_I (fun _ _ _ => trivial) fun _ _ => rfl) (fun h1 h2 => t_ge h1 h2) ha hb
theorem mt_lt (ha : ME κ X E a ma) (hb : ME κ X E b mb) : MT κ X E (.Compare a [.Lt] [b] pos) (mTest (mOp tLt ma mb)) := mt_opG opt_lt (fun h1 h2 => t_lt h1 h2) ha hb
theorem mt_isN (ha : ME κ X E a ma) (hb : ME κ X E b mb) : MT κ X E (.Compare a [.Is] [b] pos) (mTest (mOp (tIsN false) ma mb)) := mt_opG opt_isN (fun h1 h2 => dt_cmp op_isN opd_isN h1 h2 (nomark _)) ha hb
theorem mt_notN (ha : ME κ X E a ma) (hb : ME κ X E b mb) : MT κ X E (.Compare a [.IsNot] [b] pos) (mTest (mOp (tIsN true) ma mb)) := mt_opG opt_isN (fun h1 h2 => dt_cmp op_notN opd_notN h1 h2 (nomark _)) ha hb
theorem mt_eq (hu : X.A.units + 64 < cLine) (ha : MP κ X E a pa) (hb : MP κ X E b pb) : MT κ X E (.Compare a [.Eq] [b] pos) (mTest (mOpW (tEq false) pa pb)) := mt_opWG opt_eq (fun h1 h2 => t_eq hu h1 h2) ha hb
theorem mt_ne (hu : X.A.units + 64 < cLine) (ha : MP κ X E a pa) (hb : MP κ X E b pb) : MT κ X E (.Compare a [.NotEq] [b] pos) (mTest (mOpW (tEq true) pa pb)) := mt_opWG opt_ne (fun h1 h2 => t_ne hu h1 h2) ha hb
theorem mt_in (ha : MP κ X E a pa) (hb : MP κ X E b pb) (hm : behindInMarks .In b = false := by rfl) : MT κ X E (.Compare a [.In] [b] pos) (mTest (mOpW (tIn false) pa pb)) := mt_opWG opt_in (fun h1 h2 => t_in h1 h2 hm) ha hb
theorem mt_nin (ha : MP κ X E a pa) (hb : MP κ X E b pb) (hm : behindInMarks .NotIn b = false := by rfl) : MT κ X E (.Compare a [.NotIn] [b] pos) (mTest (mOpW (tIn true) pa pb)) := mt_opWG opt_in (fun h1 h2 => t_nin h1 h2 hm) ha hb
end
end Fl

set_option Elab.async false
set_option linter.all false
set_option maxRecDepth 100000
set_option maxHeartbeats 2000000
/-! E3: and, or, not, if; arguments, displays, slices; updates of cells; built-in calls. -/
namespace Fl
open PySem PySem.Spec PyProof.Rows L2 Dl
def mIte {α : Type} (v : Bool) (a b : Mo α) : Mo α := fun Γ A => if v = true then a Γ A else b Γ A
def onB {α : Type} (x : D) (f : Bool → Mo α) : Mo α := match x with
  | .bl v => f v
  | _ => fun _ _ => .no
def mAnd (a b : Mo Bool) : Mo Bool := mBind a fun v => mIte v b (mRet false)
def mOr (a b : Mo Bool) : Mo Bool := mBind a fun v => mIte v (mRet true) b
def mNot (a : Mo Bool) : Mo Bool := mBind a fun v => mRet (!v)
def mAndV (a b : Mo D) : Mo D := mBind a fun x => onB x fun v => mIte v b (mRet (.bl false))
def mOrV (a b : Mo D) : Mo D := mBind a fun x => onB x fun v => mIte v (mRet (.bl true)) b
def mNotV (a : Mo D) : Mo D := mBind a fun x => onB x fun v => mRet (.bl (!v))
def mIf (c : Mo Bool) (a b : Mo D) : Mo D := mBind c fun v => mIte v a b
section
variable {κ : Kc} {ρ : List Addr} {Γ : GE} {α β : Type} {rel : Rl α β}
theorem sim_ite {v : Bool} {f g : FX β} {a b : Mo α} (h1 : v = true → SimAt κ rel ρ Γ f a) (h2 : v = false → SimAt κ rel ρ Γ g b) : SimAt κ rel ρ Γ (fun Γ M k kx => if v = true then f Γ M k kx else g Γ M k kx) (mIte v a b) := fun Γt A M k kx w h => by
  cases v with
  | true => exact h1 rfl Γt A M k kx w h
  | false => exact h2 rfl Γt A M k kx w h
theorem sim_onB {x d : D} {fb : Bool → FX β} {g : Bool → Mo α} (r : RT ρ x d) (h : ∀ v, SimAt κ rel ρ Γ (fb v) (g v)) : SimAt κ rel ρ Γ (fun Γ M k kx => ∃ b, d = .bl b ∧ fb b Γ M k kx) (onB x g) := fun Γt A M k kx w hh => by
  cases r with
  | bl b => exact ⟨b, rfl, h b Γt A M k kx w hh⟩
  | _ => exact hh.elim
end
section
variable {κ : Kc} {X : Cx} {E : L2.St → XK} {pos p2 p : Pos} {e a b c : Expr} {es rest : List Expr} {ma mb mc : Mo D} {pa pb pc : Mo Opd} {ta tb tc : Mo Bool} {as : Mo (List D)}
theorem mw_and1 (h : MT κ X E a ta) : MW κ X E (.BoolOp .And [a] pos) ta := let ⟨_, d, s⟩ := h.ex; ⟨_, dw_and1 d, s⟩
theorem mw_or1 (h : MT κ X E a ta) : MW κ X E (.BoolOp .Or [a] pos) ta := let ⟨_, d, s⟩ := h.ex; ⟨_, dw_or1 d, s⟩
theorem mw_and (h : MT κ X E a ta) (h' : MW κ X E (.BoolOp .And (b :: rest) pos) tb) : MW κ X E (.BoolOp .And (a :: b :: rest) pos) (mAnd ta tb) := let ⟨f, d, s⟩ := h.ex; let ⟨g, d', s'⟩ := h'.ex
  ⟨_, dw_and d d', fun ρ Γ => sim_bind (rel := rB) (fb := fun v Γ M k kx => if v = true then g Γ M k kx else k false M) (s ρ Γ) fun ρ1 v v' _ r => by
    cases r
    exact sim_ite (g := fun _ M k _ => k false M) (fun _ => s' ρ1 Γ) fun _ => sim_ret fun M k kx q => q _ rfl⟩
theorem mw_or (h : MT κ X E a ta) (h' : MW κ X E (.BoolOp .Or (b :: rest) pos) tb) : MW κ X E (.BoolOp .Or (a :: b :: rest) pos) (mOr ta tb) := let ⟨f, d, s⟩ := h.ex; let ⟨g, d', s'⟩ := h'.ex
  ⟨_, dw_or d d', fun ρ Γ => sim_bind (rel := rB) (fb := fun v Γ M k kx => if v = true then k true M else g Γ M k kx) (s ρ Γ) fun ρ1 v v' _ r => by
    cases r
    exact sim_ite (f := fun _ M k _ => k true M) (fun _ => sim_ret fun M k kx q => q _ rfl) fun _ => s' ρ1 Γ⟩
theorem mt_w (h : MW κ X E a ta) : MT κ X E a ta := let ⟨_, d, s⟩ := h.ex; ⟨_, dt_w d, s⟩
theorem mt_not (h : MT κ X E a ta) : MT κ X E (.UnaryOp .Not a pos) (mNot ta) := let ⟨f, d, s⟩ := h.ex
  ⟨_, dt_not d, fun ρ Γ => sim_bind (rel := rB) (fb := fun v Γ M k kx => k (!v) M) (s ρ Γ) fun ρ1 v v' _ r => by
    cases r
    exact sim_ret fun M k kx q => q _ rfl⟩
theorem me_one {op} (h : ME κ X E a ma) : ME κ X E (.BoolOp op [a] pos) ma := let ⟨_, d, s⟩ := h.ex; ⟨_, de_one d, s⟩
theorem me_and (h : ME κ X E a ma) (h' : ME κ X E (.BoolOp .And (b :: rest) pos) mb) : ME κ X E (.BoolOp .And (a :: b :: rest) pos) (mAndV ma mb) := let ⟨f, d, s⟩ := h.ex; let ⟨g, d', s'⟩ := h'.ex
  ⟨_, de_and d d', fun ρ Γ => sim_bind (rel := rD) (fb := fun x Γ M k kx => ∃ b, x = D.bl b ∧ if b = true then g Γ M k kx else k (D.bl false) M) (s ρ Γ) fun ρ1 x d _ r =>
    sim_onB (rel := rD) r fun v => sim_ite (rel := rD) (g := fun _ M k _ => k (D.bl false) M) (fun _ => s' ρ1 Γ) fun _ => sim_ret fun M k kx q => q (D.bl _) (.bl _)⟩
theorem me_or (h : ME κ X E a ma) (h' : ME κ X E (.BoolOp .Or (b :: rest) pos) mb) : ME κ X E (.BoolOp .Or (a :: b :: rest) pos) (mOrV ma mb) := let ⟨f, d, s⟩ := h.ex; let ⟨g, d', s'⟩ := h'.ex
  ⟨_, de_or d d', fun ρ Γ => sim_bind (rel := rD) (fb := fun x Γ M k kx => ∃ b, x = D.bl b ∧ if b = true then k (D.bl true) M else g Γ M k kx) (s ρ Γ) fun ρ1 x d _ r =>
    sim_onB (rel := rD) r fun v => sim_ite (rel := rD) (f := fun _ M k _ => k (D.bl true) M) (fun _ => sim_ret fun M k kx q => q (D.bl true) (.bl _)) fun _ => s' ρ1 Γ⟩
theorem me_not (h : ME κ X E a ma) : ME κ X E (.UnaryOp .Not a pos) (mNotV ma) := let ⟨f, d, s⟩ := h.ex
  ⟨_, de_not d, fun ρ Γ => sim_bind (rel := rD) (fb := fun x Γ M k kx => ∃ b, x = D.bl b ∧ k (D.bl (!b)) M) (s ρ Γ) fun ρ1 x d _ r =>
    sim_onB (rel := rD) (fb := fun b Γ M k kx => k (D.bl (!b)) M) r fun v => sim_ret fun M k kx q => q _ (.bl _)⟩
theorem me_if (h : MT κ X E c tc) (ha : ME κ X E a ma) (hb : ME κ X E b mb) : ME κ X E (.IfExp c a b pos) (mIf tc ma mb) := let ⟨f, d, s⟩ := h.ex; let ⟨fa, d1, s1⟩ := ha.ex; let ⟨fb, d2, s2⟩ := hb.ex
  ⟨_, de_if d d1 d2, fun ρ Γ => sim_bind (fb := fun v Γ M k kx => if v = true then fa Γ M k kx else fb Γ M k kx) (s ρ Γ) fun ρ1 v v' _ r => by
    cases r
    exact sim_ite (fun _ => s1 ρ1 Γ) fun _ => s2 ρ1 Γ⟩
def t1I (r : Int → D) (x : D) : Option D := match x with
  | .int i => some (r i)
  | _ => none
def mUn (o : D → Option D) (a : Mo D) : Mo D := mBind a fun x => mO (o x)
theorem me_neg (h : ME κ X E a ma) : ME κ X E (.UnaryOp .USub a pos) (mUn (t1I fun i => .int (-i)) ma) := let ⟨f, d, s⟩ := h.ex
  ⟨_, d_neg d, fun ρ Γ => sim_bind (fb := fun x Γ M k kx => o1I (fun i => D.int (-i)) x M k) (s ρ Γ) fun ρ1 x d _ r => sim_o fun M k kx t e q => by
    cases r with
    | int i => cases e; exact q _ (.int _)
    | _ => cases e⟩
/-- a op b op' c, ints -/
def mChain (o o' : D → D → Option D) (a b c : Mo D) : Mo D := mBind a fun x => mBind b fun y => mBind (mO (o x y)) fun z => onB z fun v => mIte v (mBind c fun w => mO (o' y w)) (mRet (.bl false))
theorem sim_chain {g g' : F2} {o o' : D → D → Option D} {fa fb fc : FE} (h : OpT g o) (h' : OpT g' o') (ha : Sim κ rD fa ma) (hb : Sim κ rD fb mb) (hc : Sim κ rD fc mc) : Sim κ rD (fChain g g' fa fb fc) (mChain o o' ma mb mc) := fun ρ Γ =>
  sim_bind (fb := fun x Γ M k kx => fb Γ M (fun y M2 => g x y M2 fun z M3 => ∃ b, z = D.bl b ∧ if b = true then fc Γ M3 (fun w M4 => g' y w M4 k) kx else k (D.bl false) M3) kx) (ha ρ Γ) fun ρ1 x dx _ rx =>
  sim_bind (fb := fun y Γ M k kx => g dx y M fun z M3 => ∃ b, z = D.bl b ∧ if b = true then fc Γ M3 (fun w M4 => g' y w M4 k) kx else k (D.bl false) M3) (hb ρ1 Γ) fun ρ2 y dy p ry =>
  sim_bind (ra := rD) (fa := fun Γ M k kx => g dx dy M k) (fb := fun z Γ M k kx => ∃ b, z = D.bl b ∧ if b = true then fc Γ M (fun w M4 => g' dy w M4 k) kx else k (D.bl false) M) (sim_o fun M k kx t e q => h ρ2 x y dx dy M k t (RT.mono p _ rx) ry e q) fun ρ3 z dz p3 rz =>
    sim_onB (rel := rD) rz fun v => sim_ite (f := fun Γ M k kx => fc Γ M (fun w M4 => g' dy w M4 k) kx) (g := fun _ M k _ => k (.bl false) M) (fun _ => sim_bind (fb := fun w Γ M k kx => g' dy w M k) (hc ρ3 Γ) fun ρ4 w dw p4 rw' => sim_o fun M k kx t e q => h' ρ4 y w dy dw M k t (RT.mono (p3.trans p4) _ ry) rw' e q) fun _ => sim_ret fun M k kx q => q _ (.bl _)
theorem t2_opt {r : Int → Int → Bool} : OpT (o2I (fun _ _ => True) fun i j => .bl (r i j)) (t2I cT fun i j => .bl (r i j)) := opt_I (fun _ _ _ => trivial) fun _ _ => rfl
theorem me_leLe (ha : ME κ X E a ma) (hb : ME κ X E b mb) (hc : ME κ X E c mc) (hm : lastMarks [.LtE, .LtE] [b, c] = false := by with_unfolding_all rfl) : ME κ X E (.Compare a [.LtE, .LtE] [b, c] pos) (mChain tLe tLe ma mb mc) :=
  let ⟨_, d1, s1⟩ := ha.ex; let ⟨_, d2, s2⟩ := hb.ex; let ⟨_, d3, s3⟩ := hc.ex; ⟨_, de_chain op_le (opd_I0 fun _ _ _ _ => .bl _) op_le (opd_I0 fun _ _ _ _ => .bl _) d1 d2 d3 hm, sim_chain t2_opt t2_opt s1 s2 s3⟩
theorem mt_leLe (ha : ME κ X E a ma) (hb : ME κ X E b mb) (hc : ME κ X E c mc) (hm : lastMarks [.LtE, .LtE] [b, c] = false := by with_unfolding_all rfl) : MT κ X E (.Compare a [.LtE, .LtE] [b, c] pos) (mTest (mChain tLe tLe ma mb mc)) :=
  let ⟨_, d1, s1⟩ := ha.ex; let ⟨_, d2, s2⟩ := hb.ex; let ⟨_, d3, s3⟩ := hc.ex; ⟨_, dt_chain op_le (opd_I0 fun _ _ _ _ => .bl _) op_le (opd_I0 fun _ _ _ _ => .bl _) d1 d2 d3 hm, sim_test (sim_chain t2_opt t2_opt s1 s2 s3)⟩
theorem me_leLt (ha : ME κ X E a ma) (hb : ME κ X E b mb) (hc : ME κ X E c mc) (hm : lastMarks [.LtE, .Lt] [b, c] = false := by with_unfolding_all rfl) : ME κ X E (.Compare a [.LtE, .Lt] [b, c] pos) (mChain tLe tLt ma mb mc) :=
  let ⟨_, d1, s1⟩ := ha.ex; let ⟨_, d2, s2⟩ := hb.ex; let ⟨_, d3, s3⟩ := hc.ex; ⟨_, de_chain op_le (opd_I0 fun _ _ _ _ => .bl _) (Dl.OpR.or op_lt op_lt_str) opd_lt d1 d2 d3 hm, sim_chain t2_opt opt_lt s1 s2 s3⟩
/-! ### arguments, displays, slices -/
def mNil : Mo (List D) := mRet []
def mCons (a : Mo D) (as : Mo (List D)) : Mo (List D) := mBind a fun x => mBind as fun xs => mRet (x :: xs)
def lstO (xs : List D) : Option D := if xs.length ≤ sizeLine then some (.lst xs) else none
def tupO (xs : List D) : Option D := if xs.length ≤ sizeLine then some (.tup xs) else none
def mLst (as : Mo (List D)) : Mo D := mBind as fun xs => mO (lstO xs)
def mTup (as : Mo (List D)) : Mo D := mBind as fun xs => mO (tupO xs)
theorem ma_nil : MA κ X E [] mNil := ⟨_, da_nil, fun ρ Γ => sim_ret fun M k kx q => q _ .nil⟩
theorem ma_cons (ha : ME κ X E a ma) (hr : MA κ X E es as) (hs : starEach (a :: es) X.env = (false, eval a X.env) :: starEach es X.env := by rfl) : MA κ X E (a :: es) (mCons ma as) := let ⟨f, d, s⟩ := ha.ex; let ⟨g, d', s'⟩ := hr.ex
  ⟨_, da_cons d d' hs, fun ρ Γ => sim_bind (rel := rA) (fb := fun x Γ M k kx => g Γ M (fun xs M2 => k (x :: xs) M2) kx) (s ρ Γ) fun ρ1 x dx _ rx => sim_bind (fb := fun xs Γ M k kx => k (dx :: xs) M) (s' ρ1 Γ) fun ρ2 xs ds p rs => sim_ret fun M k kx q => q _ (.cons (RT.mono p _ rx) rs)⟩
theorem me_lst (h : MA κ X E es as) : ME κ X E (.List es pos) (mLst as) := let ⟨f, d, s⟩ := h.ex
  ⟨_, de_lst d, fun ρ Γ => sim_bind (rel := rD) (fb := fun (ds : List D) Γ M k kx => ds.length ≤ sizeLine ∧ k (D.lst ds) M) (s ρ Γ) fun ρ1 xs ds _ rs => sim_o (o := lstO xs) fun M k kx t e q => by
    unfold lstO at e
    split at e
    · rename_i hl; cases e; exact ⟨by rw [RTs.length rs]; exact hl, q _ (.lst rs)⟩
    · cases e⟩
theorem me_tup {x1} (h : MA κ X E es as) : ME κ X E (.Tuple es x1 pos) (mTup as) := let ⟨f, d, s⟩ := h.ex
  ⟨_, de_tup d, fun ρ Γ => sim_bind (rel := rD) (fb := fun (ds : List D) Γ M k kx => ds.length ≤ sizeLine ∧ k (D.tup ds) M) (s ρ Γ) fun ρ1 xs ds _ rs => sim_o (o := tupO xs) fun M k kx t e q => by
    unfold tupO at e
    split at e
    · rename_i hl; cases e; exact ⟨by rw [RTs.length rs]; exact hl, q _ (.tup rs)⟩
    · cases e⟩
def intO : D → Option (Option Int)
  | .int i => some (some i)
  | _ => none
def mNoP : Mo (Option Int) := mRet none
def mPart (a : Mo D) : Mo (Option Int) := mBind a fun x => mO (intO x)
theorem mo_none : MO κ X E none mNoP := ⟨_, do_none, fun ρ Γ => sim_ret fun M k kx q => q _ rfl⟩
theorem mo_some (h : ME κ X E a ma) : MO κ X E (some a) (mPart ma) := let ⟨f, d, s⟩ := h.ex
  ⟨_, do_some d, fun ρ Γ => sim_bind (rel := rOI) (fb := fun x Γ M k kx => ∃ i, x = D.int i ∧ k (some i) M) (s ρ Γ) fun ρ1 x d _ r => sim_o fun M k kx t e q => by
    cases r with
    | int i => cases e; exact ⟨_, rfl, q _ rfl⟩
    | _ => cases e⟩
def tCut (lo hi : Option Int) (x : D) : Option D := match x with
  | .lst ds => some (.lst (Dl.cutD ds lo hi))
  | .scr ns => some (.lst ((Dl.cutD ns lo hi).map .int))
  | .tup ds => if (HT.sIx ds.length 0 lo = 0 ∧ HT.sIx ds.length ds.length hi = ds.length) then none else some (.tup (Dl.cutD ds lo hi))
  | .str z => if z.length ≤ sizeLine then some (.str (cutS z lo hi)) else none
  | _ => none
def mSl (a : Mo Opd) (l h : Mo (Option Int)) : Mo D := mBind a fun x => mBind l fun lo => mBind h fun hi => mRd1 (tCut lo hi) x
def OpT1 (g : D → MS → KD → Prop) (o : D → Option D) : Prop := ∀ (ρ : List Addr) (x dx : D) (M : MS) (k : KD) (t : D), RT ρ x dx → o x = some t → (∀ d, RT ρ t d → k d M) → g dx M k
theorem sim_rd1 {ρ : List Addr} {Γ : GE} {g : D → MS → KD → Prop} {o : D → Option D} {x : Opd} {dx : D} (h : OpT1 g o) (rx : rO ρ Γ x dx) : SimAt κ rD ρ Γ (fun Γ M k kx => g (vw M dx) M k) (mRd1 o x) := fun Γt A M k kx w hh => by
  unfold mRd1 at hh
  cases e1 : rdO x Γt A with
  | none => rw [e1] at hh; exact hh.elim
  | some a =>
    rw [e1] at hh
    obtain ⟨t, e, q⟩ := sat_o w hh
    exact h ρ a _ M k t (rd_rel w rx e1) e q
theorem opt_cut {lo hi : Option Int} : OpT1 (fun x M k => sCut x lo hi M k) (tCut lo hi) := by
  intro ρ x dx M k t r e q
  cases r with
  | lst a => cases e; exact q _ (.lst a.cut)
  | scr ns => cases e; exact q _ (.lst (RTs.ints _))
  | tup a =>
    simp only [tCut] at e
    split at e
    · cases e
    · rename_i hl; cases e; exact ⟨by rw [a.length]; exact hl, q _ (.tup a.cut)⟩
  | str z =>
    simp only [tCut] at e
    split at e
    · rename_i hl; cases e; exact ⟨hl, q _ (.str _)⟩
    · cases e
  | _ => cases e
theorem me_sl {lo hi : Option Expr} {ml mh : Mo (Option Int)} (h : MP κ X E a pa) (hl : MO κ X E lo ml) (hh : MO κ X E hi mh) : ME κ X E (.Subscript a (.Slice lo hi none p2) pos) (mSl pa ml mh) := let ⟨f, d, s⟩ := h.ex; let ⟨fl, d1, s1⟩ := hl.ex; let ⟨fh, d2, s2⟩ := hh.ex
  ⟨_, d_sl d d1 d2, fun ρ Γ => sim_bind (fb := fun x Γ M k kx => fl Γ M (fun lo M2 => fh Γ M2 (fun hi M3 => wSl x lo hi M3 k) kx) kx) (s ρ Γ) fun ρ1 x dx _ rx => sim_bind (fb := fun lo Γ M k kx => fh Γ M (fun hi M3 => wSl dx lo hi M3 k) kx) (s1 ρ1 Γ) fun ρ2 lo lo' p2 rl => by
    cases rl
    exact sim_bind (fb := fun hi Γ M k kx => wSl dx lo hi M k) (s2 ρ2 Γ) fun ρ3 hi hi' p3 rh => by
      cases rh
      exact sim_rd1 opt_cut (rO_mono (p2.trans p3) rx)⟩
/-! ### built-in calls of one argument -/
def m1 (o : D → Option D) (a : Mo D) : Mo D := mBind a fun x => mO (o x)
def m1W (o : D → Option D) (a : Mo Opd) : Mo D := mBind a fun x => mRd1 o x
def Op1 (g : FN) (o : D → Option D) : Prop := OpT1 (fun d M k => g [d] M k) o
theorem sim_1 {g : FN} {o : D → Option D} {f : FE} {m : Mo D} (h : Op1 g o) (s : Sim κ rD f m) : Sim κ rD (fCB g (fCons f fNil)) (m1 o m) := fun ρ Γ =>
  sim_bind (fb := fun x Γ M k kx => g [x] M k) (s ρ Γ) fun ρ1 x dx _ r => sim_o fun M k kx t e q => h ρ1 x dx M k t r e q
theorem sim_1W {g : FN} {o : D → Option D} {f : FE} {m : Mo Opd} (h : Op1 g o) (s : Sim κ rO f m) : Sim κ rD (fCB (wCB g) (fCons f fNil)) (m1W o m) := fun ρ Γ =>
  sim_bind (fb := fun x Γ M k kx => wCB g [x] M k) (s ρ Γ) fun ρ1 x dx _ r => sim_rd1 h r
def tLen : D → Option D
  | .str s => if s.length ≤ sizeLine then some (.int s.length) else none
  | .lst xs => some (.int xs.length)
  | .tup xs => some (.int xs.length)
  | .scr ns => some (.int ns.length)
  | _ => none
def tAbs : D → Option D
  | .int i => some (.int (if i < 0 then -i else i))
  | _ => none
def tInt : D → Option D
  | .int i => some (.int i)
  | .bl b => some (.int (if b then 1 else 0))
  | _ => none
def boolsOf : List D → Option (List Bool)
  | [] => some []
  | .bl b :: r => (boolsOf r).map (b :: ·)
  | _ :: _ => none
theorem boolsOf_ok : ∀ {xs : List D} {bs : List Bool}, boolsOf xs = some bs → xs = bs.map .bl
  | [], _, e => by cases e; rfl
  | x :: r, bs, e => by
    cases x with
    | bl b =>
      simp only [boolsOf, Option.map_eq_some_iff] at e
      obtain ⟨l, h, rfl⟩ := e
      rw [boolsOf_ok h]
      rfl
    | _ => cases e
def tAll : D → Option D
  | .lst xs => (boolsOf xs).map fun bs => .bl (bs.all id)
  | _ => none
def tList : D → Option D
  | .lst xs => some (.lst xs)
  | .tup xs => some (.lst xs)
  | .scr ns => some (.lst (ns.map .int))
  | .str z => if z.length ≤ sizeLine then some (.lst (z.cps.toList.map fun c => .str ⟨#[c]⟩)) else none
  | _ => none
def tTuple : D → Option D
  | .lst xs => some (.tup xs)
  | .tup xs => some (.tup xs)
  | _ => none
instance {d : D} : Decidable (shownOk d) := by unfold shownOk; infer_instance
def tRepr (d : D) : Option D := if shownOk d then some (.str (toPy d).shown) else none
theorem op1_len : Op1 gLen tLen := by
  intro ρ x dx M k t r e q
  cases r with
  | str s =>
    simp only [tLen] at e
    split at e
    · rename_i h; cases e; exact ⟨h, q _ (.int _)⟩
    · cases e
  | lst a => cases e; show k (.int _) M; rw [a.length]; exact q _ (.int _)
  | tup a => cases e; show k (.int _) M; rw [a.length]; exact q _ (.int _)
  | scr ns => cases e; exact q _ (.int _)
  | _ => cases e
theorem op1_abs : Op1 gAbs tAbs := by
  intro ρ x dx M k t r e q
  cases r with
  | int i => cases e; exact q _ (.int _)
  | _ => cases e
theorem op1_int : Op1 gInt tInt := by
  intro ρ x dx M k t r e q
  cases r with
  | int i => cases e; exact q _ (.int _)
  | bl i => cases e; exact q _ (.int _)
  | _ => cases e
theorem op1_all : Op1 gAll tAll := by
  intro ρ x dx M k t r e q
  cases r with
  | lst a =>
    simp only [tAll, Option.map_eq_some_iff] at e
    obtain ⟨bs, h, rfl⟩ := e
    rw [boolsOf_ok h] at a
    rw [RTs.of_bls a]
    exact ⟨bs, rfl, q _ (.bl _)⟩
  | _ => cases e
theorem RTs.signs {ρ : List Addr} : ∀ l : List Nat, RTs ρ (l.map fun c => D.str ⟨#[c]⟩) (l.map fun c => D.str ⟨#[c]⟩)
  | [] => .nil
  | c :: l => .cons (.str _) (RTs.signs l)
theorem op1_list : Op1 gList tList := by
  intro ρ x dx M k t r e q
  cases r with
  | lst a => cases e; exact q _ (.lst a)
  | tup a => cases e; exact q _ (.lst a)
  | scr ns => cases e; exact q _ (.lst (RTs.ints _))
  | str s =>
    simp only [tList] at e
    split at e
    · rename_i h; cases e; exact ⟨h, q _ (.lst (RTs.signs _))⟩
    · cases e
  | _ => cases e
theorem op1_tuple : Op1 gTuple tTuple := by
  intro ρ x dx M k t r e q
  cases r with
  | lst a => cases e; exact q _ (.tup a)
  | tup a => cases e; exact q _ (.tup a)
  | _ => cases e
theorem op1_repr : Op1 gRepr tRepr := by
  intro ρ x dx M k t r e q
  unfold tRepr at e
  split at e
  · rename_i h
    cases e
    rw [RT.plain x h.1 r]
    exact ⟨x, rfl, h, q _ (.str _)⟩
  · cases e
theorem me_len (hg : Gl X "len") (hm : X.mg "len" = none) (ha : MP κ X E a pa) (he : starEach [a] X.env = (false, eval a X.env) :: starEach [] X.env := by rfl) : ME κ X E (.Call (.Name "len" p) [a] [] pos) (m1W tLen pa) := let ⟨_, d, s⟩ := ha.ex; ⟨_, c_len hg hm (da_cons d da_nil he) he, sim_1W op1_len s⟩
theorem me_abs (hg : Gl X "abs") (hm : X.mg "abs" = none) (ha : ME κ X E a ma) (he : starEach [a] X.env = (false, eval a X.env) :: starEach [] X.env := by rfl) : ME κ X E (.Call (.Name "abs" p) [a] [] pos) (m1 tAbs ma) := let ⟨_, d, s⟩ := ha.ex; ⟨_, c_abs hg hm (da_cons d da_nil he) he, sim_1 op1_abs s⟩
theorem me_intc (hg : Gl X "int") (hm : X.mg "int" = none) (ha : ME κ X E a ma) (he : starEach [a] X.env = (false, eval a X.env) :: starEach [] X.env := by rfl) : ME κ X E (.Call (.Name "int" p) [a] [] pos) (m1 tInt ma) := let ⟨_, d, s⟩ := ha.ex; ⟨_, c_int hg hm (da_cons d da_nil he) he, sim_1 op1_int s⟩
theorem me_all (hc : X.calm = true) (hg : Gl X "all") (hm : X.mg "all" = none) (ha : MP κ X E a pa) (he : starEach [a] X.env = (false, eval a X.env) :: starEach [] X.env := by rfl) : ME κ X E (.Call (.Name "all" p) [a] [] pos) (m1W tAll pa) := let ⟨_, d, s⟩ := ha.ex; ⟨_, c_all hc hg hm (da_cons d da_nil he) he, sim_1W op1_all s⟩
theorem me_listc (hc : X.calm = true) (hg : Gl X "list") (hm : X.mg "list" = none) (ha : MP κ X E a pa) (he : starEach [a] X.env = (false, eval a X.env) :: starEach [] X.env := by rfl) : ME κ X E (.Call (.Name "list" p) [a] [] pos) (m1W tList pa) := let ⟨_, d, s⟩ := ha.ex; ⟨_, c_list hc hg hm (da_cons d da_nil he) he, sim_1W op1_list s⟩
theorem me_tuplec (hg : Gl X "tuple") (hm : X.mg "tuple" = none) (ha : MP κ X E a pa) (he : starEach [a] X.env = (false, eval a X.env) :: starEach [] X.env := by rfl) : ME κ X E (.Call (.Name "tuple" p) [a] [] pos) (m1W tTuple pa) := let ⟨_, d, s⟩ := ha.ex; ⟨_, c_tuple hg hm (da_cons d da_nil he) he, sim_1W op1_tuple s⟩
theorem me_repr (hgd : X.A.guards = some []) (hu : X.A.units + 64 < cLine) (hg : Gl X "repr") (hm : X.mg "repr" = none) (ha : MP κ X E a pa) (he : starEach [a] X.env = (false, eval a X.env) :: starEach [] X.env := by rfl) : ME κ X E (.Call (.Name "repr" p) [a] [] pos) (m1W tRepr pa) := let ⟨_, d, s⟩ := ha.ex; ⟨_, c_repr hgd hu hg hm (da_cons d da_nil he) he, sim_1W op1_repr s⟩
end
end Fl

set_option Elab.async false
set_option linter.all false
set_option maxRecDepth 100000
set_option maxHeartbeats 2000000
/-! E4: statements of the functional layer. -/
namespace Fl
open PySem PySem.Spec PyProof.Rows L2 Dl
inductive RS where
  | nx (Γ : SG) (A : AH) | ret (d : D) (Γ : SG) (A : AH) | brk (Γ : SG) (A : AH) | cnt (Γ : SG) (A : AH) | exc (C : Nat) (fs : List (Str × D)) (Γ : SG) (A : AH) | no
abbrev Ms := SG → AH → RS
def R.toS {α : Type} (r : R α) (f : α → Ms) : RS := match r with
  | .ok a Γ A => f a Γ A
  | .exc C fs Γ A => .exc C fs Γ A
  | .no => .no
def mE {α : Type} (m : Mo α) (f : α → Ms) : Ms := fun Γ A => (m Γ A).toS f
def RS.seq (r : RS) (f : Ms) : RS := match r with
  | .nx Γ A => f Γ A
  | r => r
def mSeq (a b : Ms) : Ms := fun Γ A => (a Γ A).seq b
def SatS (κ : Kc) (o : RS) (ρ : List Addr) (Γt : SG) (A : AH) (Γ : GE) (M : MS) (N : Nd) : Prop := match o with
  | .nx Γt' A' => ∀ ρ' Γ' M', Wd κ ρ' Γt' A' Γ' M' → Stp ρ A M (Own Γt Γ) ρ' A' M' (Own Γt' Γ') → N.nx Γ' M'
  | .brk Γt' A' => ∀ ρ' Γ' M', Wd κ ρ' Γt' A' Γ' M' → Stp ρ A M (Own Γt Γ) ρ' A' M' (Own Γt' Γ') → N.bk Γ' M'
  | .cnt Γt' A' => ∀ ρ' Γ' M', Wd κ ρ' Γt' A' Γ' M' → Stp ρ A M (Own Γt Γ) ρ' A' M' (Own Γt' Γ') → N.ct Γ' M'
  | .ret t Γt' A' => ∀ ρ' M' d, HM κ.cls ρ' A' M' → Stp ρ A M (Own Γt Γ) ρ' A' M' NoOwn → RT ρ' t d → N.rt d M'
  | .exc C fs Γt' A' => ∀ ρ' M' Ca gs, HM κ.cls ρ' A' M' → Stp ρ A M (Own Γt Γ) ρ' A' M' NoOwn → ρ'[C]? = some Ca → RTf ρ' fs gs → N.ex Ca gs M'
  | .no => False
def SimSAt (κ : Kc) (ρ : List Addr) (Γ : GE) (f : FS) (m : Ms) : Prop := ∀ Γt A M N, Wd κ ρ Γt A Γ M → SatS κ (m Γt A) ρ Γt A Γ M N → f N Γ M
def SimS (κ : Kc) (f : FS) (m : Ms) : Prop := ∀ ρ Γ, SimSAt κ ρ Γ f m
structure MS1 (κ : Kc) (X : Cx) (E : XK) (s : Stmt) (m : Ms) : Prop where ex : ∃ f, DS X E s f ∧ SimS κ f m
structure MSs (κ : Kc) (X : Cx) (E : XK) (s : List Stmt) (m : Ms) : Prop where ex : ∃ f, DSs X E s f ∧ SimS κ f m
section
variable {κ : Kc} {ρ ρ1 : List Addr} {Γ Γ1 : GE} {α β : Type} {rel : Rl α β}
theorem Stp.lessO {A A1 : AH} {M M1 : MS} {O O1 O2 : Addr → Prop} (s : Stp ρ A M O ρ1 A1 M1 O1) (h : ∀ a, O2 a → O1 a) : Stp ρ A M O ρ1 A1 M1 O2 := ⟨s.pre, s.fr, fun a z => s.new a (z.imp id (h a))⟩
theorem Stp.noOwn {A A1 : AH} {M M1 : MS} {O O1 : Addr → Prop} (s : Stp ρ A M O ρ1 A1 M1 O1) : Stp ρ A M O ρ1 A1 M1 NoOwn := s.lessO fun _ z => z.elim
theorem SatS.step {o : RS} {Γt Γt1 : SG} {A A1 : AH} {M M1 : MS} {N : Nd} (s : Stp ρ A M (Own Γt Γ) ρ1 A1 M1 (Own Γt1 Γ1)) (h : SatS κ o ρ Γt A Γ M N) : SatS κ o ρ1 Γt1 A1 Γ1 M1 N := by
  cases o with
  | nx Γ' A' => exact fun ρ' Γ' M' w t => h ρ' Γ' M' w (s.trans t)
  | brk Γ' A' => exact fun ρ' Γ' M' w t => h ρ' Γ' M' w (s.trans t)
  | cnt Γ' A' => exact fun ρ' Γ' M' w t => h ρ' Γ' M' w (s.trans t)
  | ret t Γ' A' => exact fun ρ' M' d w t => h ρ' M' d w (s.trans t)
  | exc C fs Γ' A' => exact fun ρ' M' Ca gs w t => h ρ' M' Ca gs w (s.trans t)
  | no => exact h
theorem sims_bind {fa : FX β} {ma : Mo α} {fb : β → FS} {mb : α → Ms} (ha : SimAt κ rel ρ Γ fa ma) (hb : ∀ ρ' a b, ρ <+: ρ' → rel ρ' Γ a b → SimSAt κ ρ' Γ (fb b) (mb a)) : SimSAt κ ρ Γ (fun N Γ M => fa Γ M (fun x M1 => fb x N Γ M1) N.ex) (mE ma mb) := fun Γt A M N w h => by
  refine ha Γt A M _ _ w ?_
  unfold mE at h
  cases e : ma Γt A with
  | ok a Γ1 A1 =>
    rw [e] at h
    exact fun ρ1 M1 b w1 s1 r1 => hb ρ1 a b s1.pre r1 Γ1 A1 M1 N w1 (SatS.step s1 h)
  | exc C fs Γ1 A1 =>
    rw [e] at h
    exact fun ρ' M' Ca gs w' s' => h ρ' M' Ca gs w'.hm s'.noOwn
  | no =>
    rw [e] at h
    exact h.elim
/-- a slot is set -/
theorem Wd.set {Γt : SG} {A : AH} {M : MS} {x d : D} (w : Wd κ ρ Γt A Γ M) (i : Nat) (r : RT ρ x d) : Wd κ ρ (Γt.set i (.val x)) A (Γ.set i (some d)) M := by
  have ne : ∀ {j : Nat} {c : Cell}, (Γt.set i (.val x))[j]? = some (.own c) → i ≠ j ∧ Γt[j]? = some (.own c) := fun {j c} e => by
    by_cases hj : i = j
    · subst hj
      rw [List.getElem?_set_self'] at e
      cases q : Γt[i]? with
      | none => rw [q] at e; cases e
      | some _ => rw [q] at e; cases e
    · rw [List.getElem?_set_ne hj] at e
      exact ⟨hj, e⟩
  refine ⟨w.hm, by rw [List.length_set, List.length_set]; exact w.len, fun j t e => ?_, fun j c e => ?_, fun j l c c' e e' q => ?_, fun pp c hp e => by obtain ⟨hj, e⟩ := ne e; rw [List.getElem?_set_ne hj]; exact w.pin pp c hp e⟩
  · by_cases hj : i = j
    · subst hj
      have hl : i < Γt.length := by
        have := (List.getElem?_eq_some_iff.mp e).1
        rwa [List.length_set] at this
      rw [List.getElem?_set_self hl] at e
      cases e
      exact ⟨d, by rw [List.getElem?_set_self (by rw [w.len]; exact hl)], r⟩
    · rw [List.getElem?_set_ne hj] at e ⊢
      exact w.val j t e
  · obtain ⟨hj, e⟩ := ne e
    rw [List.getElem?_set_ne hj]
    exact w.own j c e
  · obtain ⟨hj, e⟩ := ne e
    obtain ⟨hl, e'⟩ := ne e'
    rw [List.getElem?_set_ne hj, List.getElem?_set_ne hl] at q
    exact w.sep j l c c' e e' q
theorem own_set {Γt : SG} {i : Nat} {x d : D} {a : Addr} (h : Own (Γt.set i (.val x)) (Γ.set i (some d)) a) : Own Γt Γ a := by
  obtain ⟨j, c, e, e'⟩ := h
  by_cases hj : i = j
  · subst hj
    rw [List.getElem?_set_self'] at e
    cases q : Γt[i]? with
    | none => rw [q] at e; cases e
    | some _ => rw [q] at e; cases e
  · rw [List.getElem?_set_ne hj] at e e'
    exact ⟨j, c, e, e'⟩
/-- a slot is forgotten -/
theorem Wd.drop {Γt : SG} {A : AH} {M : MS} {o : Option D} (w : Wd κ ρ Γt A Γ M) (i : Nat) : Wd κ ρ (Γt.set i .no) A (Γ.set i o) M := by
  have ne : ∀ {j : Nat} {s : Sl}, (Γt.set i .no)[j]? = some s → s ≠ .no → i ≠ j ∧ Γt[j]? = some s := fun {j s} e n => by
    by_cases hj : i = j
    · subst hj
      rw [List.getElem?_set_self'] at e
      cases q : Γt[i]? with
      | none => rw [q] at e; cases e
      | some _ => rw [q] at e; cases e; exact absurd rfl n
    · rw [List.getElem?_set_ne hj] at e
      exact ⟨hj, e⟩
  refine ⟨w.hm, by rw [List.length_set, List.length_set]; exact w.len, fun j t e => ?_, fun j c e => ?_, fun j l c c' e e' q => ?_, fun pp c hp e => by obtain ⟨hj, e⟩ := ne e nofun; rw [List.getElem?_set_ne hj]; exact w.pin pp c hp e⟩
  · obtain ⟨hj, e⟩ := ne e nofun
    rw [List.getElem?_set_ne hj]
    exact w.val j t e
  · obtain ⟨hj, e⟩ := ne e nofun
    rw [List.getElem?_set_ne hj]
    exact w.own j c e
  · obtain ⟨hj, e⟩ := ne e nofun
    obtain ⟨hl, e'⟩ := ne e' nofun
    rw [List.getElem?_set_ne hj, List.getElem?_set_ne hl] at q
    exact w.sep j l c c' e e' q
theorem own_drop {Γt : SG} {i : Nat} {o : Option D} {a : Addr} (h : Own (Γt.set i .no) (Γ.set i o) a) : Own Γt Γ a := by
  obtain ⟨j, c, e, e'⟩ := h
  by_cases hj : i = j
  · subst hj
    rw [List.getElem?_set_self'] at e
    cases q : Γt[i]? with
    | none => rw [q] at e; cases e
    | some _ => rw [q] at e; cases e
  · rw [List.getElem?_set_ne hj] at e e'
    exact ⟨j, c, e, e'⟩
end

/-! ### blocks and simple statements -/
def mNext : Ms := fun Γ A => .nx Γ A
def mBrk : Ms := fun Γ A => .brk Γ A
def mCnt : Ms := fun Γ A => .cnt Γ A
def mRetV (m : Mo D) : Ms := mE m fun d Γ A => .ret d Γ A
def mRetN : Ms := fun Γ A => .ret .non Γ A
def mDo (m : Mo D) : Ms := mE m fun _ Γ A => .nx Γ A
def mSet (i : Nat) (m : Mo D) : Ms := mE m fun d Γ A => .nx (Γ.set i (.val d)) A
def mIfS (c : Mo Bool) (a b : Ms) : Ms := mE c fun v Γ A => if v = true then a Γ A else b Γ A
section
variable {κ : Kc} {X : Cx} {E : XK} {pos : Pos} {st : Stmt} {rest sa sb : List Stmt} {e c : Expr} {a b : Ms} {m : Mo D} {mc : Mo Bool}
theorem ms_nil : MSs κ X E [] mNext := ⟨_, ds_nil, fun ρ Γ Γt A M N w h => h ρ Γ M w Stp.refl⟩
theorem ms_cons (h1 : MS1 κ X E st a) (h2 : MSs κ X E rest b) : MSs κ X E (st :: rest) (mSeq a b) := let ⟨f, d, s⟩ := h1.ex; let ⟨g, d', s'⟩ := h2.ex
  ⟨_, ds_cons d d', fun ρ Γ Γt A M N w h => by
    refine s ρ Γ Γt A M _ w ?_
    have h : SatS κ ((a Γt A).seq b) ρ Γt A Γ M N := h
    cases e : a Γt A with
    | nx Γ1 A1 =>
      rw [e] at h
      exact fun ρ' Γ' M' w' st' => s' ρ' Γ' Γ1 A1 M' N w' (SatS.step st' h)
    | brk Γ1 A1 => rw [e] at h; exact h
    | cnt Γ1 A1 => rw [e] at h; exact h
    | ret t Γ1 A1 => rw [e] at h; exact h
    | exc C fs Γ1 A1 => rw [e] at h; exact h
    | no => rw [e] at h; exact h⟩
theorem ms_one (h1 : MS1 κ X E st a) : MSs κ X E [st] a := let ⟨f, d, s⟩ := h1.ex; ⟨_, ds_one d, s⟩
theorem ms_pass : MS1 κ X E (.Pass pos) mNext := ⟨_, ds_pass, fun ρ Γ Γt A M N w h => h ρ Γ M w Stp.refl⟩
theorem ms_break : MS1 κ X E (.Break pos) mBrk := ⟨_, ds_break, fun ρ Γ Γt A M N w h => h ρ Γ M w Stp.refl⟩
theorem ms_cont : MS1 κ X E (.Continue pos) mCnt := ⟨_, ds_cont, fun ρ Γ Γt A M N w h => h ρ Γ M w Stp.refl⟩
theorem ms_retN : MS1 κ X E (.Return none pos) mRetN := ⟨_, ds_retN, fun ρ Γ Γt A M N w h => h ρ M .non w.hm Stp.refl.noOwn .non⟩
theorem ms_ret (h : ME κ X (fun _ => E) e m) : MS1 κ X E (.Return (some e) pos) (mRetV m) := let ⟨f, d, s⟩ := h.ex
  ⟨_, ds_ret d, fun ρ Γ => sims_bind (fb := fun x N Γ M => N.rt x M) (s ρ Γ) fun ρ1 x dx _ r Γt A M N w h => h ρ1 M dx w.hm Stp.refl.noOwn r⟩
theorem ms_do (h : ME κ X (fun _ => E) e m) (hs : swapsWith e none pos.line X.env = pure false := by rfl) : MS1 κ X E (.Expr e pos) (mDo m) := let ⟨f, d, s⟩ := h.ex
  ⟨_, ds_expr d hs, fun ρ Γ => sims_bind (fb := fun _ N Γ M => N.nx Γ M) (s ρ Γ) fun ρ1 x dx _ r Γt A M N w h => h ρ1 Γ M w Stp.refl⟩
theorem ms_set (i : Nat) {x : Str} {pos' : Pos} (hN : X.N.Nodup) (hi : X.N[i]? = some x) (hx : Loc X.env.scope x) (h : ME κ X (fun _ => E) e m) (hs : swapsWith e (some (.Name x pos')) pos.line X.env = pure false := by rfl) (hf : X.fn x = true ∨ X.env.scope.names.lookup x = some .local := by first | exact .inl rfl | exact .inr rfl | assumption) :
    MS1 κ X E (.Assign [.Name x pos'] e pos) (mSet i m) := let ⟨f, d, s⟩ := h.ex
  ⟨_, ds_set i hN hi hx d hs hf, fun ρ Γ => sims_bind (fb := fun x N Γ M => N.nx (Γ.set i (some x)) M) (s ρ Γ) fun ρ1 x dx _ r Γt A M N w h => h ρ1 _ M (w.set i r) (Stp.refl.lessO fun _ z => own_set z)⟩
theorem ms_if (hc : MT κ X (fun _ => E) c mc) (ha : MSs κ X E sa a) (hb : MSs κ X E sb b) : MS1 κ X E (.If c sa sb pos) (mIfS mc a b) := let ⟨f, d, s⟩ := hc.ex; let ⟨fa, d1, s1⟩ := ha.ex; let ⟨fb, d2, s2⟩ := hb.ex
  ⟨_, ds_if d d1 d2, fun ρ Γ => sims_bind (fb := fun v N Γ M => if v = true then fa N Γ M else fb N Γ M) (s ρ Γ) fun ρ1 v v' _ r Γt A M N w h => by
    cases r
    cases v with
    | true => exact s1 ρ1 Γ Γt A M N w h
    | false => exact s2 ρ1 Γ Γt A M N w h⟩
end

/-! ### targets -/
abbrev Tg := D → SG → Option SG
abbrev Tgs := List D → SG → Option SG
structure GOk (κ : Kc) (ρ : List Addr) (Γt Γt1 : SG) (A : AH) (Γ Γ1 : GE) (M : MS) (js : List Nat) : Prop where
  wd : Wd κ ρ Γt1 A Γ1 M
  own : ∀ a, Own Γt1 Γ1 a → Own Γt Γ a
  out : ∀ j, j ∉ js → Γ1[j]? = Γ[j]? ∧ Γt1[j]? = Γt[j]?
  len : Γt1.length = Γt.length
def SimG (κ : Kc) (g : FG) (t : Tg) (js : List Nat) : Prop := ∀ ρ Γt A Γ M x d (k : GE → Prop) Γt1, Wd κ ρ Γt A Γ M → RT ρ x d → t x Γt = some Γt1 → (∀ Γ1, GOk κ ρ Γt Γt1 A Γ Γ1 M js → k Γ1) → g d Γ k
def SimGs (κ : Kc) (g : FGs) (t : Tgs) (js : List Nat) : Prop := ∀ ρ Γt A Γ M x d (k : GE → Prop) Γt1, Wd κ ρ Γt A Γ M → RTs ρ x d → t x Γt = some Γt1 → (∀ Γ1, GOk κ ρ Γt Γt1 A Γ Γ1 M js → k Γ1) → g d Γ k
def tNm (i : Nat) : Tg := fun x Γ => some (Γ.set i (.val x))
def tNo : Tgs := fun xs Γ => match xs with
  | [] => some Γ
  | _ => none
def tCn (t : Tg) (ts : Tgs) : Tgs := fun xs Γ => match xs with
  | [] => none
  | x :: r => (t x Γ).bind fun Γ1 => ts r Γ1
def tTp (n : Nat) (ts : Tgs) : Tg := fun x Γ => match x with
  | .tup xs => if xs.length = n then ts xs Γ else none
  | _ => none
structure MG (κ : Kc) (X : Cx) (tg : Expr) (t : Tg) (js : List Nat) : Prop where ex : ∃ g, DG X tg g js ∧ SimG κ g t js
structure MGs (κ : Kc) (X : Cx) (tg : List Expr) (t : Tgs) (js : List Nat) : Prop where ex : ∃ g, DGs X tg g js ∧ SimGs κ g t js
section
variable {κ : Kc} {X : Cx} {pos : Pos} {tg e : Expr} {es : List Expr} {t : Tg} {ts : Tgs} {js i j : List Nat}
theorem mg_name (i : Nat) {x : Str} (hN : X.N.Nodup) (hi : X.N[i]? = some x) (hx : Loc X.env.scope x) (hf : X.fn x = true ∨ X.env.scope.names.lookup x = some .local := by first | exact .inl rfl | exact .inr rfl | assumption) : MG κ X (.Name x pos) (tNm i) [i] :=
  ⟨_, dg_name i hN hi hx hf, fun ρ Γt A Γ M x d k Γt1 w r e h => by
    cases e
    refine h _ ⟨w.set i r, fun a z => own_set z, fun j hj => ?_, List.length_set⟩
    have ne : i ≠ j := fun q => hj (by rw [q]; exact List.mem_singleton.mpr rfl)
    exact ⟨List.getElem?_set_ne ne, List.getElem?_set_ne ne⟩⟩
theorem mgs_nil : MGs κ X [] tNo [] := ⟨_, dgs_nil, fun ρ Γt A Γ M x d k Γt1 w r e h => by
  cases r with
  | nil => cases e; exact ⟨rfl, h Γ ⟨w, fun _ z => z, fun _ _ => ⟨rfl, rfl⟩, rfl⟩⟩
  | cons _ _ => cases e⟩
theorem mgs_cons (h1 : MG κ X e t i) (h2 : MGs κ X es ts j) (hs : (assignEach (e :: es) X.env).map (·.2) = assign e X.env :: (assignEach es X.env).map (·.2) := by rfl) : MGs κ X (e :: es) (tCn t ts) (i ++ j) := let ⟨g, d, s⟩ := h1.ex; let ⟨gs, d', s'⟩ := h2.ex
  ⟨_, dgs_cons d d' hs, fun ρ Γt A Γ M x d k Γt1 w r e h => by
    cases r with
    | nil => cases e
    | cons r1 r2 =>
      have e : (t _ Γt).bind (fun Γ1 => ts _ Γ1) = some Γt1 := e
      rw [Option.bind_eq_some_iff] at e
      obtain ⟨Γt2, e1, e2⟩ := e
      refine ⟨_, _, rfl, s ρ Γt A Γ M _ _ _ Γt2 w r1 e1 fun Γ2 q => s' ρ Γt2 A Γ2 M _ _ _ Γt1 q.wd r2 e2 fun Γ3 q' => h Γ3 ⟨q'.wd, fun a z => q.own a (q'.own a z), fun l hl => ?_, q'.len.trans q.len⟩⟩
      have a1 := q.out l fun z => hl (List.mem_append_left _ z)
      have a2 := q'.out l fun z => hl (List.mem_append_right _ z)
      exact ⟨a2.1.trans a1.1, a2.2.trans a1.2⟩⟩
theorem mg_tup {k n : Nat} (hc : X.calm = true) (h : MGs κ X es ts js) (hn : (assignEach es X.env).length = n := by rfl) (hst : (assignEach es X.env).findIdx? (·.1) = none := by rfl) : MG κ X (.Tuple es k pos) (tTp n ts) js := let ⟨g, d, s⟩ := h.ex
  ⟨_, dg_tup hc d hn hst, fun ρ Γt A Γ M x d k Γt1 w r e h => by
    cases r with
    | tup r =>
      simp only [tTp] at e
      split at e
      · rename_i hl
        exact ⟨_, rfl, by rw [r.length]; exact hl, s ρ Γt A Γ M _ _ _ Γt1 w r e h⟩
      · cases e
    | _ => cases e⟩
/-- target = e -/
def mAsg (t : Tg) (m : Mo D) : Ms := mE m fun x Γ A => match t x Γ with
  | some Γ1 => .nx Γ1 A
  | none => .no
theorem ms_asg {E : XK} {m : Mo D} (he : ME κ X (fun _ => E) e m) (hg : MG κ X tg t js) (hs : swapsWithSole [tg] e pos.line X.env = pure false := by rfl) (hw : swappedStores [tg] e X.env = pure none := by rfl)
    (h1 : (assignEach [tg] X.env).map (·.2) = [assign tg X.env] := by rfl) : MS1 κ X E (.Assign [tg] e pos) (mAsg t m) := let ⟨f, d, s⟩ := he.ex; let ⟨g, d', s'⟩ := hg.ex
  ⟨_, ds_asg d d' hs hw h1, fun ρ Γ => sims_bind (fb := fun x N Γ M => g x Γ fun Γ1 => N.nx Γ1 M) (s ρ Γ) fun ρ1 x dx _ r Γt A M N w h => by
    cases e : t x Γt with
    | none => rw [e] at h; exact h.elim
    | some Γt1 =>
      rw [e] at h
      exact s' ρ1 Γt A Γ M x dx _ Γt1 w r e fun Γ1 q => h ρ1 Γ1 M q.wd (Stp.refl.lessO q.own)⟩
/-- a, b = x, y -/
def par2 (i j : Nat) (xs : List D) : Ms := fun Γ A => match xs with
  | [x, y] => .nx ((Γ.set i (.val x)).set j (.val y)) A
  | _ => .no
def mPar (i j : Nat) (m : Mo (List D)) : Ms := mE m (par2 i j)
theorem ms_par {E : XK} (i j : Nat) {x y : Str} {a b : Expr} {m : Mo (List D)} {px py pt : Pos} {kt k2 pt2} (hc : X.calm = true) (hN : X.N.Nodup) (hi : X.N[i]? = some x) (hj : X.N[j]? = some y) (hij : i ≠ j)
    (hx : X.env.scope.names.lookup x = some .local) (hy : X.env.scope.names.lookup y = some .local) (ha : MA κ X (fun _ => E) [a, b] m)
    (hw : swappedStores [.Tuple [.Name x px, .Name y py] kt pt] (.Tuple [a, b] k2 pt2) X.env = pure (some [x, y]))
    (hs : swapsWithSole [.Tuple [.Name x px, .Name y py] kt pt] (.Tuple [a, b] k2 pt2) pos.line X.env = pure false := by rfl) :
    MS1 κ X E (.Assign [.Tuple [.Name x px, .Name y py] kt pt] (.Tuple [a, b] k2 pt2) pos) (mPar i j m) := let ⟨f, d, s⟩ := ha.ex
  ⟨_, ds_par i j hc hN hi hj hij hx hy d hw hs, fun ρ Γ => sims_bind (fb := fun ds N Γ M => ∃ c d, ds = [c, d] ∧ N.nx ((Γ.set i (some c)).set j (some d)) M) (s ρ Γ) fun ρ1 xs ds _ r Γt A M N w h => by
    cases r with
    | nil => exact h.elim
    | cons r1 r2 =>
      cases r2 with
      | nil => exact h.elim
      | cons r2 r3 =>
        cases r3 with
        | cons _ _ => exact h.elim
        | nil => exact ⟨_, _, rfl, h ρ1 _ M ((w.set i r1).set j r2) (Stp.refl.lessO fun _ z => own_set (own_set z))⟩⟩
end

/-! ### for -/
def mForL (t : Tg) (b : Ms) : List D → Ms
  | [] => fun Γ A => .nx Γ A
  | x :: xs => fun Γ A => match t x Γ with
    | none => .no
    | some Γ1 => match b Γ1 A with
      | .nx Γ2 A2 => mForL t b xs Γ2 A2
      | .cnt Γ2 A2 => mForL t b xs Γ2 A2
      | .brk Γ2 A2 => .nx Γ2 A2
      | .ret d Γ2 A2 => .ret d Γ2 A2
      | .exc C fs Γ2 A2 => .exc C fs Γ2 A2
      | .no => .no
def mFor (mi : Mo (List D)) (t : Tg) (b : Ms) : Ms := mE mi (mForL t b)
theorem sims_for {κ : Kc} {g : FG} {t : Tg} {js : List Nat} {fb : FS} {b : Ms} (hg : SimG κ g t js) (hb : SimS κ fb b) : ∀ (xs ds : List D) ρ Γ, RTs ρ xs ds → SimSAt κ ρ Γ (fun N Γ M => ForD g fb N ds Γ M) (mForL t b xs)
  | [], _, ρ, Γ, r => fun Γt A M N w h => by
    cases r
    exact h ρ Γ M w Stp.refl
  | x :: xs, _, ρ, Γ, r => fun Γt A M N w h => by
    cases r with
    | @cons _ y _ ds r1 r2 =>
      show g y Γ fun Γ1 => fb { N with nx := ForD g fb N ds, ct := ForD g fb N ds, bk := N.nx } Γ1 M
      simp only [mForL] at h
      cases e : t x Γt with
      | none => rw [e] at h; exact h.elim
      | some Γt1 =>
        rw [e] at h
        refine hg ρ Γt A Γ M x y _ Γt1 w r1 e fun Γ1 q => hb ρ Γ1 Γt1 A M _ q.wd ?_
        have s1 : Stp ρ A M (Own Γt Γ) ρ A M (Own Γt1 Γ1) := Stp.refl.lessO q.own
        cases e2 : b Γt1 A with
        | nx Γ2 A2 =>
          simp only [e2] at h
          exact fun ρ' Γ' M' w' st => sims_for hg hb xs ds ρ' Γ' (RTs.mono st.pre _ r2) Γ2 A2 M' N w' (SatS.step (s1.trans st) h)
        | cnt Γ2 A2 =>
          simp only [e2] at h
          exact fun ρ' Γ' M' w' st => sims_for hg hb xs ds ρ' Γ' (RTs.mono st.pre _ r2) Γ2 A2 M' N w' (SatS.step (s1.trans st) h)
        | brk Γ2 A2 =>
          simp only [e2] at h
          exact fun ρ' Γ' M' w' st => h ρ' Γ' M' w' (s1.trans st)
        | ret d Γ2 A2 =>
          simp only [e2] at h
          exact fun ρ' M' d' w' st => h ρ' M' d' w' (s1.trans st)
        | exc C fs Γ2 A2 =>
          simp only [e2] at h
          exact fun ρ' M' Ca gs w' st => h ρ' M' Ca gs w' (s1.trans st)
        | no => simp only [e2] at h; exact h.elim
/-! ### what is walked -/
structure MI (κ : Kc) (X : Cx) (E : L2.St → XK) (tg iter : Expr) (m : Mo (List D)) : Prop where ex : ∃ f, DI X E tg iter f ∧ Sim κ rA f m
def itL : D → Option (List D)
  | .lst xs => some xs
  | _ => none
def itT : D → Option (List D)
  | .tup xs => some xs
  | _ => none
def itZ : D → Option (List D)
  | .scr ns => some (ns.map .int)
  | _ => none
def itS : D → Option (List D)
  | .str z => some (z.cps.toList.map fun c => .str ⟨#[c]⟩)
  | _ => none
def mIt (o : D → Option (List D)) (m : Mo D) : Mo (List D) := mBind m fun x => mO (o x)
def rng1 (xs : List D) : Option (List D) := match xs with
  | [.int j] => if -(2 ^ 62) ≤ j ∧ j < 2 ^ 62 then some (rngD 0 j.toNat) else none
  | _ => none
def rng2 (xs : List D) : Option (List D) := match xs with
  | [.int i, .int j] => if -(2 ^ 62) ≤ i ∧ i < 2 ^ 62 ∧ -(2 ^ 62) ≤ j ∧ j < 2 ^ 62 then some (rngD i (j - i).toNat) else none
  | _ => none
def mRng (o : List D → Option (List D)) (m : Mo (List D)) : Mo (List D) := mBind m fun xs => mO (o xs)
theorem RTs.rng {ρ : List Addr} {lo : Int} {n : Nat} : RTs ρ (rngD lo n) (rngD lo n) := by
  have e : rngD lo n = ((List.range n).map fun (i : Nat) => lo + (i : Int)).map D.int := by
    unfold rngD
    rw [List.map_map]
    rfl
  rw [e]
  exact RTs.ints _
section
variable {κ : Kc} {X : Cx} {E : L2.St → XK} {tg e a b : Expr} {m : Mo D} {as : Mo (List D)} {p pos : Pos}
theorem mi_list (h : ME κ X E e m) : MI κ X E tg e (mIt itL m) := let ⟨f, d, s⟩ := h.ex
  ⟨_, di_list d, fun ρ Γ => sim_bind (rel := rA) (fb := fun x Γ M k kx => ∃ ds, x = D.lst ds ∧ k ds M) (s ρ Γ) fun ρ1 x dx _ r => sim_o (o := itL x) fun M k kx t e q => by
    cases r with
    | lst r => cases e; exact ⟨_, rfl, q _ r⟩
    | _ => cases e⟩
theorem mi_tup (h : ME κ X E e m) : MI κ X E tg e (mIt itT m) := let ⟨f, d, s⟩ := h.ex
  ⟨_, di_tup d, fun ρ Γ => sim_bind (rel := rA) (fb := fun x Γ M k kx => ∃ ds, x = D.tup ds ∧ k ds M) (s ρ Γ) fun ρ1 x dx _ r => sim_o (o := itT x) fun M k kx t e q => by
    cases r with
    | tup r => cases e; exact ⟨_, rfl, q _ r⟩
    | _ => cases e⟩
theorem mi_scr (h : ME κ X E e m) : MI κ X E tg e (mIt itZ m) := let ⟨f, d, s⟩ := h.ex
  ⟨_, di_scr d, fun ρ Γ => sim_bind (rel := rA) (fb := fun x Γ M k kx => ∃ ns : List Int, x = D.scr ns ∧ k (ns.map D.int) M) (s ρ Γ) fun ρ1 x dx _ r => sim_o (o := itZ x) fun M k kx t e q => by
    cases r with
    | scr ns => cases e; exact ⟨_, rfl, q _ (RTs.ints _)⟩
    | _ => cases e⟩
theorem mi_str (h : ME κ X E e m) : MI κ X E tg e (mIt itS m) := let ⟨f, d, s⟩ := h.ex
  ⟨_, di_str d, fun ρ Γ => sim_bind (rel := rA) (fb := fun x Γ M k kx => ∃ z : Str, x = D.str z ∧ k (z.cps.toList.map fun c => D.str ⟨#[c]⟩) M) (s ρ Γ) fun ρ1 x dx _ r => sim_o (o := itS x) fun M k kx t e q => by
    cases r with
    | str z => cases e; exact ⟨_, rfl, q _ (RTs.signs _)⟩
    | _ => cases e⟩
theorem mi_rng1 (hg : Gl X "range") (hm : X.mg "range" = none) (ha : MA κ X E [a] as) (hs : starEach [a] X.env = [(false, eval a X.env)] := by rfl) : MI κ X E tg (.Call (.Name "range" p) [a] [] pos) (mRng rng1 as) := let ⟨f, d, s⟩ := ha.ex
  ⟨_, di_rng1 hg hm d hs, fun ρ Γ => sim_bind (rel := rA) (fb := fun ds Γ M k kx => ∃ j : Int, ds = [D.int j] ∧ -(2 ^ 62) ≤ j ∧ j < 2 ^ 62 ∧ k (rngD 0 j.toNat) M) (s ρ Γ) fun ρ1 x dx _ r => sim_o (o := rng1 x) fun M k kx t e q => by
    cases r with
    | nil => cases e
    | cons r1 r2 =>
      cases r2 with
      | cons _ _ => cases r1 <;> cases e
      | nil =>
        cases r1 with
        | int j =>
          simp only [rng1] at e
          split at e
          · rename_i h; cases e; exact ⟨j, rfl, h.1, h.2, q _ RTs.rng⟩
          · cases e
        | _ => cases e⟩
theorem mi_rng2 (hg : Gl X "range") (hm : X.mg "range" = none) (ha : MA κ X E [a, b] as) (hs : starEach [a, b] X.env = [(false, eval a X.env), (false, eval b X.env)] := by rfl) (hs2 : starEach [b] X.env = [(false, eval b X.env)] := by rfl) : MI κ X E tg (.Call (.Name "range" p) [a, b] [] pos) (mRng rng2 as) := let ⟨f, d, s⟩ := ha.ex
  ⟨_, di_rng2 hg hm d hs hs2, fun ρ Γ => sim_bind (rel := rA) (fb := fun ds Γ M k kx => ∃ i j : Int, ds = [D.int i, D.int j] ∧ (-(2 ^ 62) ≤ i ∧ i < 2 ^ 62 ∧ -(2 ^ 62) ≤ j ∧ j < 2 ^ 62) ∧ k (rngD i (j - i).toNat) M) (s ρ Γ) fun ρ1 x dx _ r => sim_o (o := rng2 x) fun M k kx t e q => by
    cases r with
    | nil => cases e
    | cons r1 r2 =>
      cases r2 with
      | nil => cases r1 <;> cases e
      | cons r2 r3 =>
        cases r3 with
        | cons _ _ => cases r1 <;> cases r2 <;> cases e
        | nil =>
          cases r1 with
          | int i =>
            cases r2 with
            | int j =>
              simp only [rng2] at e
              split at e
              · rename_i h; cases e; exact ⟨i, j, rfl, h, q _ RTs.rng⟩
              · cases e
            | _ => cases e
          | _ => cases r2 <;> cases e⟩
theorem ms_for {E : XK} {iter : Expr} {body : List Stmt} {mi : Mo (List D)} {t : Tg} {js : List Nat} {mb : Ms} (hp : PassesOwn (model X.prog X.w) X.A X.env X.xe) (hc : X.calm = true) (hi : MI κ X (fun _ => E) tg iter mi) (hg : MG κ X tg t js) (hb : MSs κ X E body mb)
    (hs : ∀ x, foldedSetIterable iter X.env x = pure x := by intro _; rfl) : MS1 κ X E (.For tg iter body [] pos) (mFor mi t mb) := let ⟨f, d, s⟩ := hi.ex; let ⟨g, d', s'⟩ := hg.ex; let ⟨fb, d2, s2⟩ := hb.ex
  ⟨_, ds_for hp hc d d' d2 hs, fun ρ Γ => sims_bind (fb := fun ds N Γ M => ForD g fb N ds Γ M) (s ρ Γ) fun ρ1 xs ds _ r => sims_for s' s2 xs ds ρ1 Γ r⟩
end
end Fl

set_option Elab.async false
set_option linter.all false
set_option maxRecDepth 100000
set_option maxHeartbeats 2000000
/-! E5: cells made, changed, frozen; comprehensions; while. -/
namespace Fl
open PySem PySem.Spec PyProof.Rows L2 Dl
def rC : Rl Cell Cell := fun ρ _ x y => RC ρ x y
/-- an expression that makes a new changing object -/
def fNewC (h : FX Cell) : FE := fun Γ M k kx => h Γ M (fun c M1 => ∀ p, M1 p = none → k (.ref p) (upM M1 p c)) kx
structure MN (κ : Kc) (X : Cx) (E : L2.St → XK) (e : Expr) (m : Mo Cell) : Prop where ex : ∃ h, DE X E e (fNewC h) ∧ Sim κ rC h m
section
variable {κ : Kc} {ρ : List Addr} {Γ : GE}
theorem set_self {α : Type} {xs : List α} {i : Nat} {a : α} (h : i < xs.length) : (xs.set i a)[i]? = some a := List.getElem?_set_self h
/-- a new cell, of a new id -/
theorem HM.new {A : AH} {M : MS} {p : Addr} {c dc : Cell} (h : HM κ.cls ρ A M) (hp : M p = none) (r : RC ρ c dc) : HM κ.cls (ρ ++ [p]) (A ++ [some c]) (upM M p dc) := by
  have pre : ρ <+: ρ ++ [p] := ⟨[p], rfl⟩
  have nl : ∀ {i : Nat} {c' : Cell}, A[i]? = some (some c') → ∃ a dc', ρ[i]? = some a ∧ M a = some dc' ∧ RC ρ c' dc' ∧ a ≠ p := fun {i c'} e => by
    obtain ⟨a, dc', e1, e2, e3⟩ := h.cel i c' e
    exact ⟨a, dc', e1, e2, e3, fun z => by rw [z, hp] at e2; cases e2⟩
  have at_ : ∀ {i : Nat} {c' : Cell}, (A ++ [some c])[i]? = some (some c') → (i < A.length ∧ A[i]? = some (some c')) ∨ (i = A.length ∧ c' = c) := fun {i c'} e => by
    by_cases hi : i < A.length
    · rw [List.getElem?_append_left hi] at e
      exact .inl ⟨hi, e⟩
    · rw [List.getElem?_append_right (by omega)] at e
      cases q : i - A.length with
      | zero => rw [q] at e; cases e; exact .inr ⟨by omega, rfl⟩
      | succ n => rw [q] at e; simp at e
  have atp : (ρ ++ [p])[A.length]? = some p := by rw [h.len, List.getElem?_append_right (by omega)]; simp
  refine ⟨h.pre.trans pre, by rw [List.length_append, List.length_append, h.len]; rfl, fun i c' e => ?_, fun i j c1 c2 e1 e2 q => ?_⟩
  · rcases at_ e with ⟨hi, e⟩ | ⟨rfl, rfl⟩
    · obtain ⟨a, dc', e1, e2, e3, ne⟩ := nl e
      exact ⟨a, dc', pre_get pre e1, by rw [upM_ne ne]; exact e2, e3.mono pre⟩
    · exact ⟨p, dc, atp, upM_same, r.mono pre⟩
  · rcases at_ e1 with ⟨hi, e1⟩ | ⟨rfl, rfl⟩
    · obtain ⟨a, dc1, a1, a2, a3, ne⟩ := nl e1
      rcases at_ e2 with ⟨hj, e2⟩ | ⟨rfl, rfl⟩
      · obtain ⟨b, dc2, b1, b2, b3, ne2⟩ := nl e2
        refine h.inj i j c1 c2 e1 e2 ?_
        rw [pre_get pre a1, pre_get pre b1] at q
        rw [a1, b1, Option.some.inj q]
      · rw [pre_get pre a1, atp] at q
        exact absurd (Option.some.inj q) ne
    · rcases at_ e2 with ⟨hj, e2⟩ | ⟨rfl, rfl⟩
      · obtain ⟨b, dc2, b1, b2, b3, ne2⟩ := nl e2
        rw [pre_get pre b1, atp] at q
        exact absurd (Option.some.inj q).symm ne2
      · rfl
theorem live_new {A : AH} {M : MS} {p a : Addr} {c : Cell} (h : HM κ.cls ρ A M) (z : Live (A ++ [some c]) (ρ ++ [p]) a) : Live A ρ a ∨ a = p := by
  obtain ⟨i, c', e, e'⟩ := z
  by_cases hi : i < A.length
  · rw [List.getElem?_append_left hi] at e
    rw [List.getElem?_append_left (by rw [← h.len]; exact hi)] at e'
    exact .inl ⟨i, c', e, e'⟩
  · rw [List.getElem?_append_right (by rw [← h.len]; omega)] at e'
    cases q : i - ρ.length with
    | zero => rw [q] at e'; cases e'; exact .inr rfl
    | succ n => rw [q] at e'; simp at e'
theorem Wd.own_ne {Γt : SG} {A : AH} {M : MS} {p : Addr} (w : Wd κ ρ Γt A Γ M) (hp : M p = none) {a : Addr} (z : Live A ρ a ∨ Own Γt Γ a) : a ≠ p := fun q => by
  subst q
  rcases z with ⟨i, c, e, e'⟩ | ⟨i, c, e, e'⟩
  · obtain ⟨b, dc, e1, e2, _⟩ := w.hm.cel i c e
    rw [e'] at e1
    cases e1
    rw [hp] at e2
    cases e2
  · obtain ⟨b, dc, e1, e2, _⟩ := w.own i c e
    rw [e'] at e1
    cases e1
    rw [hp] at e2
    cases e2
theorem Wd.new {Γt : SG} {A : AH} {M : MS} {p : Addr} {c dc : Cell} (w : Wd κ ρ Γt A Γ M) (hp : M p = none) (r : RC ρ c dc) : Wd κ (ρ ++ [p]) Γt (A ++ [some c]) Γ (upM M p dc) ∧ Stp ρ A M (Own Γt Γ) (ρ ++ [p]) (A ++ [some c]) (upM M p dc) (Own Γt Γ) := by
  have pre : ρ <+: ρ ++ [p] := ⟨[p], rfl⟩
  refine ⟨⟨w.hm.new hp r, w.len, fun i t e => ?_, fun i c' e => ?_, w.sep, w.pin⟩, ⟨pre, fun a h1 h2 h3 => upM_ne fun q => h1 (by rw [q]; exact hp), fun a z => ?_⟩⟩
  · obtain ⟨d, e1, r1⟩ := w.val i t e
    exact ⟨d, e1, RT.mono pre _ r1⟩
  · obtain ⟨q, dc', e1, e2, r1, nl⟩ := w.own i c' e
    have ne : q ≠ p := w.own_ne hp (.inr ⟨i, c', e, e1⟩)
    exact ⟨q, dc', e1, by rw [upM_ne ne]; exact e2, r1.mono pre, fun z => (live_new w.hm z).elim nl ne⟩
  · rcases z with z | z
    · rcases live_new w.hm z with z | z
      · exact .inl z
      · exact .inr (.inr (by rw [z]; exact hp))
    · exact .inr (.inl z)
/-- .. of a new id -/
def newA (c : Cell) : Mo D := fun Γ A => .ok (.ref A.length) Γ (A ++ [some c])
def mNew (m : Mo Cell) : Mo D := mBind m newA
theorem sim_newA {c dc : Cell} (r : RC ρ c dc) : SimAt κ rD ρ Γ (fun Γ M k kx => ∀ p, M p = none → k (D.ref p) (upM M p dc)) (newA c) := fun Γt A M k kx w h p hp => by
  obtain ⟨w', s⟩ := w.new hp r
  refine h (ρ ++ [p]) _ (.ref p) w' s (.ref ?_)
  rw [w.hm.len, List.getElem?_append_right (Nat.le_refl _), Nat.sub_self]
  rfl
/-- .. owned by a slot -/
theorem Wd.setO {Γt : SG} {A : AH} {M : MS} {p : Addr} {c dc : Cell} (w : Wd κ ρ Γt A Γ M) (i : Nat) (h0 : i ≠ 0) (hp : M p = none) (r : RC ρ c dc) :
    Wd κ ρ (Γt.set i (.own c)) A (Γ.set i (some (.ref p))) (upM M p dc) ∧ Stp ρ A M (Own Γt Γ) ρ A (upM M p dc) (Own (Γt.set i (.own c)) (Γ.set i (some (.ref p)))) := by
  have liv : ∀ {a : Addr}, Live A ρ a → a ≠ p := fun z => w.own_ne hp (.inl z)
  refine ⟨⟨⟨w.hm.pre, w.hm.len, fun j c' e => ?_, w.hm.inj⟩, by rw [List.length_set, List.length_set]; exact w.len, fun j t e => ?_, fun j c' e => ?_, fun j l c1 c2 e1 e2 q => ?_, fun pp c' hpp e => by rw [List.getElem?_set_ne h0] at e ⊢; exact w.pin pp c' hpp e⟩, ⟨List.prefix_refl _, fun a h1 h2 h3 => upM_ne fun q => h1 (by rw [q]; exact hp), fun a z => ?_⟩⟩
  · obtain ⟨a, dc', e1, e2, e3⟩ := w.hm.cel j c' e
    exact ⟨a, dc', e1, by rw [upM_ne (liv ⟨j, c', e, e1⟩)]; exact e2, e3⟩
  · by_cases hj : i = j
    · subst hj
      rw [List.getElem?_set_self'] at e
      cases q : Γt[i]? with
      | none => rw [q] at e; cases e
      | some _ => rw [q] at e; cases e
    · rw [List.getElem?_set_ne hj] at e ⊢
      exact w.val j t e
  · by_cases hj : i = j
    · subst hj
      have hl : i < Γt.length := by
        have := (List.getElem?_eq_some_iff.mp e).1
        rwa [List.length_set] at this
      rw [List.getElem?_set_self hl] at e
      cases e
      exact ⟨p, dc, by rw [List.getElem?_set_self (by rw [w.len]; exact hl)], upM_same, r, fun z => liv z rfl⟩
    · rw [List.getElem?_set_ne hj] at e ⊢
      obtain ⟨q, dc', e1, e2, r1, nl⟩ := w.own j c' e
      exact ⟨q, dc', e1, by rw [upM_ne (w.own_ne hp (.inr ⟨j, c', e, e1⟩))]; exact e2, r1, nl⟩
  · have same : ∀ {j l : Nat} {c1 c2 : Cell}, i = j → i ≠ l → (Γt.set i (.own c))[j]? = some (.own c1) → (Γt.set i (.own c))[l]? = some (.own c2) → (Γ.set i (some (.ref p)))[j]? = (Γ.set i (some (.ref p)))[l]? → False := fun {j l c1 c2} hj hl e1 e2 q => by
      subst hj
      have hb : i < Γt.length := by
        have := (List.getElem?_eq_some_iff.mp e1).1
        rwa [List.length_set] at this
      rw [List.getElem?_set_ne hl] at e2
      obtain ⟨b, dc', b1, b2, _⟩ := w.own l c2 e2
      rw [List.getElem?_set_self (by rw [w.len]; exact hb), List.getElem?_set_ne hl, b1] at q
      cases q
      exact w.own_ne hp (.inr ⟨l, c2, e2, b1⟩) rfl
    by_cases hj : i = j
    · by_cases hl : i = l
      · exact hj.symm.trans hl
      · exact (same hj hl e1 e2 q).elim
    · by_cases hl : i = l
      · exact (same hl hj e2 e1 q.symm).elim
      · rw [List.getElem?_set_ne hj] at e1
        rw [List.getElem?_set_ne hl] at e2
        rw [List.getElem?_set_ne hj, List.getElem?_set_ne hl] at q
        exact w.sep j l c1 c2 e1 e2 q
  · rcases z with z | ⟨j, c', e, e'⟩
    · exact .inl z
    · by_cases hj : i = j
      · subst hj
        rw [List.getElem?_set_self'] at e'
        cases q : Γ[i]? with
        | none => rw [q] at e'; cases e'
        | some _ => rw [q] at e'; cases e'; exact .inr (.inr hp)
      · rw [List.getElem?_set_ne hj] at e e'
        exact .inr (.inl ⟨j, c', e, e'⟩)
def mSetO (i : Nat) (m : Mo Cell) : Ms := mE m fun c Γ A => if i = 0 then .no else .nx (Γ.set i (.own c)) A
/-- a cell is changed -/
def updO {α : Type} (o : Opd) (f : Cell → Option (Cell × α)) : Mo α := fun Γ A => match o with
  | .s i => match Γ[i]? with
    | some (.own c) => match f c with
      | some (c', a) => .ok a (Γ.set i (.own c')) A
      | none => .no
    | _ => .no
  | .v (.ref i) => match A[i]? with
    | some (some c) => match f c with
      | some (c', a) => .ok a Γ (A.set i (some c'))
      | none => .no
    | _ => .no
  | _ => .no
theorem Wd.updS {Γt : SG} {A : AH} {M : MS} {p i : Nat} {c0 c dc : Cell} (w : Wd κ ρ Γt A Γ M) (e0 : Γt[i]? = some (.own c0)) (ep : Γ[i]? = some (some (.ref p))) (r : RC ρ c dc) :
    Wd κ ρ (Γt.set i (.own c)) A Γ (upM M p dc) ∧ Stp ρ A M (Own Γt Γ) ρ A (upM M p dc) (Own (Γt.set i (.own c)) Γ) := by
  obtain ⟨p', dc0, ep', e2, _, nl⟩ := w.own i c0 e0
  rw [ep] at ep'
  cases ep'
  have hl : i < Γt.length := (List.getElem?_eq_some_iff.mp e0).1
  have ownOf : ∀ {j : Nat} {c' : Cell}, (Γt.set i (.own c))[j]? = some (.own c') → ∃ c'', Γt[j]? = some (.own c'') ∧ (i ≠ j → c'' = c') := fun {j c'} e => by
    by_cases hj : i = j
    · subst hj; exact ⟨c0, e0, fun z => absurd rfl z⟩
    · rw [List.getElem?_set_ne hj] at e; exact ⟨c', e, fun _ => rfl⟩
  refine ⟨⟨⟨w.hm.pre, w.hm.len, fun j c' e => ?_, w.hm.inj⟩, by rw [List.length_set]; exact w.len, fun j t e => ?_, fun j c' e => ?_, fun j l c1 c2 e1 e2 q => ?_, fun pp c' hpp e => by obtain ⟨c'', e'', _⟩ := ownOf e; exact w.pin pp c'' hpp e''⟩, ⟨List.prefix_refl _, fun a h1 h2 h3 => upM_ne fun q => h3 ⟨i, c0, e0, by rw [q]; exact ep⟩, fun a z => ?_⟩⟩
  · obtain ⟨a, dc', e1, e3, e4⟩ := w.hm.cel j c' e
    exact ⟨a, dc', e1, by rw [upM_ne (fun q : a = p => nl (by rw [← q]; exact ⟨j, c', e, e1⟩))]; exact e3, e4⟩
  · by_cases hj : i = j
    · subst hj
      rw [List.getElem?_set_self hl] at e
      cases e
    · rw [List.getElem?_set_ne hj] at e
      exact w.val j t e
  · by_cases hj : i = j
    · subst hj
      rw [List.getElem?_set_self hl] at e
      cases e
      exact ⟨p, dc, ep, upM_same, r, nl⟩
    · rw [List.getElem?_set_ne hj] at e
      obtain ⟨q, dc', e1, e3, r1, nl'⟩ := w.own j c' e
      exact ⟨q, dc', e1, by rw [upM_ne fun z => hj (w.sep i j c0 c' e0 e (by rw [ep, e1, z]))]; exact e3, r1, nl'⟩
  · obtain ⟨c1', e1, _⟩ := ownOf e1
    obtain ⟨c2', e2, _⟩ := ownOf e2
    exact w.sep j l _ _ e1 e2 q
  · rcases z with z | ⟨j, c', e, e'⟩
    · exact .inl z
    · obtain ⟨c1', e1, _⟩ := ownOf e
      exact .inr (.inl ⟨j, c1', e1, e'⟩)
theorem Wd.updA {Γt : SG} {A : AH} {M : MS} {p i : Nat} {c0 c dc : Cell} (w : Wd κ ρ Γt A Γ M) (e0 : A[i]? = some (some c0)) (ep : ρ[i]? = some p) (r : RC ρ c dc) :
    Wd κ ρ Γt (A.set i (some c)) Γ (upM M p dc) ∧ Stp ρ A M (Own Γt Γ) ρ (A.set i (some c)) (upM M p dc) (Own Γt Γ) := by
  obtain ⟨p', dc0, ep', e2, _⟩ := w.hm.cel i c0 e0
  rw [ep] at ep'
  cases ep'
  have hl : i < A.length := (List.getElem?_eq_some_iff.mp e0).1
  have celOf : ∀ {j : Nat} {c' : Cell}, (A.set i (some c))[j]? = some (some c') → ∃ c'', A[j]? = some (some c'') := fun {j c'} e => by
    by_cases hj : i = j
    · subst hj; exact ⟨c0, e0⟩
    · rw [List.getElem?_set_ne hj] at e; exact ⟨c', e⟩
  have liv : ∀ {a : Addr}, Live (A.set i (some c)) ρ a → Live A ρ a := fun {a} ⟨j, c', e, e'⟩ => let ⟨c'', e''⟩ := celOf e; ⟨j, c'', e'', e'⟩
  refine ⟨⟨⟨w.hm.pre, by rw [List.length_set]; exact w.hm.len, fun j c' e => ?_, fun j l c1 c2 e1 e2 q => ?_⟩, w.len, w.val, fun j c' e => ?_, w.sep, w.pin⟩, ⟨List.prefix_refl _, fun a h1 h2 h3 => upM_ne fun q => h2 ⟨i, c0, e0, by rw [q]; exact ep⟩, fun a z => z.elim (fun z => .inl (liv z)) fun z => .inr (.inl z)⟩⟩
  · by_cases hj : i = j
    · subst hj
      rw [List.getElem?_set_self hl] at e
      cases e
      exact ⟨p, dc, ep, upM_same, r⟩
    · rw [List.getElem?_set_ne hj] at e
      obtain ⟨a, dc', e1, e3, e4⟩ := w.hm.cel j c' e
      exact ⟨a, dc', e1, by rw [upM_ne fun z => hj (w.hm.inj i j c0 c' e0 e (by rw [ep, e1, z]))]; exact e3, e4⟩
  · obtain ⟨c1', e1⟩ := celOf e1
    obtain ⟨c2', e2⟩ := celOf e2
    exact w.hm.inj j l _ _ e1 e2 q
  · obtain ⟨q, dc', e1, e3, r1, nl⟩ := w.own j c' e
    exact ⟨q, dc', e1, by rw [upM_ne fun z => nl (by rw [z]; exact ⟨i, c0, e0, ep⟩)]; exact e3, r1, fun z => nl (liv z)⟩
theorem sim_upd {α β : Type} {rel : Rl α β} {o : Opd} {d : D} {f : Cell → Option (Cell × α)} {Γt : SG} {A : AH} {M : MS} {k : β → MS → Prop} {kx : KX} (w : Wd κ ρ Γt A Γ M) (r : rO ρ Γ o d) (h : Sat κ rel (updO o f Γt A) ρ Γt A Γ M k kx) :
    ∃ p c dc c' a, d = .ref p ∧ M p = some dc ∧ RC ρ c dc ∧ f c = some (c', a) ∧ ∀ dc' b, RC ρ c' dc' → rel ρ Γ a b → k b (upM M p dc') := by
  cases o with
  | s i =>
    have h : Sat κ rel (match Γt[i]? with | some (.own c) => (match f c with | some (c', a) => .ok a (Γt.set i (.own c')) A | none => .no) | _ => .no) ρ Γt A Γ M k kx := h
    cases q : Γt[i]? with
    | none => rw [q] at h; exact h.elim
    | some sl =>
      rw [q] at h
      cases sl with
      | no => exact h.elim
      | val _ => exact h.elim
      | own c =>
        obtain ⟨p, dc, e1, e2, rc, nl⟩ := w.own i c q
        have r' : Γ[i]? = some (some d) := r
        rw [e1] at r'
        cases r'
        cases hf : f c with
        | none => simp only [hf] at h; exact h.elim
        | some ca =>
          obtain ⟨c', a⟩ := ca
          simp only [hf] at h
          exact ⟨p, c, dc, c', a, rfl, e2, rc, hf, fun dc' b rc' rb => let ⟨w', s'⟩ := w.updS q e1 rc'; h ρ _ b w' s' rb⟩
  | v x =>
    have r : RT ρ x d := r
    cases x with
    | ref i =>
      cases r with
      | ref ei =>
        have h : Sat κ rel (match A[i]? with | some (some c) => (match f c with | some (c', a) => .ok a Γt (A.set i (some c')) | none => .no) | _ => .no) ρ Γt A Γ M k kx := h
        cases q : A[i]? with
        | none => rw [q] at h; exact h.elim
        | some oc =>
          cases oc with
          | none => rw [q] at h; exact h.elim
          | some c =>
            rw [q] at h
            obtain ⟨a, dc, e1, e2, rc⟩ := w.hm.cel i c q
            rw [ei] at e1
            cases e1
            cases hf : f c with
            | none => simp only [hf] at h; exact h.elim
            | some ca =>
              obtain ⟨c', a⟩ := ca
              simp only [hf] at h
              exact ⟨_, c, dc, c', a, rfl, e2, rc, hf, fun dc' b rc' rb => let ⟨w', s'⟩ := w.updA q ei rc'; h ρ _ b w' s' rb⟩
    | _ => exact h.elim
end

/-! ### lists that change -/
def lstC (xs : List D) : Option Cell := if xs.length ≤ sizeLine then some (.lst xs) else none
def mLstC (as : Mo (List D)) : Mo Cell := mBind as fun xs => mO (lstC xs)
def appC (y : D) (c : Cell) : Option (Cell × D) := match c with
  | .lst xs => if xs.length < sizeLine then some (.lst (xs ++ [y]), .non) else none
  | _ => none
def isLst (o : Opd) : Mo Unit := fun Γ A => match rdO o Γ A with
  | some (.lst _) => .ok () Γ A
  | _ => .no
def mApp (o : Mo Opd) (e : Mo D) : Mo D := mBind o fun x => mBind (isLst x) fun _ => mBind e fun y => updO x (appC y)
def putC (i y : D) (c : Cell) : Option (Cell × Unit) := match c, i with
  | .lst xs, .int j => (ixN xs.length j).map fun n => (.lst (xs.set n y), ())
  | _, _ => none
def mIxSet (e : Mo D) (o : Mo Opd) (i : Mo D) : Ms := mE e fun y => mE o fun x => mE i fun j => mE (updO x (putC j y)) fun _ Γ A => .nx Γ A
section
variable {κ : Kc} {X : Cx} {pos pos' spos apos cpos : Pos} {es : List Expr} {o i e : Expr} {as : Mo (List D)} {mo : Mo Opd} {me mi : Mo D} {mc : Mo Cell}
theorem mn_lst {E : L2.St → XK} (h : MA κ X E es as) : MN κ X E (.List es pos) (mLstC as) := let ⟨g, d, s⟩ := h.ex
  ⟨fun Γ M k kx => g Γ M (fun ds M1 => ds.length ≤ sizeLine ∧ k (.lst ds) M1) kx, de_lstM d, fun ρ Γ => sim_bind (rel := rC) (fb := fun (ds : List D) Γ M k kx => ds.length ≤ sizeLine ∧ k (Cell.lst ds) M) (s ρ Γ) fun ρ1 xs ds _ r => sim_o (o := lstC xs) fun M k kx t e q => by
    unfold lstC at e
    split at e
    · rename_i hl; cases e; exact ⟨by rw [RTs.length r]; exact hl, q _ (.lst r)⟩
    · cases e⟩
theorem me_new {E : L2.St → XK} (h : MN κ X E e mc) : ME κ X E e (mNew mc) := let ⟨f, d, s⟩ := h.ex
  ⟨_, d, fun ρ Γ => sim_bind (rel := rD) (fb := fun c Γ M k kx => ∀ p, M p = none → k (D.ref p) (upM M p c)) (s ρ Γ) fun ρ1 c dc _ r => sim_newA r⟩
theorem ms_setO {E : XK} (i : Nat) {x : Str} (hN : X.N.Nodup) (hi : X.N[i]? = some x) (hx : Loc X.env.scope x) (h : MN κ X (fun _ => E) e mc) (hs : swapsWith e (some (.Name x pos')) pos.line X.env = pure false := by rfl) (hf : X.fn x = true ∨ X.env.scope.names.lookup x = some .local := by first | exact .inl rfl | exact .inr rfl | assumption) :
    MS1 κ X E (.Assign [.Name x pos'] e pos) (mSetO i mc) := let ⟨f, d, s⟩ := h.ex
  ⟨_, ds_set i hN hi hx d hs hf, fun ρ Γ => sims_bind (fb := fun c N Γ M => ∀ p, M p = none → N.nx (Γ.set i (some (.ref p))) (upM M p c)) (s ρ Γ) fun ρ1 c dc _ r Γt A M N w h p hp => by
    split at h
    · exact h.elim
    · rename_i h0
      obtain ⟨w', s'⟩ := w.setO i h0 hp r
      exact h ρ1 _ _ w' s'⟩
theorem sim_isLst {ρ : List Addr} {Γ : GE} {o : Opd} {d : D} {fb : FX D} {g : Mo D} (r : rO ρ Γ o d) (h : SimAt κ rD ρ Γ fb g) : SimAt κ rD ρ Γ (fun Γ M k kx => (∃ xs, vw M d = .lst xs) ∧ fb Γ M k kx) (mBind (isLst o) fun _ => g) := fun Γt A M k kx w hh => by
  unfold mBind isLst at hh
  cases e : rdO o Γt A with
  | none => rw [e] at hh; exact hh.elim
  | some t =>
    rw [e] at hh
    have q := rd_rel w r e
    cases t with
    | lst xs =>
      refine ⟨?_, h Γt A M k kx w hh⟩
      generalize hv : vw M d = z at q
      cases q
      exact ⟨_, rfl⟩
    | _ => exact hh.elim
theorem me_app {E : L2.St → XK} (ho : MP κ X E o mo) (he : ME κ X E e me)
    (hbase : attributeBase o "append" X.env (eval o X.env) = eval o X.env := by rfl)
    (hline : (apos.endLine == cpos.line) = true := by rfl) (hs : starEach [e] X.env = (false, eval e X.env) :: starEach [] X.env := by rfl)
    (hfew' : ((backTo cpos (starEach [e] X.env)).all (fun x => !x.1) && (backToKw cpos (keywordEach [] X.env)).all (fun x => x.1.isSome)
      && decide ([e].length + ([] : List Keyword).length + (if ([] : List Keyword).isEmpty then 0 else 1) < 30)) = true := by rfl) :
    ME κ X E (.Call (.Attribute o "append" apos) [e] [] cpos) (mApp mo me) := let ⟨fo, d, s⟩ := ho.ex; let ⟨fe, d', s'⟩ := he.ex
  ⟨_, de_app d (da_cons d' da_nil hs) hbase hfew' hline hs rfl, fun ρ Γ => sim_bind (rel := rD) (fb := fun x Γ M k kx => (∃ xs, vw M x = .lst xs) ∧ fCons fe fNil Γ M (fun ds M2 => ∃ p xs y, x = .ref p ∧ ds = [y] ∧ M2 p = some (.lst xs) ∧ xs.length < sizeLine ∧ k D.non (upM M2 p (.lst (xs ++ [y])))) kx) (s ρ Γ) fun ρ1 x dx _ rx =>
    sim_isLst (fb := fun Γ M k kx => fCons fe fNil Γ M (fun ds M2 => ∃ p xs y, dx = .ref p ∧ ds = [y] ∧ M2 p = some (.lst xs) ∧ xs.length < sizeLine ∧ k D.non (upM M2 p (.lst (xs ++ [y])))) kx) rx
      (sim_bind (rel := rD) (fb := fun y Γ M k kx => ∃ p xs y', dx = .ref p ∧ [y] = [y'] ∧ M p = some (.lst xs) ∧ xs.length < sizeLine ∧ k D.non (upM M p (.lst (xs ++ [y'])))) (s' ρ1 Γ) fun ρ2 y dy p2 ry Γt A M k kx w h => by
        obtain ⟨p, c, dc, c', a, rfl, hp, rc, hf, hk⟩ := sim_upd w (rO_mono p2 rx) h
        cases rc with
        | lst rl =>
          simp only [appC] at hf
          split at hf
          · rename_i hl
            cases hf
            exact ⟨p, _, dy, rfl, rfl, hp, by rw [rl.length]; exact hl, hk _ _ (.lst (rl.append (.cons ry .nil))) .non⟩
          · cases hf
        | _ => cases hf)⟩
theorem ms_ixSet {E : XK} (he : ME κ X (fun _ => E) e me) (ho : MP κ X (fun _ => E) o mo) (hi : ME κ X (fun _ => E) i mi)
    (ha : ∀ v, assign (.Subscript o i spos) X.env v = (do
      let ov ← holding [v] (eval o X.env)
      let iv ← holding [v, ov] (eval i X.env)
      standAt spos
      holding [v, ov, iv] (setItem ov iv v)
      release [v, ov, iv] []) := by intro _; rfl)
    (hs : swapsWithSole [.Subscript o i spos] e pos.line X.env = pure false := by rfl) (hw : swappedStores [.Subscript o i spos] e X.env = pure none := by rfl)
    (h1 : (assignEach [.Subscript o i spos] X.env).map (·.2) = [assign (.Subscript o i spos) X.env] := by rfl) : MS1 κ X E (.Assign [.Subscript o i spos] e pos) (mIxSet me mo mi) := let ⟨fe, d1, s1⟩ := he.ex; let ⟨fo, d2, s2⟩ := ho.ex; let ⟨fi, d3, s3⟩ := hi.ex
  ⟨_, ds_ixSet d1 d2 d3 ha hs hw h1, fun ρ Γ =>
    sims_bind (fb := fun y N Γ M => fo Γ M (fun x M2 => fi Γ M2 (fun i M3 => ∃ p ds j n, x = .ref p ∧ i = .int j ∧ M3 p = some (.lst ds) ∧ L2.ixN ds.length j = some n ∧ N.nx Γ (upM M3 p (.lst (ds.set n y)))) N.ex) N.ex) (s1 ρ Γ) fun ρ1 y dy q1 ry =>
    sims_bind (fb := fun x N Γ M => fi Γ M (fun i M3 => ∃ p ds j n, x = .ref p ∧ i = .int j ∧ M3 p = some (.lst ds) ∧ L2.ixN ds.length j = some n ∧ N.nx Γ (upM M3 p (.lst (ds.set n dy)))) N.ex) (s2 ρ1 Γ) fun ρ2 x dx q2 rx =>
    sims_bind (fb := fun i N Γ M => ∃ p ds j n, dx = .ref p ∧ i = .int j ∧ M p = some (.lst ds) ∧ L2.ixN ds.length j = some n ∧ N.nx Γ (upM M p (.lst (ds.set n dy)))) (s3 ρ2 Γ) fun ρ3 j dj q3 rj Γt A M N w h => by
      have h2 : Sat κ (fun _ _ (_ : Unit) (_ : Unit) => True) (updO x (putC j y) Γt A) ρ3 Γt A Γ M (fun _ M' => N.nx Γ M') N.ex := by
        unfold mE at h
        cases q : updO x (putC j y) Γt A with
        | ok a Γ' A' => rw [q] at h; exact fun ρ' M' b w' s' _ => h ρ' Γ M' w' s'
        | exc C fs Γ' A' => rw [q] at h; exact fun ρ' M' Ca gs w' s' => h ρ' M' Ca gs w'.hm s'.noOwn
        | no => rw [q] at h; exact h
      obtain ⟨p, c, dc, c', a, rfl, hp, rc, hf, hk⟩ := sim_upd w (rO_mono q3 rx) h2
      cases rc with
      | lst rl =>
        cases rj with
        | int jj =>
          simp only [putC, Option.map_eq_some_iff] at hf
          obtain ⟨n, hn, e⟩ := hf
          cases e
          exact ⟨p, _, jj, n, rfl, rfl, hp, by rw [rl.length]; exact hn, hk _ () (.lst (RTs.set (RT.mono (q2.trans q3) _ ry) n rl)) trivial⟩
        | _ => cases hf
      | _ => cases rj <;> cases hf⟩
end
end Fl

set_option Elab.async false
set_option linter.all false
set_option maxRecDepth 100000
set_option maxHeartbeats 2000000
/-! E6: freezing, comprehensions, while. -/
namespace Fl
open PySem PySem.Spec PyProof.Rows L2 Dl
/-! ### freezing -/
def fFrz0 (i : Nat) (f : FS) : FS := fun N Γ M => f N Γ M ∨ ∃ p c d, Γ[i]? = some (some (.ref p)) ∧ M p = some c ∧ treeOf c = some d ∧ f N (Γ.set i (some d)) (delM M p)
theorem Rep.frz1 {K : PySem.W.Frag} {F : Addr → Prop} {σ : L2.St} {H : Hp} {Γ : GE} {M : MS} {p i : Nat} {c : Cell} {d : D} (R : Rep K F σ H Γ M) (ei : Γ[i]? = some (some (.ref p))) (e : M p = some c) (t : treeOf c = some d) : Rep K F σ H (Γ.set i (some d)) (delM M p) := by
  refine ⟨fun j d' q => ?_, by rw [List.length_set]; exact R.len, R.mem.del p⟩
  by_cases hj : i = j
  · subst hj
    rw [List.getElem?_set_self (List.getElem?_eq_some_iff.mp ei).1] at q
    cases q
    obtain ⟨v, h1, h2⟩ := R.env i _ ei
    cases h2
    exact ⟨_, h1, frozen R.mem e t⟩
  · rw [List.getElem?_set_ne hj] at q
    obtain ⟨v, h1, h2⟩ := R.env j d' q
    exact ⟨v, h1, IsV.kp kp_del _ _ h2⟩
theorem li_frz0 {K : PySem.W.Frag} {E : XK} {i : Nat} {f : FS} {D : Ends} {σ : L2.St} {H : Hp} (h : liS K E (fFrz0 i f) D σ H) : liS K E f D σ H := by
  obtain ⟨F, Γ, M, N, R, q, L⟩ := h
  rcases q with q | ⟨p, c, d, ei, e, t, q⟩
  · exact ⟨F, Γ, M, N, R, q, L⟩
  · exact ⟨F, _, _, N, Rep.frz1 R ei e t, q, L.go Go.del⟩
def mFrz (i : Nat) (m : Ms) : Ms := fun Γ A => match Γ[i]? with
  | some (.own c) => m (Γ.set i (.val (cellD c))) A
  | _ => m Γ A
theorem Wd.frz {κ : Kc} {ρ : List Addr} {Γ : GE} {Γt : SG} {A : AH} {M : MS} {p i : Nat} {c dc : Cell} {d : D} (w : Wd κ ρ Γt A Γ M) (ei : Γt[i]? = some (.own c)) (ep : Γ[i]? = some (some (.ref p))) (r : RT ρ (cellD c) d) :
    Wd κ ρ (Γt.set i (.val (cellD c))) A (Γ.set i (some d)) (delM M p) ∧ Stp ρ A M (Own Γt Γ) ρ A (delM M p) (Own (Γt.set i (.val (cellD c))) (Γ.set i (some d))) := by
  obtain ⟨p', dc0, ep', e2, _, nl⟩ := w.own i c ei
  rw [ep] at ep'
  cases ep'
  have hl : i < Γt.length := (List.getElem?_eq_some_iff.mp ei).1
  have ne : ∀ {j : Nat} {c : Cell} {x : D}, (Γt.set i (.val x))[j]? = some (.own c) → i ≠ j ∧ Γt[j]? = some (.own c) := fun {j c x} e => by
    by_cases hj : i = j
    · subst hj
      rw [List.getElem?_set_self hl] at e
      cases e
    · rw [List.getElem?_set_ne hj] at e
      exact ⟨hj, e⟩
  refine ⟨⟨⟨w.hm.pre, w.hm.len, fun j c' e => ?_, w.hm.inj⟩, by rw [List.length_set, List.length_set]; exact w.len, fun j t e => ?_, fun j c' e => ?_, fun j l c1 c2 e1 e3 q => ?_, fun pp c' hpp e => by obtain ⟨hj, e⟩ := ne e; rw [List.getElem?_set_ne hj]; exact w.pin pp c' hpp e⟩, ⟨List.prefix_refl _, fun a h1 h2 h3 => delM_ne fun q => h3 ⟨i, c, ei, by rw [q]; exact ep⟩, fun a z => z.elim .inl fun z => .inr (.inl (own_set z))⟩⟩
  · obtain ⟨a, dc', e1, e3, e4⟩ := w.hm.cel j c' e
    exact ⟨a, dc', e1, by rw [delM_ne (fun q : a = p => nl (by rw [← q]; exact ⟨j, c', e, e1⟩))]; exact e3, e4⟩
  · by_cases hj : i = j
    · subst hj
      rw [List.getElem?_set_self hl] at e
      cases e
      exact ⟨d, by rw [List.getElem?_set_self (by rw [w.len]; exact hl)], r⟩
    · rw [List.getElem?_set_ne hj] at e ⊢
      exact w.val j t e
  · obtain ⟨hj, e⟩ := ne e
    rw [List.getElem?_set_ne hj]
    obtain ⟨q, dc', e1, e3, r1, nl'⟩ := w.own j c' e
    exact ⟨q, dc', e1, by rw [delM_ne fun z => hj (w.sep i j c c' ei e (by rw [ep, e1, z]))]; exact e3, r1, nl'⟩
  · obtain ⟨hj, e1⟩ := ne e1
    obtain ⟨hl', e3⟩ := ne e3
    rw [List.getElem?_set_ne hj, List.getElem?_set_ne hl'] at q
    exact w.sep j l c1 c2 e1 e3 q
theorem sims_frz {κ : Kc} {i : Nat} {f : FS} {m : Ms} (s : SimS κ f m) : SimS κ (fFrz0 i f) (mFrz i m) := fun ρ Γ Γt A M N w h => by
  unfold mFrz at h
  cases q : Γt[i]? with
  | none => rw [q] at h; exact .inl (s ρ Γ Γt A M N w h)
  | some sl =>
    rw [q] at h
    cases sl with
    | no => exact .inl (s ρ Γ Γt A M N w h)
    | val _ => exact .inl (s ρ Γ Γt A M N w h)
    | own c =>
      obtain ⟨p, dc, e1, e2, rc, nl⟩ := w.own i c q
      obtain ⟨r, ht⟩ := rc.tree p
      obtain ⟨w', s'⟩ := w.frz (dc := dc) q e1 r
      exact .inr ⟨p, dc, _, e1, e2, ht, s ρ _ _ A _ N w' (SatS.step s' h)⟩
section
variable {κ : Kc} {X : Cx} {E : XK} {st : Stmt} {sts : List Stmt} {m : Ms}
theorem ms_frz (i : Nat) (h : MS1 κ X E st m) : MS1 κ X E st (mFrz i m) := let ⟨f, d, s⟩ := h.ex; ⟨_, ps_w d fun _ _ _ => li_frz0 (i := i), sims_frz s⟩
theorem mss_frz (i : Nat) (h : MSs κ X E sts m) : MSs κ X E sts (mFrz i m) := let ⟨f, d, s⟩ := h.ex; ⟨_, pss_w d fun _ _ _ => li_frz0 (i := i), sims_frz s⟩
end

/-! ### comprehensions -/
def wipeT (Γ : SG) : List Nat → SG
  | [] => Γ
  | v :: vs => (wipeT Γ vs).set v .no
def putBack (Γ0 Γ : SG) : List Nat → SG
  | [] => Γ
  | v :: vs => (putBack Γ0 Γ vs).set v (match Γ0[v]? with | some (.val d) => .val d | _ => .no)
theorem wipeT_at (Γ : SG) (j : Nat) : ∀ vs : List Nat, (wipeT Γ vs)[j]? = if j ∈ vs then (Γ[j]?).map (fun _ => .no) else Γ[j]?
  | [] => by simp [wipeT]
  | v :: vs => by
    show ((wipeT Γ vs).set v .no)[j]? = _
    by_cases hj : v = j
    · subst hj
      rw [List.getElem?_set_self', wipeT_at Γ v vs]
      by_cases hm : v ∈ vs <;> cases Γ[v]? <;> simp [hm]
    · rw [List.getElem?_set_ne hj, wipeT_at Γ j vs]
      have e : (j ∈ v :: vs) ↔ j ∈ vs := by
        rw [List.mem_cons]
        exact ⟨fun z => z.elim (fun q => absurd q.symm hj) id, .inr⟩
      by_cases hm : j ∈ vs
      · rw [if_pos hm, if_pos (e.mpr hm)]
      · rw [if_neg hm, if_neg (fun z => hm (e.mp z))]
theorem wipeT_len (Γ : SG) : ∀ vs : List Nat, (wipeT Γ vs).length = Γ.length
  | [] => rfl
  | v :: vs => by
    show ((wipeT Γ vs).set v .no).length = _
    rw [List.length_set]
    exact wipeT_len Γ vs
theorem wipeG_at (Γ : GE) (j : Nat) : ∀ vs : List Nat, j ∉ vs → (wipeG Γ vs)[j]? = Γ[j]?
  | [], _ => rfl
  | v :: vs, h => by
    show ((wipeG Γ vs).set v none)[j]? = _
    rw [List.getElem?_set_ne (fun q => h (by rw [q]; exact List.mem_cons_self))]
    exact wipeG_at Γ j vs fun z => h (List.mem_cons_of_mem _ z)
theorem wipeG_len (Γ : GE) : ∀ vs : List Nat, (wipeG Γ vs).length = Γ.length
  | [] => rfl
  | v :: vs => by
    show ((wipeG Γ vs).set v none).length = _
    rw [List.length_set]
    exact wipeG_len Γ vs
theorem putBack_at (Γ0 Γ : SG) (j : Nat) : ∀ vs : List Nat, (j ∉ vs → (putBack Γ0 Γ vs)[j]? = Γ[j]?) ∧ (j ∈ vs → ∀ s, (putBack Γ0 Γ vs)[j]? = some s → s = .no ∨ ∃ d, s = .val d ∧ Γ0[j]? = some (.val d))
  | [] => ⟨fun _ => rfl, fun z => by cases z⟩
  | v :: vs => by
    obtain ⟨h1, h2⟩ := putBack_at Γ0 Γ j vs
    refine ⟨fun h => ?_, fun h s e => ?_⟩
    · show ((putBack Γ0 Γ vs).set v _)[j]? = _
      rw [List.getElem?_set_ne (fun q => h (by rw [q]; exact List.mem_cons_self))]
      exact h1 fun z => h (List.mem_cons_of_mem _ z)
    · have e : ((putBack Γ0 Γ vs).set v (match Γ0[v]? with | some (.val d) => .val d | _ => .no))[j]? = some s := e
      by_cases hj : v = j
      · subst hj
        rw [List.getElem?_set_self'] at e
        cases q : (putBack Γ0 Γ vs)[v]? with
        | none => rw [q] at e; cases e
        | some z =>
          rw [q] at e
          replace e := Option.some.inj e
          cases q2 : Γ0[v]? with
          | none => rw [q2] at e; exact .inl e.symm
          | some y =>
            rw [q2] at e
            cases y with
            | val d => exact .inr ⟨d, e.symm, rfl⟩
            | no => exact .inl e.symm
            | own _ => exact .inl e.symm
      · rw [List.getElem?_set_ne hj] at e
        exact h2 ((List.mem_cons.mp h).resolve_left fun q => hj q.symm) s e
theorem putBack_len (Γ0 Γ : SG) : ∀ vs : List Nat, (putBack Γ0 Γ vs).length = Γ.length
  | [] => rfl
  | v :: vs => by
    show ((putBack Γ0 Γ vs).set v _).length = _
    rw [List.length_set]
    exact putBack_len Γ0 Γ vs
section
variable {κ : Kc} {ρ : List Addr} {Γ Γ1 : GE} {Γt : SG} {A : AH} {M : MS}
theorem Wd.wipe (w : Wd κ ρ Γt A Γ M) (vs : List Nat) (hl : Γ1.length = Γ.length) (h : ∀ j, j ∉ vs → Γ1[j]? = Γ[j]?) : Wd κ ρ (wipeT Γt vs) A Γ1 M ∧ ∀ a, Own (wipeT Γt vs) Γ1 a → Own Γt Γ a := by
  have at_ : ∀ {j : Nat} {s : Sl}, (wipeT Γt vs)[j]? = some s → s ≠ .no → Γt[j]? = some s ∧ Γ1[j]? = Γ[j]? := fun {j s} e n => by
    rw [wipeT_at] at e
    by_cases hm : j ∈ vs
    · rw [if_pos hm] at e
      cases q : Γt[j]? with
      | none => rw [q] at e; cases e
      | some _ => rw [q] at e; cases e; exact absurd rfl n
    · rw [if_neg hm] at e
      exact ⟨e, h j hm⟩
  refine ⟨⟨w.hm, by rw [wipeT_len, hl]; exact w.len, fun j t e => ?_, fun j c e => ?_, fun j l c c' e e' q => ?_, fun pp c hpp e => by obtain ⟨e1, e2⟩ := at_ e nofun; rw [e2]; exact w.pin pp c hpp e1⟩, fun a ⟨j, c, e, e'⟩ => ?_⟩
  · obtain ⟨e1, e2⟩ := at_ e nofun
    rw [e2]
    exact w.val j t e1
  · obtain ⟨e1, e2⟩ := at_ e nofun
    rw [e2]
    exact w.own j c e1
  · obtain ⟨e1, e2⟩ := at_ e nofun
    obtain ⟨e3, e4⟩ := at_ e' nofun
    rw [e2, e4] at q
    exact w.sep j l c c' e1 e3 q
  · obtain ⟨e1, e2⟩ := at_ e nofun
    exact ⟨j, c, e1, by rw [← e2]; exact e'⟩
/-- back to the frame's slots -/
theorem Wd.back {ρ0 : List Addr} {Γt0 : SG} {A0 : AH} {M0 : MS} (w0 : Wd κ ρ0 Γt0 A0 Γ M0) (pre : ρ0 <+: ρ) (vs : List Nat) (w : Wd κ ρ Γt A Γ1 M) (hl : Γt.length = Γt0.length) (h : ∀ j, j ∉ vs → Γ1[j]? = Γ[j]?) :
    Wd κ ρ (putBack Γt0 Γt vs) A Γ M ∧ ∀ a, Own (putBack Γt0 Γt vs) Γ a → Own Γt Γ1 a := by
  have at_ : ∀ {j : Nat} {c : Cell}, (putBack Γt0 Γt vs)[j]? = some (.own c) → Γt[j]? = some (.own c) ∧ Γ1[j]? = Γ[j]? := fun {j c} e => by
    obtain ⟨h1, h2⟩ := putBack_at Γt0 Γt j vs
    by_cases hm : j ∈ vs
    · rcases h2 hm _ e with z | ⟨d, z, _⟩ <;> cases z
    · rw [h1 hm] at e
      exact ⟨e, h j hm⟩
  refine ⟨⟨w.hm, by rw [putBack_len, hl]; exact w0.len, fun j t e => ?_, fun j c e => ?_, fun j l c c' e e' q => ?_, fun pp c hpp e => by obtain ⟨e1, e2⟩ := at_ e; rw [← e2]; exact w.pin pp c hpp e1⟩, fun a ⟨j, c, e, e'⟩ => ?_⟩
  · obtain ⟨h1, h2⟩ := putBack_at Γt0 Γt j vs
    by_cases hm : j ∈ vs
    · rcases h2 hm _ e with z | ⟨d, z, e0⟩
      · cases z
      · cases z
        obtain ⟨d', e1, r⟩ := w0.val j t e0
        exact ⟨d', e1, RT.mono pre _ r⟩
    · rw [h1 hm] at e
      obtain ⟨d', e1, r⟩ := w.val j t e
      exact ⟨d', by rw [← h j hm]; exact e1, r⟩
  · obtain ⟨e1, e2⟩ := at_ e
    rw [← e2]
    exact w.own j c e1
  · obtain ⟨e1, e2⟩ := at_ e
    obtain ⟨e3, e4⟩ := at_ e'
    rw [← e2, ← e4] at q
    exact w.sep j l c c' e1 e3 q
  · obtain ⟨e1, e2⟩ := at_ e
    exact ⟨j, c, e1, by rw [e2]; exact e'⟩
end
def mLcL (t : Tg) (tt : Mo Bool) (te : Mo D) (vs : List Nat) : List D → List D → Mo (List D)
  | [], acc => mRet acc
  | x :: xs, acc => fun Γ A => match t x Γ with
    | none => .no
    | some Γ1 => match tt Γ1 A with
      | .ok b Γ2 A2 => if b = true then (match te Γ2 A2 with
          | .ok y Γ3 A3 => if acc.length < sizeLine then mLcL t tt te vs xs (acc ++ [y]) (wipeT Γ3 vs) A3 else .no
          | _ => .no) else mLcL t tt te vs xs acc (wipeT Γ2 vs) A2
      | _ => .no
def mLc (mi : Mo (List D)) (t : Tg) (tt : Mo Bool) (te : Mo D) (vs : List Nat) : Mo (List D) := mBind mi fun xs Γ A => match mLcL t tt te vs xs [] (wipeT Γ vs) A with
  | .ok ds Γ' A' => .ok ds (putBack Γ Γ' vs) A'
  | _ => .no
def SatL (κ : Kc) (o : R (List D)) (ρ : List Addr) (Γt : SG) (A : AH) (Γ : GE) (M : MS) (k : List D → MS → Prop) : Prop := match o with
  | .ok a Γt' A' => ∀ ρ' M' b, Wd κ ρ' Γt' A' Γ M' → Stp ρ A M (Own Γt Γ) ρ' A' M' (Own Γt' Γ) → RTs ρ' a b → k b M'
  | _ => False
theorem SatL.step {κ : Kc} {ρ ρ1 : List Addr} {Γ : GE} {o : R (List D)} {Γt Γ1 : SG} {A A1 : AH} {M M1 : MS} {k : List D → MS → Prop} (s : Stp ρ A M (Own Γt Γ) ρ1 A1 M1 (Own Γ1 Γ)) (h : SatL κ o ρ Γt A Γ M k) : SatL κ o ρ1 Γ1 A1 Γ M1 k := by
  cases o with
  | ok a Γ' A' => exact fun ρ' M' b w t r => h ρ' M' b w (s.trans t) r
  | exc C fs Γ' A' => exact h
  | no => exact h
theorem sim_lcL {κ : Kc} {g : FG} {t : Tg} {js vs : List Nat} {ft : FT} {tt : Mo Bool} {fe : FE} {te : Mo D} (hjs : ∀ j ∈ js, j ∈ vs) (hg : SimG κ g t js) (ht : Sim κ rB ft tt) (he : Sim κ rD fe te) (Γ : GE) (k : List D → MS → Prop) :
    ∀ (xs ds acc accd : List D) (ρ : List Addr) (Γt : SG) (A : AH) (M : MS), RTs ρ xs ds → RTs ρ acc accd → Wd κ ρ Γt A Γ M → SatL κ (mLcL t tt te vs xs acc Γt A) ρ Γt A Γ M k → LcD g ft fe Γ k ds accd M
  | [], _, acc, accd, ρ, Γt, A, M, r, ra, w, h => by
    cases r
    exact h ρ M accd w Stp.refl ra
  | x :: xs, _, acc, accd, ρ, Γt, A, M, r, ra, w, h => by
    cases r with
    | @cons _ y _ ds r1 r2 =>
      simp only [mLcL] at h
      cases e : t x Γt with
      | none => rw [e] at h; exact h.elim
      | some Γt1 =>
        simp only [e] at h
        refine hg ρ Γt A Γ M x y _ Γt1 w r1 e fun Γ1 q => ?_
        have s1 : Stp ρ A M (Own Γt Γ) ρ A M (Own Γt1 Γ1) := Stp.refl.lessO q.own
        have out : ∀ j, j ∉ vs → Γ[j]? = Γ1[j]? := fun j hj => (q.out j fun z => hj (hjs j z)).1.symm
        have len : Γ.length = Γ1.length := by rw [q.wd.len, q.len, w.len]
        refine ht ρ Γ1 Γt1 A M _ _ q.wd ?_
        cases e2 : tt Γt1 A with
        | exc C fs Γ2 A2 => simp only [e2] at h; exact h.elim
        | no => simp only [e2] at h; exact h.elim
        | ok b Γt2 A2 =>
          simp only [e2] at h
          intro ρ2 M2 b' w2 s2 rb
          cases rb
          cases b with
          | false =>
            obtain ⟨w3, o3⟩ := w2.wipe vs (Γ1 := Γ) len out
            exact sim_lcL hjs hg ht he Γ k xs ds acc accd ρ2 _ A2 M2 (RTs.mono s2.pre _ r2) (RTs.mono s2.pre _ ra) w3 (SatL.step ((s1.trans s2).lessO o3) h)
          | true =>
            refine he ρ2 Γ1 Γt2 A2 M2 _ _ w2 ?_
            cases e3 : te Γt2 A2 with
            | exc C fs Γ3 A3 => simp only [e3] at h; exact h.elim
            | no => simp only [e3] at h; exact h.elim
            | ok z Γt3 A3 =>
              simp only [e3] at h
              intro ρ3 M3 z' w3 s3 rz
              split at h
              · rename_i hq
                split at h
                · rename_i hlt
                  obtain ⟨w4, o4⟩ := w3.wipe vs (Γ1 := Γ) len out
                  refine ⟨by rw [RTs.length ra]; exact hlt, ?_⟩
                  exact sim_lcL hjs hg ht he Γ k xs ds (acc ++ [z]) (accd ++ [z']) ρ3 _ A3 M3 (RTs.mono (s2.pre.trans s3.pre) _ r2) ((RTs.mono (s2.pre.trans s3.pre) _ ra).append (.cons rz .nil)) w4 (SatL.step (((s1.trans s2).trans s3).lessO o4) h)
                · exact h.elim
              · rename_i hq; exact (hq trivial).elim
/-! ### readings by the function alone -/
def fOf {α β : Type} (κ : Kc) (rel : Rl α β) (m : Mo α) : FX β := fun Γ M k kx => ∃ ρ Γt A, Wd κ ρ Γt A Γ M ∧ Sat κ rel (m Γt A) ρ Γt A Γ M k kx
theorem sim_of {α β : Type} {κ : Kc} {rel : Rl α β} {m : Mo α} : Sim κ rel (fOf κ rel m) m := fun ρ Γ Γt A M k kx w h => ⟨ρ, Γt, A, w, h⟩
def gOf (κ : Kc) (t : Tg) (js : List Nat) : FG := fun d Γ k => ∃ ρ Γt A M x Γt1, Wd κ ρ Γt A Γ M ∧ RT ρ x d ∧ t x Γt = some Γt1 ∧ ∀ Γ1, GOk κ ρ Γt Γt1 A Γ Γ1 M js → k Γ1
theorem simG_of {κ : Kc} {t : Tg} {js : List Nat} : SimG κ (gOf κ t js) t js := fun ρ Γt A Γ M x d k Γt1 w r e h => ⟨ρ, Γt, A, M, x, Γt1, w, r, e, h⟩
section
variable {κ : Kc} {X : Cx} {E : L2.St → XK} {e tg : Expr} {es : List Expr} {m : Mo D} {mt : Mo Bool} {as : Mo (List D)} {t : Tg} {js : List Nat}
theorem ME.de (h : ME κ X E e m) : DE X E e (fOf κ rD m) := let ⟨f, d, s⟩ := h.ex; pe_w d fun σ H Q ⟨F, Γ, M, k, kx, R, ⟨ρ, Γt, A, w, q⟩, LX, L⟩ => ⟨F, Γ, M, k, kx, R, s ρ Γ Γt A M k kx w q, LX, L⟩
theorem MT.dt (h : MT κ X E e mt) : DT X E e (fOf κ rB mt) := let ⟨f, d, s⟩ := h.ex; pt_w d fun σ H Q ⟨F, Γ, M, k, kx, R, ⟨ρ, Γt, A, w, q⟩, LX, L⟩ => ⟨F, Γ, M, k, kx, R, s ρ Γ Γt A M k kx w q, LX, L⟩
theorem MG.dg (h : MG κ X tg t js) : DG X tg (gOf κ t js) js := let ⟨g, d, s⟩ := h.ex; pg_w d fun v σ H Q ⟨F, Γ, M, d, k, R, hv, ⟨ρ, Γt, A, M0, x, Γt1, w, r, e, q⟩, L⟩ => ⟨F, Γ, M, d, k, R, hv, s ρ Γt A Γ M0 x d k Γt1 w r e q, L⟩
end
structure MTs (κ : Kc) (X : Cx) (es : List Expr) (m : Mo Bool) : Prop where dt : DTs X es (fOf κ rB m)
def mYes : Mo Bool := mRet true
theorem mts_nil {κ : Kc} {X : Cx} : MTs κ X [] mYes := ⟨⟨fun pins s σ H Q I ⟨F, Γ, M, k, kx, R, ⟨ρ, Γt, A, w, q⟩, LX, L⟩ => dts_nil.run pins s σ H Q I ⟨F, Γ, M, k, kx, R, q ρ M true w Stp.refl rfl, LX, L⟩⟩⟩
theorem mts_one {κ : Kc} {X : Cx} {c : Expr} {m : Mo Bool} (h : MT κ X (fun _ => E0) c m) : MTs κ X [c] m := ⟨dts_one h.dt⟩
def mLcV (mi : Mo (List D)) (t : Tg) (tt : Mo Bool) (te : Mo D) (vs : List Nat) : Mo D := mBind (mLc mi t tt te vs) fun ds => mRet (.lst ds)
theorem sim_lc {κ : Kc} {fi : FA} {mi : Mo (List D)} {g : FG} {t : Tg} {js vs : List Nat} {ft : FT} {tt : Mo Bool} {fe : FE} {te : Mo D} (hjs : ∀ j ∈ js, j ∈ vs) (si : Sim κ rA fi mi) (hg : SimG κ g t js) (ht : Sim κ rB ft tt) (he : Sim κ rD fe te) : Sim κ rD (fLc fi g ft fe vs) (mLcV mi t tt te vs) := fun ρ Γ Γt A M k kx w h => by
  refine sim_bind (rel := rD) (fb := fun ds Γ M k kx => LcD g ft fe (wipeG Γ vs) (fun ds M2 => k (D.lst ds) M2) ds [] M) (mb := fun xs Γ A => (match mLcL t tt te vs xs [] (wipeT Γ vs) A with | .ok ds Γ' A' => .ok (.lst ds) (putBack Γ Γ' vs) A' | _ => .no)) (si ρ Γ) (fun ρ1 xs ds _ r Γt A M k kx w h => ?_) Γt A M k kx w ?_
  · obtain ⟨w1, o1⟩ := w.wipe vs (Γ1 := wipeG Γ vs) (wipeG_len Γ vs) fun j hj => wipeG_at Γ j vs hj
    refine sim_lcL hjs hg ht he (wipeG Γ vs) _ xs ds [] [] ρ1 (wipeT Γt vs) A M r .nil w1 ?_
    cases e : mLcL t tt te vs xs [] (wipeT Γt vs) A with
    | exc C fs Γ' A' => simp only [e] at h; exact h.elim
    | no => simp only [e] at h; exact h.elim
    | ok zs Γ' A' =>
      simp only [e] at h
      intro ρ' M' b w' s' rb
      have hl : Γ'.length = Γt.length := by rw [← w'.len, wipeG_len, w.len]
      obtain ⟨w2, o2⟩ := w.back s'.pre vs w' hl fun j hj => wipeG_at Γ j vs hj
      exact h ρ' M' (.lst b) w2 (((Stp.refl.lessO o1).trans s').lessO o2) (.lst rb)
  · have e : mLcV mi t tt te vs Γt A = mBind mi (fun xs Γ A => (match mLcL t tt te vs xs [] (wipeT Γ vs) A with | .ok ds Γ' A' => .ok (.lst ds) (putBack Γ Γ' vs) A' | _ => .no)) Γt A := by
      unfold mLcV mLc mBind
      cases mi Γt A with
      | ok xs Γ1 A1 =>
        show R.bind (match mLcL t tt te vs xs [] (wipeT Γ1 vs) A1 with | .ok ds Γ' A' => .ok ds (putBack Γ1 Γ' vs) A' | _ => .no) _ = _
        simp only [R.bind]
        cases mLcL t tt te vs xs [] (wipeT Γ1 vs) A1 <;> rfl
      | exc _ _ _ _ => rfl
      | no => rfl
    rw [e] at h
    exact h
section
variable {κ : Kc} {X : Cx}
theorem me_lc {E : L2.St → XK} {elt tg iter : Expr} {ifs : List Expr} {scope : Scope} (own : List (Str × Nat)) {pos : Pos} {mi : Mo (List D)} {t : Tg} {js : List Nat} {tt : Mo Bool} {te : Mo D} (hc : X.calm = true) (hN : X.N.Nodup) (hi : MI κ X E tg iter mi) (ok : BlkOk X.N X.env.scope scope own)
    (hg : ∀ (s : Shared) (H : Hp) (C : Addr) (cl : List (Str × Addr)) (fp : List Addr), MG κ (X.blk s H scope (compEnvC scope cl C X.env) fp) tg t js) (ht : ∀ (s : Shared) (H : Hp) (C : Addr) (cl : List (Str × Addr)) (fp : List Addr), MTs κ (X.blk s H scope (compEnvC scope cl C X.env) fp) ifs tt)
    (he : ∀ (s : Shared) (H : Hp) (C : Addr) (cl : List (Str × Addr)) (fp : List Addr), ME κ (X.blk s H scope (compEnvC scope cl C X.env) fp) (fun _ => E0) elt te) (hjs : ∀ j ∈ js, j ∈ own.map (·.2) := by decide) (hs : ∀ x, foldedSetIterable iter X.env x = pure x := by intro _; rfl) :
    ME κ X E (.ListComp elt [⟨tg, iter, ifs, 0⟩] scope pos) (mLcV mi t tt te (own.map (·.2))) := let ⟨_, d, s⟩ := hi.ex
  ⟨_, de_lc own hc hN d ok (fun s H C cl fp => (hg s H C cl fp).dg) (fun s H C cl fp => (ht s H C cl fp).dt) (fun s H C cl fp => (he s H C cl fp).de) hjs hs, sim_lc hjs s simG_of sim_of sim_of⟩
theorem ms_setLc {E : XK} (i : Nat) {y : Str} {py : Pos} {elt tg iter : Expr} {ifs : List Expr} {scope : Scope} (own : List (Str × Nat)) {pos spos : Pos} {mi : Mo (List D)} {t : Tg} {js : List Nat} {tt : Mo Bool} {te : Mo D} (hc : X.calm = true) (hN : X.N.Nodup) (hy : X.N[i]? = some y) (hyl : X.env.scope.names.lookup y = some .local)
    (hsw : swapsWith (.ListComp elt [⟨tg, iter, ifs, 0⟩] scope pos) (some (.Name y py)) spos.line X.env = pure true) (hi : MI κ X (fun _ => E) tg iter mi) (ok : BlkOk X.N X.env.scope scope own)
    (hg : ∀ (s : Shared) (H : Hp) (C : Addr) (cl : List (Str × Addr)) (fp : List Addr), MG κ (X.blk s H scope (compEnvC scope cl C X.env) fp) tg t js) (ht : ∀ (s : Shared) (H : Hp) (C : Addr) (cl : List (Str × Addr)) (fp : List Addr), MTs κ (X.blk s H scope (compEnvC scope cl C X.env) fp) ifs tt)
    (he : ∀ (s : Shared) (H : Hp) (C : Addr) (cl : List (Str × Addr)) (fp : List Addr), ME κ (X.blk s H scope (compEnvC scope cl C X.env) fp) (fun _ => E0) elt te) (hjs : ∀ j ∈ js, j ∈ own.map (·.2) := by decide) (hs : ∀ x, foldedSetIterable iter X.env x = pure x := by intro _; rfl) :
    MS1 κ X E (.Assign [.Name y py] (.ListComp elt [⟨tg, iter, ifs, 0⟩] scope pos) spos) (mSet i (mLcV mi t tt te (own.map (·.2)))) := let ⟨_, d, s⟩ := hi.ex
  ⟨_, ds_setLc i own hc hN hy hyl hsw d ok (fun s H C cl fp => (hg s H C cl fp).dg) (fun s H C cl fp => (ht s H C cl fp).dt) (fun s H C cl fp => (he s H C cl fp).de) hjs hs,
    fun ρ Γ => sims_bind (fb := fun x N Γ M => N.nx (Γ.set i (some x)) M) (sim_lc hjs s simG_of sim_of sim_of ρ Γ) fun ρ1 x dx _ r Γt A M N w h => h ρ1 _ M (w.set i r) (Stp.refl.lessO fun _ z => own_set z)⟩
end

/-! ### while -/
def WhD (c : FT) (b : FS) (N : Nd) : Nat → GE → MS → Prop
  | 0, _, _ => False
  | n + 1, Γ, M => c Γ M (fun v M1 => if v = true then b { N with nx := WhD c b N n, ct := WhD c b N n, bk := N.nx } Γ M1 else N.nx Γ M1) N.ex
def fWh (c : FT) (b : FS) : FS := fun N Γ M => ∃ n, WhD c b N n Γ M
theorem ds_while {X : Cx} {E : XK} {c : Expr} {body : List Stmt} {fc : FT} {fb : FS} {pos : Pos} (hp : PassesOwn (model X.prog X.w) X.A X.env X.xe) (hc : DT X (fun _ => E) c fc) (hb : DSs X E body fb) : DS X E (.While c body [] pos) (fWh fc fb) :=
  ps_w (ps_while hp hc hb) fun D σ H ⟨F, Γ, M, N, R, ⟨n, q⟩, L⟩ => by
    refine ⟨fun m σ' H' => ∃ Γ' M', Rep X.K F σ' H' Γ' M' ∧ Go H M H' M' ∧ WhD fc fb N m Γ' M', ⟨n, Γ, M, R, Go.refl _ _, q⟩, ?_⟩
    rintro m σ' H' ⟨Γ', M', R', g', h'⟩
    cases m with
    | zero => exact h'.elim
    | succ m =>
      refine ⟨F, Γ', M', _, N.ex, R', h', L.ex.go g', fun v M1 H1 hv g1 R1 => ?_⟩
      have G := g'.trans g1
      cases v with
      | false => exact L.nx _ _ _ _ hv G (R'.go g1 R1)
      | true =>
        refine ⟨fun σ2 H2 => ∃ Γ2 M2, Rep X.K F σ2 H2 Γ2 M2 ∧ Go H M H2 M2 ∧ WhD fc fb N m Γ2 M2, fun σ2 H2 h2 => ⟨m, Nat.lt_succ_self _, h2⟩, ?_⟩
        have nxt : LinkN X.K F H1 M1 (WhD fc fb N m) (fun σ2 H2 => ∃ Γ2 M2, Rep X.K F σ2 H2 Γ2 M2 ∧ Go H M H2 M2 ∧ WhD fc fb N m Γ2 M2) := fun Γ4 M4 σ4 H4 h4 g4 R4 => ⟨Γ4, M4, R4, G.trans g4, h4⟩
        exact ⟨F, Γ', M1, _, R'.go g1 R1, hv, ⟨nxt, L.rt.go G, L.nx.go G, nxt, L.ex.go G⟩⟩
def mWhL (c : Mo Bool) (b : Ms) : Nat → Ms
  | 0 => fun _ _ => .no
  | n + 1 => fun Γ A => match c Γ A with
    | .ok v Γ1 A1 => if v = true then (match b Γ1 A1 with
        | .nx Γ2 A2 => mWhL c b n Γ2 A2
        | .cnt Γ2 A2 => mWhL c b n Γ2 A2
        | .brk Γ2 A2 => .nx Γ2 A2
        | .ret d Γ2 A2 => .ret d Γ2 A2
        | .exc C fs Γ2 A2 => .exc C fs Γ2 A2
        | .no => .no) else .nx Γ1 A1
    | .exc C fs Γ1 A1 => .exc C fs Γ1 A1
    | .no => .no
theorem sims_wh {κ : Kc} {fc : FT} {c : Mo Bool} {fb : FS} {b : Ms} (hc : Sim κ rB fc c) (hb : SimS κ fb b) : ∀ (n : Nat) ρ Γ, SimSAt κ ρ Γ (fun N Γ M => WhD fc fb N n Γ M) (mWhL c b n)
  | 0, ρ, Γ => fun Γt A M N w h => h.elim
  | n + 1, ρ, Γ => fun Γt A M N w h => by
    refine hc ρ Γ Γt A M _ _ w ?_
    simp only [mWhL] at h
    cases e : c Γt A with
    | no => simp only [e] at h; exact h.elim
    | exc C fs Γ1 A1 =>
      simp only [e] at h
      exact fun ρ' M' Ca gs w' s' => h ρ' M' Ca gs w'.hm s'.noOwn
    | ok v Γt1 A1 =>
      simp only [e] at h
      intro ρ1 M1 v' w1 s1 rv
      cases rv
      cases v with
      | false => exact h ρ1 Γ M1 w1 s1
      | true =>
        refine hb ρ1 Γ Γt1 A1 M1 _ w1 ?_
        simp only [if_true] at h
        cases e2 : b Γt1 A1 with
        | nx Γ2 A2 =>
          simp only [e2] at h
          exact fun ρ' Γ' M' w' st => sims_wh hc hb n ρ' Γ' Γ2 A2 M' N w' (SatS.step (s1.trans st) h)
        | cnt Γ2 A2 =>
          simp only [e2] at h
          exact fun ρ' Γ' M' w' st => sims_wh hc hb n ρ' Γ' Γ2 A2 M' N w' (SatS.step (s1.trans st) h)
        | brk Γ2 A2 =>
          simp only [e2] at h
          exact fun ρ' Γ' M' w' st => h ρ' Γ' M' w' (s1.trans st)
        | ret d Γ2 A2 =>
          simp only [e2] at h
          exact fun ρ' M' d' w' st => h ρ' M' d' w' (s1.trans st)
        | exc C fs Γ2 A2 =>
          simp only [e2] at h
          exact fun ρ' M' Ca gs w' st => h ρ' M' Ca gs w' (s1.trans st)
        | no => simp only [e2] at h; exact h.elim
def mWh (n : Nat) (c : Mo Bool) (b : Ms) : Ms := mWhL c b n
theorem ms_while {κ : Kc} {X : Cx} {E : XK} {c : Expr} {body : List Stmt} {mc : Mo Bool} {mb : Ms} {pos : Pos} (n : Nat) (hp : PassesOwn (model X.prog X.w) X.A X.env X.xe) (hc : MT κ X (fun _ => E) c mc) (hb : MSs κ X E body mb) : MS1 κ X E (.While c body [] pos) (mWh n mc mb) := let ⟨f, d, s⟩ := hc.ex; let ⟨fb, d2, s2⟩ := hb.ex
  ⟨_, ds_while hp d d2, fun ρ Γ Γt A M N w h => ⟨n, sims_wh s s2 n ρ Γ Γt A M N w h⟩⟩
end Fl

set_option Elab.async false
set_option linter.all false
set_option maxRecDepth 100000
set_option maxHeartbeats 4000000
/-! E7: defs, calls, of the functional layer. -/
namespace Fl
open PySem PySem.Spec PyProof.Rows L2 Dl
inductive RF where
  | ok (d : D) (A : AH) | exc (C : Nat) (fs : List (Str × D)) (A : AH) | no
abbrev Fn := List D → AH → RF
def SatF (cl : List Addr) (o : RF) (ρ : List Addr) (A : AH) (M : MS) (k : KD) (kx : KX) : Prop := match o with
  | .ok t A' => ∀ ρ' M' d, HM cl ρ' A' M' → Stp ρ A M NoOwn ρ' A' M' NoOwn → RT ρ' t d → k d M'
  | .exc C fs A' => ∀ ρ' M' Ca gs, HM cl ρ' A' M' → Stp ρ A M NoOwn ρ' A' M' NoOwn → ρ'[C]? = some Ca → RTf ρ' fs gs → kx Ca gs M'
  | .no => False
def pfT (cl : List Addr) (F : Fn) : FNx := fun ds M k kx => ∃ ρ ts A, HM cl ρ A M ∧ RTs ρ ts ds ∧ SatF cl (F ts A) ρ A M k kx
def startT (n : Nat) (ds : List D) : SG := ds.map .val ++ List.replicate (n - ds.length) .no
def RS.toF (r : RS) : RF := match r with
  | .nx _ A => .ok .non A
  | .ret d _ A => .ok d A
  | .exc C fs _ A => .exc C fs A
  | _ => .no
def runF (np n : Nat) (b : Ms) : Fn := fun ds A => if ds.length = np then (b (startT n ds) A).toF else .no
theorem runF_len {np n : Nat} {b : Ms} {cl ρ : List Addr} {ds : List D} {A : AH} {M : MS} {k : KD} {kx : KX} (h : SatF cl (runF np n b ds A) ρ A M k kx) : ds.length = np := by
  unfold runF at h
  split at h
  · assumption
  · exact h.elim
theorem startT_get {n i : Nat} {ds : List D} {s : Sl} (h : (startT n ds)[i]? = some s) : (∃ d, ds[i]? = some d ∧ s = .val d) ∨ s = .no := by
  unfold startT at h
  by_cases hi : i < ds.length
  · rw [List.getElem?_append_left (by rw [List.length_map]; exact hi), List.getElem?_map, List.getElem?_eq_getElem hi] at h
    exact .inl ⟨ds[i], List.getElem?_eq_getElem hi, (Option.some.inj h).symm⟩
  · rw [List.getElem?_append_right (by rw [List.length_map]; omega), List.getElem?_replicate] at h
    split at h
    · cases h; exact .inr rfl
    · cases h
theorem startG_get {N : List Str} {i : Nat} {ds : List D} {d : D} (h : ds[i]? = some d) : (startG N ds)[i]? = some (some d) := by
  unfold startG
  rw [List.getElem?_append_left (by rw [List.length_map]; exact (List.getElem?_eq_some_iff.mp h).1), List.getElem?_map, h]
  rfl
theorem wd_start {κ : Kc} {ρ : List Addr} {N : List Str} {ts ds : List D} {A : AH} {M : MS} (h : HM κ.cls ρ A M) (r : RTs ρ ts ds) : Wd κ ρ (startT N.length ts) A (startG N ds) M := by
  have no : ∀ {i : Nat} {c : Cell}, (startT N.length ts)[i]? = some (.own c) → False := fun {i c} e => by
    rcases startT_get e with ⟨d, _, e⟩ | e <;> cases e
  refine ⟨h, ?_, fun i t e => ?_, fun i c e => (no e).elim, fun i j c c' e _ _ => (no e).elim, fun p c _ e => (no e).elim⟩
  · unfold startG startT
    rw [List.length_append, List.length_append, List.length_map, List.length_map, List.length_replicate, List.length_replicate, r.length]
  · rcases startT_get e with ⟨d, e1, e2⟩ | e
    · cases e2
      obtain ⟨d', e3, r'⟩ := r.get e1
      exact ⟨d', startG_get e3, r'⟩
    · cases e
theorem no_start {N : List Str} {n : Nat} {ts ds : List D} : ∀ a, Own (startT n ts) (startG N ds) a → False := fun a ⟨i, c, e, _⟩ => by
  rcases startT_get e with ⟨d, _, e⟩ | e <;> cases e
theorem Stp.moreO {ρ ρ1 : List Addr} {A A1 : AH} {M M1 : MS} {O O1 O2 : Addr → Prop} (s : Stp ρ A M O ρ1 A1 M1 O1) (h : ∀ a, O a → O2 a) : Stp ρ A M O2 ρ1 A1 M1 O1 :=
  ⟨s.pre, fun a h1 h2 h3 => s.fr a h1 h2 fun z => h3 (h a z), fun a z => (s.new a z).imp id fun z => z.imp (h a) id⟩
def fUni (cl : List Addr) (m : Ms) : FS := fun N Γ M => ∃ pin ρ Γt A, Wd ⟨cl, pin⟩ ρ Γt A Γ M ∧ SatS ⟨cl, pin⟩ (m Γt A) ρ Γt A Γ M N
theorem MSs.uni {cl : List Addr} {X : Cx} {E : XK} {sts : List Stmt} {m : Ms} (h : ∀ pin, MSs ⟨cl, pin⟩ X E sts m) : DSs X E sts (fUni cl m) :=
  ⟨fun pins s σ H D I ⟨F, Γ, M, N, R, ⟨pin, ρ, Γt, A, w, q⟩, L⟩ => by
    obtain ⟨f, d, s'⟩ := (h pin).ex
    exact d.run pins s σ H D I ⟨F, Γ, M, N, R, s' ρ Γ Γt A M N w q, L⟩⟩
theorem sat_end {κ : Kc} {ρ : List Addr} {Γt : SG} {A : AH} {Γ : GE} {M : MS} {k : KD} {kx : KX} {o : RS} (hO : ∀ a, Own Γt Γ a → False) (h : SatF κ.cls o.toF ρ A M k kx) : SatS κ o ρ Γt A Γ M (ndOf k kx) := by
  have less : ∀ {ρ' : List Addr} {A' : AH} {M' : MS} {O' : Addr → Prop}, Stp ρ A M (Own Γt Γ) ρ' A' M' O' → Stp ρ A M NoOwn ρ' A' M' NoOwn := fun st => (st.noOwn).moreO fun a z => hO a z
  cases o with
  | nx Γ' A' => exact fun ρ' Γ' M' w st => h ρ' M' .non w.hm (less st) .non
  | ret t Γ' A' => exact fun ρ' M' d hm st r => h ρ' M' d hm (less st) r
  | exc C fs Γ' A' => exact fun ρ' M' Ca gs hm st e r => h ρ' M' Ca gs hm (less st) e r
  | brk _ _ => exact h.elim
  | cnt _ _ => exact h.elim
  | no => exact h.elim
section
variable {P : Program} {w : World} {K : PySem.W.Frag} {mg : Str → Option Value} {base : Heap}
/-- THE RULE of a def -/
theorem okT {x qual : Str} {params : Arguments} {body : List Stmt} {scope : Scope} {dvs : List V} {kws : List (Str × V)} {f : Addr} {fd : FuncData} {N ps : List Str} {k : Nat} {cl : List Addr} {b : Ms}
    (F : FunD K x qual params body scope dvs kws f fd) (S : FnScope N ps scope)
    (hb : ∀ (cdv : Value) (A : Around) (outer : List Env) (s : Shared) (H : Hp) (E : XK), A.guards = some [] → Room k (A.deeper (envOfC qual scope s.heap.objs.size f cdv)) →
      MSs ⟨cl, none⟩ (cxOf (L2.CX P w) P w K mg base N qual scope f cdv A outer s H E) E body b) : FnG P w K mg base (L2.CX P w) (k + 1) f fd ps (spX K (pfT cl (runF ps.length N.length b))) :=
  okX F S (fun ds M k kx ⟨ρ, ts, A, hm, r, h⟩ => r.length.trans (runF_len h)) fun cdv A outer s H E hg hr => by
    obtain ⟨g, d, sm⟩ := (hb cdv A outer s H E hg hr).ex
    refine ⟨g, d, fun ds M k kx ⟨ρ, ts, A', hm, r, h⟩ => sm ρ _ (startT N.length ts) A' M _ (wd_start hm r) (sat_end no_start ?_)⟩
    have hl := runF_len h
    unfold runF at h
    rw [if_pos hl] at h
    exact h
/-- where a def lets nothing out -/
theorem fng_calm {k : Nat} {f : Addr} {fd : FuncData} {ps : List Str} {pf : FNx} (F : FnG P w K mg base (L2.CX P w) k f fd ps (spX K pf)) : FnG P w K mg base CX0 k f fd ps (spD K fun ds M k => pf ds M k noX) := by
  refine ⟨fun vs H Q E ⟨Fr, ds, M, k, R, hv, h, L⟩ => F.len vs H Q E0 ⟨Fr, ds, M, k, noX, R, hv, h, linkX0, L⟩, fun A outer s H args us vs Q E hg hr e0 hb r ⟨Fr, ds, M, k, R, hv, h, L⟩ => ?_⟩
  refine codeAny_mono (F.run A outer s H args us vs Q E0 hg hr e0 hb r ⟨Fr, ds, M, k, noX, R, hv, h, linkX0, L⟩) fun r s' hq => ?_
  cases r with
  | ok fl => cases fl <;> exact hq
  | error e =>
    obtain ⟨a, B, H', cls, d, _, _, _, _, _, _, _, z⟩ := (show L2.CX P w outer H s E0 e s' from hq)
    exact z.elim
end
/-! ### calls -/
def callF (F : Fn) (xs : List D) : Mo D := fun Γ A => match F xs A with
  | .ok d A' => .ok d Γ A'
  | .exc C fs A' => .exc C fs Γ A'
  | .no => .no
def mCall (F : Fn) (dts : List D) (as : Mo (List D)) : Mo D := mBind as fun xs => callF F (xs ++ dts)
section
variable {κ : Kc} {ρ : List Addr} {Γ : GE}
theorem HM.back {Γt : SG} {A A' : AH} {M M' : MS} {ρ' : List Addr} (w : Wd κ ρ Γt A Γ M) (h : HM κ.cls ρ' A' M') (st : Stp ρ A M NoOwn ρ' A' M' NoOwn) : Wd κ ρ' Γt A' Γ M' ∧ Stp ρ A M (Own Γt Γ) ρ' A' M' (Own Γt Γ) := by
  have own : ∀ {a : Addr}, Own Γt Γ a → M a ≠ none ∧ ¬ Live A ρ a := fun {a} ⟨i, c, e, e'⟩ => by
    obtain ⟨p, dc, e1, e2, _, nl⟩ := w.own i c e
    rw [e'] at e1
    cases e1
    exact ⟨by rw [e2]; exact nofun, nl⟩
  refine ⟨⟨h, w.len, fun i t e => ?_, fun i c e => ?_, w.sep, w.pin⟩, ⟨st.pre, fun a h1 h2 _ => st.fr a h1 h2 id, fun a z => ?_⟩⟩
  · obtain ⟨d, e1, r⟩ := w.val i t e
    exact ⟨d, e1, RT.mono st.pre _ r⟩
  · obtain ⟨p, dc, e1, e2, rc, nl⟩ := w.own i c e
    refine ⟨p, dc, e1, by rw [st.fr p (by rw [e2]; exact nofun) nl id]; exact e2, rc.mono st.pre, fun z => ?_⟩
    rcases st.new p (.inl z) with q | q | q
    · exact nl q
    · exact q
    · rw [e2] at q; cases q
  · rcases z with z | z
    · rcases st.new a (.inl z) with q | q | q
      · exact .inl q
      · exact q.elim
      · exact .inr (.inr q)
    · exact .inr (.inl z)
theorem sim_callF {F : Fn} {ts ds : List D} (r : RTs ρ ts ds) : SimAt κ rD ρ Γ (fun Γ M k kx => pfT κ.cls F ds M k kx) (callF F ts) := fun Γt A M k kx w h => by
  refine ⟨ρ, ts, A, w.hm, r, ?_⟩
  unfold callF at h
  cases e : F ts A with
  | no => rw [e] at h; exact h
  | ok d A' =>
    rw [e] at h
    exact fun ρ' M' d' hm st rd => let ⟨w', s'⟩ := HM.back w hm st; h ρ' M' d' w' s' rd
  | exc C fs A' =>
    rw [e] at h
    exact fun ρ' M' Ca gs hm st e' r' => let ⟨w', s'⟩ := HM.back w hm st; h ρ' M' Ca gs w' s' e' r'
theorem sim_call {F : Fn} {dds : List D} {g : FA} {as : Mo (List D)} (hd : plains dds = true) (s : Sim κ rA g as) : Sim κ rD (fCallX (pfT κ.cls F) dds g) (mCall F dds as) := fun ρ Γ =>
  sim_bind (rel := rD) (fb := fun ds Γ M k kx => pfT κ.cls F (ds ++ dds) M k kx) (s ρ Γ) fun ρ1 xs ds _ r => sim_callF (r.append (RTs.self hd))
/-- .. where nothing may be raised -/
theorem sim_callC {F : Fn} {dds : List D} {g : FA} {as : Mo (List D)} (hd : plains dds = true) (s : Sim κ rA g as) : Sim κ rD (fCall (fun ds M k => pfT κ.cls F ds M k noX) dds g) (mBind as fun xs => fun Γ A => match callF F (xs ++ dds) Γ A with | .ok d Γ' A' => .ok d Γ' A' | _ => .no) := fun ρ Γ =>
  sim_bind (rel := rD) (fb := fun ds Γ M k kx => pfT κ.cls F (ds ++ dds) M k noX) (s ρ Γ) fun ρ1 xs ds _ r Γt A M k kx w h => sim_callF (r.append (RTs.self hd)) Γt A M k noX w (by
    cases e : callF F (xs ++ dds) Γt A with
    | ok d Γ' A' => simp only [e] at h; exact h
    | exc C fs Γ' A' => simp only [e] at h; exact h.elim
    | no => simp only [e] at h; exact h)
end
def mCallC (F : Fn) (dts : List D) (as : Mo (List D)) : Mo D := mBind as fun xs => fun Γ A => match callF F (xs ++ dts) Γ A with
  | .ok d Γ' A' => .ok d Γ' A'
  | _ => .no
theorem isVs_plain {K : PySem.W.Frag} {dvs : List V} {dds : List D} : True := trivial
section
variable {κ : Kc} {X : Cx} {k : Nat} {f : Addr} {fd : FuncData} {ps ks : List Str} {F : Fn} {dvs : List V} {dds : List D} {ds : List Value} {x : Str} {p pos : Pos} {e : Expr} {es : List Expr} {as : Mo (List D)} {kws : List Keyword}
/-- f(e, ..) -/
theorem me_call {W : WX} (G : FnG X.prog X.w X.K X.mg X.base (L2.CX X.prog X.w) k f fd ps (spX X.K (pfT κ.cls F))) (tk : Takes X W) (hgd : X.A.guards = some []) (hr : Room k X.A) (hg : Gl X x) (hm : X.mg x = some (.ref f)) (hk : PySem.W.keepIn X.K (.ref f) = true) (hb : Binds X.K fd ps ds) (hd : Vals dvs ds) (hdd : ∀ P H, IsVs X.K P H dvs dds) (hpl : plains dds = true)
    (ha : MA κ X (WE W) (e :: es) as) (hdb : (x == ("__debug__" : Str)) = false := by decide) (he : starEach (e :: es) X.env = (false, eval e X.env) :: starEach es X.env := by rfl) (hpl' : (backTo pos (starEach es X.env)).any (·.1) = false := by rfl) :
    ME κ X (WE W) (.Call (.Name x p) (e :: es) [] pos) (mCall F dds as) := let ⟨g, d, s⟩ := ha.ex
  ⟨_, de_callX tk G hgd hr hg hm hk hb hd hdd d hdb he hpl', sim_call hpl s⟩
/-- .. in a comprehension -/
theorem me_callC {E : L2.St → XK} (G : FnG X.prog X.w X.K X.mg X.base (L2.CX X.prog X.w) k f fd ps (spX X.K (pfT κ.cls F))) (hgd : X.A.guards = some []) (hr : Room k X.A) (hg : Gl X x) (hm : X.mg x = some (.ref f)) (hk : PySem.W.keepIn X.K (.ref f) = true) (hb : Binds X.K fd ps ds) (hd : Vals dvs ds) (hdd : ∀ P H, IsVs X.K P H dvs dds) (hpl : plains dds = true)
    (ha : MA κ X E (e :: es) as) (hdb : (x == ("__debug__" : Str)) = false := by decide) (he : starEach (e :: es) X.env = (false, eval e X.env) :: starEach es X.env := by rfl) (hpl' : (backTo pos (starEach es X.env)).any (·.1) = false := by rfl) :
    ME κ X E (.Call (.Name x p) (e :: es) [] pos) (mCallC F dds as) := let ⟨g, d, s⟩ := ha.ex
  ⟨_, de_call (fng_calm G) hgd hr hg hm hk hb hd hdd d hdb he hpl', sim_callC hpl s⟩
end
/-! ### calls by keywords -/
structure MK (κ : Kc) (X : Cx) (E : L2.St → XK) (kws : List Keyword) (m : Mo (List D)) : Prop where ex : ∃ f, DK X E kws f ∧ Sim κ rA f m
def tCallKE (sp : Sp) (g : List V → List V → List V) (E : L2.St → XK) (t tk : TA) : TE := fun σ H Q => t σ H fun vs H1 => tk σ H1 fun zs H2 => sp (g vs zs) H2 Q (E σ)
def fCallKX (pf : FNx) (gD : List D → List D → List D) (ga gk : FA) : FE := fun Γ M k kx => ga Γ M (fun ds M1 => gk Γ M1 (fun es M2 => pf (gD ds es) M2 k kx) kx) kx
def mCallK (F : Fn) (gD : List D → List D → List D) (as ks : Mo (List D)) : Mo D := mBind as fun xs => mBind ks fun ys => callF F (gD xs ys)
section
variable {κ : Kc} {X : Cx} {k : Nat} {f : Addr} {fd : FuncData} {ps ks : List Str} {sp : Sp} {pf : FNx} {F : Fn} {x : Str} {p pos : Pos} {e : Expr} {es : List Expr} {as ms : Mo (List D)} {kws : List Keyword} {E : L2.St → XK} {t tk : TA}
theorem mk_nil : MK κ X E [] mNil := ⟨_, dk_nil, fun ρ Γ => sim_ret fun M k kx q => q _ .nil⟩
theorem mk_cons {nm : Option Str} {kpos : Pos} {m : Mo D} (ha : ME κ X E e m) (hr : MK κ X E kws ms) : MK κ X E (⟨nm, e, kpos⟩ :: kws) (mCons m ms) := let ⟨f, d, s⟩ := ha.ex; let ⟨g, d', s'⟩ := hr.ex
  ⟨_, dk_cons d d', fun ρ Γ => sim_bind (rel := rA) (fb := fun x Γ M k kx => g Γ M (fun xs M2 => k (x :: xs) M2) kx) (s ρ Γ) fun ρ1 x dx _ rx => sim_bind (fb := fun xs Γ M k kx => k (dx :: xs) M) (s' ρ1 Γ) fun ρ2 xs ds p rs => sim_ret fun M k kx q => q _ (.cons (RT.mono p _ rx) rs)⟩
/-- f(k = v, ..), keywords alone -/
theorem pe_callEK0 {g : List Value → List Value → List Value} {gV : List V → List V → List V} (F : FnG X.prog X.w X.K X.mg X.base (L2.CX X.prog X.w) k f fd ps sp) (hgd : X.A.guards = some []) (hr : Room k X.A) (hg : Gl X x) (hm : X.mg x = some (.ref f)) (hk : PySem.W.keepIn X.K (.ref f) = true) (hb : KBinds X.K fd ps ks g gV) (hx : ∀ σ, PassesAt (L2.CX X.prog X.w) X σ (E σ))
    (hkw : PK X kws tk) (hall : (backToKw pos (keywordEach kws X.env)).all (·.1.isSome) = true := by rfl) (hks : (backToKw pos (keywordEach kws X.env)).filterMap (·.1) = ks := by rfl)
    (hdb : (x == ("__debug__" : Str)) = false := by decide) (hpl : ((backTo pos (starEach [] X.env)).any (·.1) || (backToKw pos (keywordEach kws X.env)).any (·.1.isNone)) = false := by rfl) :
    PE X (.Call (.Name x p) [] kws pos) (tCallKE sp gV E tNil tk) := by
  constructor
  intro pins s σ H Q I h
  refine wpAny_Call_Name_kw (ld_glob I hg hm (PySem.W.callWith_KW0 (h₀ := X.base) I.ok.mod.kin hk hall (thn (hkw.run pos pins s σ H _ I h) ?_) hpl) hdb)
  rintro ws s2 ⟨zs, H2, I2, rz, q2⟩
  refine ⟨I2.kIn, ?_⟩
  rw [hks]
  have r2 := hb.rel (vs := []) (us := []) .nil rz
  have hl := r2.length.symm.trans (F.len _ _ _ _ q2)
  exact end_callS (hx σ) I2 (F.run X.A X.stack s2 H2 ⟨[], ks.zip ws⟩ _ _ Q (E σ) hgd hr I2.env0 (hb.to s2 [] ws I2.kIn hl) r2 q2)
theorem me_callK0 {W : WX} {gg : List Value → List Value → List Value} {gV : List V → List V → List V} {gD : List D → List D} (G : FnG X.prog X.w X.K X.mg X.base (L2.CX X.prog X.w) k f fd ps (spX X.K (pfT κ.cls F))) (tk : Takes X W) (hgd : X.A.guards = some []) (hr : Room k X.A) (hg : Gl X x) (hm : X.mg x = some (.ref f)) (hk : PySem.W.keepIn X.K (.ref f) = true)
    (hb : KBinds X.K fd ps ks gg gV) (hgD : ∀ P H vs ds, IsVs X.K P H vs ds → IsVs X.K P H (gV [] vs) (gD ds)) (hgT : ∀ ρ xs ds, RTs ρ xs ds → RTs ρ (gD xs) (gD ds)) (hkw : MK κ X (WE W) kws ms)
    (hall : (backToKw pos (keywordEach kws X.env)).all (·.1.isSome) = true := by rfl) (hks : (backToKw pos (keywordEach kws X.env)).filterMap (·.1) = ks := by rfl)
    (hdb : (x == ("__debug__" : Str)) = false := by decide) (hpl : ((backTo pos (starEach [] X.env)).any (·.1) || (backToKw pos (keywordEach kws X.env)).any (·.1.isNone)) = false := by rfl) :
    ME κ X (WE W) (.Call (.Name x p) [] kws pos) (mCallK F (fun _ ys => gD ys) mNil ms) := let ⟨g, d, s⟩ := hkw.ex
  ⟨fCallKX (pfT κ.cls F) (fun _ ys => gD ys) fNil g, pe_w (pe_callEK0 G hgd hr hg hm hk hb (passAt tk) d.pk hall hks hdb hpl) fun σ H Q h => by
      obtain ⟨F', Γ, M, k, kx, R, q, LX, L⟩ := h
      exact ⟨F', Γ, M, _, kx, R, q, LX, fun xs M1 vs H1 h1 g1 R1 i1 => ⟨F', gD xs, M1, k, kx, R1, hgD _ _ _ _ i1, h1, LX.go g1, L.go g1⟩⟩,
    fun ρ Γ => sim_bind (rel := rD) (ra := rA) (fa := fNil) (fb := fun ds Γ M k kx => g Γ M (fun es M2 => pfT κ.cls F (gD es) M2 k kx) kx) (sim_ret fun M k kx q => q _ .nil) fun ρ1 xs ds _ r => sim_bind (rel := rD) (fb := fun es Γ M k kx => pfT κ.cls F (gD es) M k kx) (s ρ1 Γ) fun ρ2 ys es' _ r2 => sim_callF (hgT _ _ _ r2)⟩
end
end Fl

set_option Elab.async false
set_option linter.all false
set_option maxRecDepth 100000
set_option maxHeartbeats 4000000
/-! E8: isinstance, classes, instances, exceptions of the functional layer. -/
namespace Fl
open PySem PySem.Spec PyProof.Rows L2 Dl
/-! ### isinstance -/
theorem kit_R {X : Cx} {pins : List (Addr × Obj)} {σ : L2.St} {s : Shared} {H : Hp} {F : Addr → Prop} {M : MS} {v : V} {d : D} {u1 t : Value} (I : L2.Inv X pins σ H s) (r1 : RelV v u1) (hv : IsR X.K F M H v d) (ht : tyV d = some t) (hok : okTy X.K d) :
    ∃ Pr : Heap → Prop, ∃ _ : PySem.W.KitX X.K u1 t Pr, Pr s.heap ∧ u1 ≠ .builtin "__main__.__loader__#opaque" := by
  have viaTy : ∀ t', TyX X.K H v t' → t' = t → ∃ Pr : Heap → Prop, ∃ _ : PySem.W.KitX X.K u1 t Pr, Pr s.heap ∧ u1 ≠ .builtin "__main__.__loader__#opaque" := fun t' ty e => by
    subst e
    obtain ⟨P, Z, p, hx⟩ := kit_of I r1 ty
    exact ⟨P, Z, p, hx⟩
  have viaX : ∀ {a C : Addr} {od : Option Obj} {oe : Obj} {fs : List (Str × D)}, v = .ref a → d = .exv C fs → PySem.W.InstAt s.heap a oe C od → ∃ Pr : Heap → Prop, ∃ _ : PySem.W.KitX X.K u1 t Pr, Pr s.heap ∧ u1 ≠ .builtin "__main__.__loader__#opaque" := fun {a C od oe fs} ev ed J => by
    subst ev
    subst ed
    cases ht
    obtain rfl : u1 = Value.ref a := r1
    have T : ExcC X.K C := hok
    have hcl : (PySem.W.clsIn X.K C).isSome = true := by
      obtain ⟨cd, hc, _⟩ := PySem.W.any_some T.hd
      rw [hc]
      rfl
    exact ⟨_, PySem.W.kitx_exc (ox := oe) (od := od) hcl T.hg T.hk T.hs T.ha T.hn T.ht T.hm, J, fun z => nomatch z⟩
  cases hv with
  | exv0 h1 =>
    obtain ⟨⟨oe, vs, ha, hc, hdi, hd⟩, _, _⟩ := I.hok _ _ h1
    exact viaX (od := none) rfl rfl ⟨ha, hc, by unfold PySem.W.notCls; rw [hd] <;> rfl, by rw [hdi]; trivial⟩
  | exv h1 h2 _ =>
    obtain ⟨⟨oe, vs, ha, hc, hdi, hd⟩, _, _⟩ := I.hok _ _ h1
    have hx : ObjOk X.prog X.w H s.heap _ (.xd _) := I.hok _ _ h2
    obtain ⟨mA, hns, hr⟩ := hx
    obtain ⟨od, ho, hlk⟩ := lookIn_ns hns
    exact viaX (od := some od) rfl rfl ⟨ha, hc, by unfold PySem.W.notCls; rw [hd] <;> rfl, by rw [hdi]; exact ho⟩
  | ins h1 h2 => cases ht; exact viaTy _ (.base (.ins h1 hok.cl hok.ha hok.hn hok.ht hok.hm)) rfl
  | ty n => cases ht
  | ref a => cases ht
  | non => cases ht; exact viaTy _ (.base .non) rfl
  | bl b => cases ht; exact viaTy _ (.base (.bl b)) rfl
  | int i => cases ht; exact viaTy _ (.base (.int i)) rfl
  | str x => cases ht; exact viaTy _ (.base (.str x)) rfl
  | lst h1 h2 => cases ht; exact viaTy _ (tyX_of (d := .lst _) (.lst h1 h2) rfl) rfl
  | scr h1 => cases ht; exact viaTy _ (tyX_of (d := .scr _) (.scr h1) rfl) rfl
  | tup h1 h2 => cases ht; exact viaTy _ (tyX_of (d := .tup _) (.tup h1 h2) rfl) rfl
  | dct h1 h2 => cases ht; exact viaTy _ (tyX_of (d := .dct _) (.dct h1 h2) rfl) rfl
def clVs : List D → Option (List Value)
  | [] => some []
  | d :: r => (clV d).bind fun u => (clVs r).map (u :: ·)
/-- isinstance(d, c), c a class; isinstance(d, (c, ..)) -/
def gIs1 (K : PySem.W.Frag) : FN := fun ds M k => ∃ d c t u b, ds = [d, c] ∧ tyV (vw M d) = some t ∧ clV c = some u ∧ okTy K (vw M d) ∧ PySem.W.kitOne K t u = some b ∧ k (.bl b) M
def gIsM (K : PySem.W.Frag) : FN := fun ds M k => ∃ d cs t us b, ds = [d, .tup cs] ∧ tyV (vw M d) = some t ∧ clVs cs = some us ∧ okTy K (vw M d) ∧ PySem.W.kitAny K t us = some b ∧ k (.bl b) M
def rIs1 (K : PySem.W.Frag) : List V → Hp → VK → Prop := fun vs H Q => ∃ F M v w d t u b, vs = [v, w] ∧ IsR K F M H v d ∧ tyV d = some t ∧ (w = .ref (match u with | .ref C => C | _ => 0) ∧ (∃ C, u = .ref C) ∨ ∃ n, w = .ty n ∧ u = .type n) ∧ okTy K d ∧ PySem.W.kitOne K t u = some b ∧ Q (.bl b) H
def rIsM (K : PySem.W.Frag) : List V → Hp → VK → Prop := fun vs H Q => ∃ F M v a xs d t us b, vs = [v, .ref a] ∧ IsR K F M H v d ∧ SqT K H a xs ∧ Paired ClsV xs us ∧ tyV d = some t ∧ okTy K d ∧ PySem.W.kitAny K t us = some b ∧ Q (.bl b) H
theorem cr_is1 {X : Cx} : CallR X (.builtin "isinstance") (rIs1 X.K) := by
  intro pins s σ H vs us Q I r h
  obtain ⟨F, M, v, w, d, t, u, b, rfl, hv, ht, hw, hok, hb, q⟩ := h
  obtain ⟨u1, u2, rfl, r1, r2⟩ := vals2 r
  have e2 : u2 = u := by
    rcases hw with ⟨rfl, C, rfl⟩ | ⟨n, rfl, rfl⟩
    · exact r2
    · exact r2
  subst e2
  obtain ⟨Pr, Z, p, hx⟩ := kit_R I r1 hv ht hok
  exact PySem.W.kia_one Z I.kIn p hb hx fun tk => ⟨.bl b, H, I.tok tk, rfl, q⟩
theorem cr_isM {X : Cx} : CallR X (.builtin "isinstance") (rIsM X.K) := by
  intro pins s σ H vs us Q I r h
  obtain ⟨F, M, v, a, xs, d, t, ws, b, rfl, hv, hT, hk, ht, hok, hb, q⟩ := h
  obtain ⟨u1, u2, rfl, r1, r2⟩ := vals2 r
  cases (show u2 = Value.ref a from r2)
  obtain ⟨Pr, Z, p, hx⟩ := kit_R I r1 hv ht hok
  obtain ⟨its, rv, ⟨o, h1, h2, n, h3⟩, _⟩ := I.tuple hT
  have e3 := ClsV.all hk rv
  subst e3
  obtain ⟨oc, od, dt, sl⟩ := o
  simp only at h2 h3
  subst h2 h3
  exact PySem.W.kia_tup Z I.kIn p h1 hb hx fun tk => ⟨.bl b, H, I.tok tk, rfl, q⟩
theorem cd_is1 {K : PySem.W.Frag} : CallD K (rIs1 K) (gIs1 K) := fun F H M vs ds k Q R hv hg L => by
  obtain ⟨d, c, t, u, b, rfl, h1, h2, h3, h4, h5⟩ := hg
  cases hv with
  | cons v1 v2 =>
    cases v2 with
    | cons v2 v3 =>
      cases v3
      refine ⟨F, M, _, _, _, t, u, b, rfl, v1.rd R, h1, ?_, h3, h4, L.now R h5 (.bl b)⟩
      cases v2 with
      | ty n => cases h2; exact .inr ⟨n, rfl, rfl⟩
      | ref C => cases h2; exact .inl ⟨rfl, C, rfl⟩
      | _ => cases h2
theorem paired_of {K : PySem.W.Frag} {P : Addr → Prop} {H : Hp} : ∀ {vs : List V} {ds : List D} {us : List Value}, IsVs K P H vs ds → clVs ds = some us → Paired ClsV vs us
  | _, _, _, .nil, e => by cases e; exact .nil
  | _, _, _, .cons h t, e => by
    simp only [clVs, Option.bind_eq_some_iff, Option.map_eq_some_iff] at e
    obtain ⟨u, e1, l, e2, rfl⟩ := e
    refine .cons ?_ (paired_of t e2)
    cases h with
    | ty n => cases e1; exact .ty n
    | ref C => cases e1; exact .own C
    | _ => cases e1
theorem cd_isM {K : PySem.W.Frag} : CallD K (rIsM K) (gIsM K) := fun F H M vs ds k Q R hv hg L => by
  obtain ⟨d, cs, t, us, b, rfl, h1, h2, h3, h4, h5⟩ := hg
  cases hv with
  | cons v1 v2 =>
    cases v2 with
    | cons v2 v3 =>
      cases v3
      cases v2 with
      | tup g1 g2 => exact ⟨F, M, _, _, _, _, t, us, b, rfl, v1.rd R, g1.sq, paired_of g2 h2, h1, h3, h4, L.now R h5 (.bl b)⟩
/-- which class is below which: by ids -/
structure Tab where
  cc : Nat → Nat → Option Bool
  ct : Nat → String → Option Bool
  tc : String → Nat → Option Bool
  ins : List Nat
  exc : List Nat
def tyT (tab : Tab) (x : D) (u : D) : Option Bool := match u with
  | .ty n => match x with
    | .ins c _ => if c ∈ tab.ins then tab.ct c n else none
    | .exv c _ => if c ∈ tab.exc then tab.ct c n else none
    | d => (typeD d).bind fun a => kitB a n
  | .ref c' => match x with
    | .ins c _ => if c ∈ tab.ins then tab.cc c c' else none
    | .exv c _ => if c ∈ tab.exc then tab.cc c c' else none
    | d => (typeD d).bind fun a => tab.tc a c'
  | _ => none
def tysT (tab : Tab) (x : D) : List D → Option Bool
  | [] => some false
  | u :: r => (tyT tab x u).bind fun b => if b = true then some true else tysT tab x r
structure TabOk (K : PySem.W.Frag) (cl : List Addr) (tab : Tab) : Prop where
  cc : ∀ (i j C C' : Nat) (b : Bool), tab.cc i j = some b → cl[i]? = some C → cl[j]? = some C' → PySem.W.kitOne K (.ref C) (.ref C') = some b
  ct : ∀ (i C : Nat) (n : String) (b : Bool), tab.ct i n = some b → cl[i]? = some C → PySem.W.kitOne K (.ref C) (.type n) = some b
  tc : ∀ (a : String) (j C' : Nat) (b : Bool), tab.tc a j = some b → cl[j]? = some C' → PySem.W.kitOne K (.type a) (.ref C') = some b
  ins : ∀ (i C : Nat), i ∈ tab.ins → cl[i]? = some C → InsC K C
  exc : ∀ (i C : Nat), i ∈ tab.exc → cl[i]? = some C → ExcC K C
  lt : ∀ (i j : Nat), (tab.cc i j).isSome = true → i < cl.length ∧ j < cl.length
  ltc : ∀ (i : Nat) (n : String), (tab.ct i n).isSome = true → i < cl.length
  lct : ∀ (n : String) (i : Nat), (tab.tc n i).isSome = true → i < cl.length
theorem at_pre {cl ρ : List Addr} (p : cl <+: ρ) {i a : Nat} (h : i < cl.length) (e : ρ[i]? = some a) : cl[i]? = some a := by
  obtain ⟨t, rfl⟩ := p
  rwa [List.getElem?_append_left h] at e
theorem tyT_ok {K : PySem.W.Frag} {cl ρ : List Addr} {tab : Tab} {x u dx du : D} {b : Bool} (T : TabOk K cl tab) (p : cl <+: ρ) (rx : RT ρ x dx) (ru : RT ρ u du) (h : tyT tab x u = some b) :
    ∃ t w, tyV dx = some t ∧ clV du = some w ∧ okTy K dx ∧ PySem.W.kitOne K t w = some b := by
  cases ru with
  | ty n =>
    cases rx with
    | ins e _ =>
      simp only [tyT] at h
      split at h
      · rename_i hm
        have hl := T.ltc _ n (by rw [h]; rfl)
        exact ⟨_, _, rfl, rfl, T.ins _ _ hm (at_pre p hl e), T.ct _ _ n b h (at_pre p hl e)⟩
      · cases h
    | exv e _ =>
      simp only [tyT] at h
      split at h
      · rename_i hm
        have hl := T.ltc _ n (by rw [h]; rfl)
        exact ⟨_, _, rfl, rfl, T.exc _ _ hm (at_pre p hl e), T.ct _ _ n b h (at_pre p hl e)⟩
      · cases h
    | ty _ => cases h
    | ref _ => cases h
    | _ => exact ⟨_, _, rfl, rfl, trivial, kit_ty h⟩
  | ref e' =>
    cases rx with
    | ins e _ =>
      simp only [tyT] at h
      split at h
      · rename_i hm
        have hl := T.lt _ _ (by rw [h]; rfl)
        exact ⟨_, _, rfl, rfl, T.ins _ _ hm (at_pre p hl.1 e), T.cc _ _ _ _ b h (at_pre p hl.1 e) (at_pre p hl.2 e')⟩
      · cases h
    | exv e _ =>
      simp only [tyT] at h
      split at h
      · rename_i hm
        have hl := T.lt _ _ (by rw [h]; rfl)
        exact ⟨_, _, rfl, rfl, T.exc _ _ hm (at_pre p hl.1 e), T.cc _ _ _ _ b h (at_pre p hl.1 e) (at_pre p hl.2 e')⟩
      · cases h
    | ty _ => cases h
    | ref _ => cases h
    | _ =>
      have hl := T.lct _ _ (by rw [show tab.tc _ _ = some b from h]; rfl)
      exact ⟨_, _, rfl, rfl, trivial, T.tc _ _ _ b h (at_pre p hl e')⟩
  | _ => cases h
theorem tysT_ok {K : PySem.W.Frag} {cl ρ : List Addr} {tab : Tab} {x dx : D} (T : TabOk K cl tab) (p : cl <+: ρ) (rx : RT ρ x dx) : ∀ {us du : List D} {b : Bool} {t : Value}, tyV dx = some t → RTs ρ us du → us.all (fun u => (tyT tab x u).isSome) = true → tysT tab x us = some b →
    ∃ ws, clVs du = some ws ∧ PySem.W.kitAny K t ws = some b
  | [], _, b, t, ht, r, _, h => by
    cases r
    cases h
    exact ⟨[], rfl, kitAny_nil⟩
  | u :: us, _, b, t, ht, r, ha, h => by
    cases r with
    | cons r1 r2 =>
      rw [List.all_cons, Bool.and_eq_true] at ha
      simp only [tysT, Option.bind_eq_some_iff] at h
      obtain ⟨v, h1, h2⟩ := h
      obtain ⟨t', w, e1, e2, _, e3⟩ := tyT_ok T p rx r1 h1
      rw [ht] at e1
      cases e1
      cases v with
      | true =>
        cases h2
        have hex : ∀ {us du : List D}, RTs ρ us du → us.all (fun u => (tyT tab x u).isSome) = true → ∃ ws, clVs du = some ws := fun {us du} => by
          intro r
          induction us generalizing du with
          | nil => intro _; cases r; exact ⟨[], rfl⟩
          | cons u us ih =>
            intro ha
            cases r with
            | cons r1 r2 =>
              rw [List.all_cons, Bool.and_eq_true] at ha
              obtain ⟨v, hv⟩ := Option.isSome_iff_exists.mp ha.1
              obtain ⟨_, w, _, e2, _, _⟩ := tyT_ok T p rx r1 hv
              obtain ⟨ws, e3⟩ := ih r2 ha.2
              exact ⟨w :: ws, by simp [clVs, e2, e3]⟩
        obtain ⟨ws, e4⟩ := hex r2 ha.2
        exact ⟨w :: ws, by simp [clVs, e2, e4], kitAny_cons e3 (fun z => by cases z) fun _ => rfl⟩
      | false =>
        obtain ⟨ws, e4, e5⟩ := tysT_ok T p rx ht r2 ha.2 (by simpa using h2)
        exact ⟨w :: ws, by simp [clVs, e2, e4], kitAny_cons e3 (fun _ => e5) fun z => by cases z⟩
def tIs (tab : Tab) (u x : D) : Option D := match u with
  | .tup us => if us.all (fun u => (tyT tab x u).isSome) = true then (tysT tab x us).map .bl else none
  | u => (tyT tab x u).map .bl
/-- isinstance(a, u), u told -/
def mIs (tab : Tab) (u : D) (a : Mo Opd) : Mo D := m1W (tIs tab u) a
section
variable {κ : Kc} {X : Cx} {E : L2.St → XK} {p pos : Pos} {a e2 : Expr} {pa : Mo Opd} {fc : FE}
/-- the class of a second argument -/
structure MCls (κ : Kc) (X : Cx) (E : L2.St → XK) (e : Expr) (u : D) : Prop where ex : ∃ d, DE X E e (fC d) ∧ ∀ ρ, κ.cls <+: ρ → RT ρ u d
theorem mcls_ty {x : Str} {n : String} (hg : Gl X x) (hm : X.mg x = none) (hv : bootBuiltins x = some (.type n)) (hn : x ≠ "__name__" := by decide) (hd : (x == ("__debug__" : Str)) = false := by decide) : MCls κ X E (.Name x pos) (.ty n) := ⟨_, de_ty hg hm hv hn hd, fun _ _ => .ty n⟩
theorem mcls_own {x : Str} {C c : Nat} (hg : Gl X x) (hm : X.mg x = some (.ref C)) (hc : κ.cls[c]? = some C) (hd : (x == ("__debug__" : Str)) = false := by decide) : MCls κ X E (.Name x pos) (.ref c) := ⟨_, de_cls hg hm hd, fun ρ h => .ref (pre_get h hc)⟩
structure MClss (κ : Kc) (X : Cx) (E : L2.St → XK) (es : List Expr) (us : List D) : Prop where ex : ∃ ds, DA X E es (fun _ M k _ => k ds M) ∧ ∀ ρ, κ.cls <+: ρ → RTs ρ us ds
theorem mclss_nil : MClss κ X E [] [] := ⟨[], da_nil, fun _ _ => .nil⟩
theorem mclss_cons {es : List Expr} {u : D} {us : List D} (h1 : MCls κ X E a u) (h2 : MClss κ X E es us) (hs : starEach (a :: es) X.env = (false, eval a X.env) :: starEach es X.env := by rfl) : MClss κ X E (a :: es) (u :: us) :=
  let ⟨d, e, r⟩ := h1.ex; let ⟨ds, e', r'⟩ := h2.ex; ⟨d :: ds, da_cons e e' hs, fun ρ h => .cons (r ρ h) (r' ρ h)⟩
theorem me_is {tab : Tab} {u : D} (T : TabOk X.K κ.cls tab) (hu : (∀ us, u ≠ .tup us)) (hg : Gl X "isinstance") (hm : X.mg "isinstance" = none) (ha : MP κ X E a pa) (hc : MCls κ X E e2 u) (he : starEach [a, e2] X.env = (false, eval a X.env) :: starEach [e2] X.env := by rfl) (he2 : starEach [e2] X.env = (false, eval e2 X.env) :: starEach [] X.env := by rfl)
    (hpl : (backTo pos (starEach [e2] X.env)).any (·.1) = false := by rfl) : ME κ X E (.Call (.Name "isinstance" p) [a, e2] [] pos) (mIs tab u pa) := let ⟨_, d, s⟩ := ha.ex; let ⟨c, d2, rc⟩ := hc.ex
  ⟨_, de_callB cr_is1 cd_is1 hg hm (by decide +kernel) (da_cons d (da_cons d2 da_nil he2) he) (by decide) (by decide) he hpl, fun ρ Γ => sim_bind (rel := rD) (fb := fun x Γ M k kx => gIs1 X.K [x, c] M k) (s ρ Γ) fun ρ1 x dx p1 rx Γt A M k kx w h => by
    unfold mRd1 at h
    cases e1 : rdO x Γt A with
    | none => rw [e1] at h; exact h.elim
    | some y =>
      rw [e1] at h
      obtain ⟨t, e, q⟩ := sat_o w h
      have e : (tyT tab y u).map D.bl = some t := by
        cases u with
        | tup us => exact absurd rfl (hu us)
        | _ => exact e
      rw [Option.map_eq_some_iff] at e
      obtain ⟨b, e3, rfl⟩ := e
      obtain ⟨t, w', h1, h2, h3, h4⟩ := tyT_ok T w.hm.pre (rd_rel w rx e1) (rc ρ1 w.hm.pre) e3
      exact ⟨dx, c, t, w', b, rfl, h1, h2, h3, h4, q _ (.bl b)⟩⟩
theorem me_isM {tab : Tab} {es : List Expr} {us : List D} {kt : Nat} {pt : Pos} (T : TabOk X.K κ.cls tab) (hl : us.length ≤ sizeLine) (hg : Gl X "isinstance") (hm : X.mg "isinstance" = none) (ha : MP κ X E a pa) (hc : MClss κ X E es us) (hne : us ≠ [])
    (he : starEach [a, .Tuple es kt pt] X.env = (false, eval a X.env) :: starEach [.Tuple es kt pt] X.env := by rfl) (he2 : starEach [.Tuple es kt pt] X.env = (false, eval (.Tuple es kt pt) X.env) :: starEach [] X.env := by rfl)
    (hpl : (backTo pos (starEach [.Tuple es kt pt] X.env)).any (·.1) = false := by rfl) : ME κ X E (.Call (.Name "isinstance" p) [a, .Tuple es kt pt] [] pos) (mIs tab (.tup us) pa) := let ⟨_, d, s⟩ := ha.ex; let ⟨ds, d2, rc⟩ := hc.ex
  ⟨_, de_callB cr_isM cd_isM hg hm (by decide +kernel) (da_cons d (da_cons (de_tup d2) da_nil he2) he) (by decide) (by decide) he hpl, fun ρ Γ => sim_bind (rel := rD) (fb := fun x Γ M k kx => ds.length ≤ sizeLine ∧ gIsM X.K [x, .tup ds] M k) (s ρ Γ) fun ρ1 x dx p1 rx Γt A M k kx w h => by
    unfold mRd1 at h
    have rr := rc ρ1 w.hm.pre
    cases e1 : rdO x Γt A with
    | none => rw [e1] at h; exact h.elim
    | some y =>
      rw [e1] at h
      obtain ⟨t, e, q⟩ := sat_o w h
      simp only [tIs] at e
      split at e
      · rename_i hall
        rw [Option.map_eq_some_iff] at e
        obtain ⟨b, e3, rfl⟩ := e
        have ry := rd_rel w rx e1
        obtain ⟨t, ht, ok⟩ : ∃ t, tyV (vw M dx) = some t ∧ okTy X.K (vw M dx) := by
          cases us with
          | nil => exact absurd rfl hne
          | cons u us =>
            cases rr with
            | cons r1 r2 =>
              rw [List.all_cons, Bool.and_eq_true] at hall
              obtain ⟨v, hv⟩ := Option.isSome_iff_exists.mp hall.1
              obtain ⟨t, _, h1, _, h3, _⟩ := tyT_ok T w.hm.pre ry r1 hv
              exact ⟨t, h1, h3⟩
        obtain ⟨ws, h2, h4⟩ := tysT_ok T w.hm.pre ry ht rr hall e3
        exact ⟨by rw [rr.length]; exact hl, dx, ds, t, ws, b, rfl, ht, h2, ok, h4, q _ (.bl b)⟩
      · cases e⟩
end
end Fl

set_option Elab.async false
set_option linter.all false
set_option maxRecDepth 100000
set_option maxHeartbeats 4000000
/-! E9: instances made (their __init__ owns the first slot), fields, methods, properties. -/
namespace Fl
open PySem PySem.Spec PyProof.Rows L2 Dl
def IsP (p : Addr) : Addr → Prop := fun a => a = p
def SatI (cl : List Addr) (o : RF) (p C : Addr) (ρ : List Addr) (A : AH) (M : MS) (k : KD) (kx : KX) : Prop := match o with
  | .ok t A' => ∀ ρ' M' gs, HM cl ρ' A' M' → Stp ρ A M (IsP p) ρ' A' M' (IsP p) → ¬ Live A' ρ' p → M' p = some (.ins C gs) → RT ρ' t (.ins C gs) → k .non M'
  | .exc c fs A' => ∀ ρ' M' Ca gs, HM cl ρ' A' M' → Stp ρ A M (IsP p) ρ' A' M' NoOwn → ρ'[c]? = some Ca → RTf ρ' fs gs → kx Ca gs M'
  | .no => False
def pfI (cl : List Addr) (c : Nat) (F : Fn) : FNx := fun ds M k kx => ∃ p args ρ ts A C, ds = .ref p :: args ∧ M p = some (.ins C []) ∧ cl[c]? = some C ∧ HM cl ρ A M ∧ ¬ Live A ρ p ∧ RTs ρ ts args ∧ SatI cl (F ts A) p C ρ A M k kx
def startI (c n : Nat) (ds : List D) : SG := .own (.ins c []) :: (ds.map .val ++ List.replicate (n - (ds.length + 1)) .no)
def RS.toI (c : Nat) (r : RS) : RF := match r with
  | .nx Γ A => match (Γ[0]? : Option Sl) with
    | some (.own (.ins c' fs)) => if c' = c then .ok (.ins c fs) A else .no
    | _ => .no
  | .exc C fs _ A => .exc C fs A
  | _ => .no
def runI (c np n : Nat) (b : Ms) : Fn := fun ds A => if ds.length + 1 = np then (b (startI c n ds) A).toI c else .no
theorem runI_len {c np n : Nat} {b : Ms} {cl ρ : List Addr} {ds : List D} {A : AH} {M : MS} {k : KD} {kx : KX} {p C : Addr} (h : SatI cl (runI c np n b ds A) p C ρ A M k kx) : ds.length + 1 = np := by
  unfold runI at h
  split at h
  · assumption
  · exact h.elim
theorem startI_get {c n i : Nat} {ds : List D} {s : Sl} (h : (startI c n ds)[i]? = some s) : (i = 0 ∧ s = .own (.ins c [])) ∨ (∃ j d, i = j + 1 ∧ ds[j]? = some d ∧ s = .val d) ∨ s = .no := by
  cases i with
  | zero => cases h; exact .inl ⟨rfl, rfl⟩
  | succ j =>
    replace h : (ds.map Sl.val ++ List.replicate (n - (ds.length + 1)) Sl.no)[j]? = some s := h
    by_cases hi : j < ds.length
    · rw [List.getElem?_append_left (by rw [List.length_map]; exact hi), List.getElem?_map, List.getElem?_eq_getElem hi] at h
      exact .inr (.inl ⟨j, ds[j], rfl, List.getElem?_eq_getElem hi, (Option.some.inj h).symm⟩)
    · rw [List.getElem?_append_right (by rw [List.length_map]; omega), List.getElem?_replicate] at h
      split at h
      · cases h; exact .inr (.inr rfl)
      · cases h
theorem wd_startI {cl : List Addr} {ρ : List Addr} {N : List Str} {ts args : List D} {A : AH} {M : MS} {p C c : Nat} (h : HM cl ρ A M) (hp : M p = some (.ins C [])) (hc : cl[c]? = some C) (nl : ¬ Live A ρ p) (r : RTs ρ ts args) :
    Wd ⟨cl, some p⟩ ρ (startI c N.length ts) A (startG N (.ref p :: args)) M := by
  have own : ∀ {i : Nat} {c' : Cell}, (startI c N.length ts)[i]? = some (.own c') → i = 0 ∧ c' = .ins c [] := fun {i c'} e => by
    rcases startI_get e with ⟨h1, h2⟩ | ⟨j, d, _, _, e⟩ | e
    · cases h2; exact ⟨h1, rfl⟩
    · cases e
    · cases e
  have g0 : (startG N (.ref p :: args))[0]? = some (some (.ref p)) := startG_get rfl
  refine ⟨h, ?_, fun i t e => ?_, fun i c' e => ?_, fun i j c1 c2 e1 e2 _ => ?_, fun p' c' hp' e => ?_⟩
  · unfold startG startI
    simp only [List.length_append, List.length_map, List.length_replicate, List.length_cons, r.length]
    omega
  · rcases startI_get e with ⟨_, e⟩ | ⟨j, d, rfl, e1, e2⟩ | e
    · cases e
    · cases e2
      obtain ⟨d', e3, r'⟩ := r.get e1
      exact ⟨d', startG_get (by rw [List.getElem?_cons_succ]; exact e3), r'⟩
    · cases e
  · obtain ⟨rfl, rfl⟩ := own e
    exact ⟨p, _, g0, hp, .ins (pre_get h.pre hc) .nil, nl⟩
  · rw [(own e1).1, (own e2).1]
  · cases hp'
    exact g0
theorem own_startI {c n : Nat} {N : List Str} {ts args : List D} {p a : Addr} (h : Own (startI c n ts) (startG N (.ref p :: args)) a) : a = p := by
  obtain ⟨i, c', e, e'⟩ := h
  rcases startI_get e with ⟨rfl, _⟩ | ⟨j, d, _, _, e⟩ | e
  · rw [startG_get (N := N) (ds := .ref p :: args) (i := 0) rfl] at e'
    cases e'
    rfl
  · cases e
  · cases e
section
variable {P : Program} {w : World} {K : PySem.W.Frag} {mg : Str → Option Value} {base : Heap}
/-- THE RULE of an __init__ -/
theorem okI {x qual : Str} {params : Arguments} {body : List Stmt} {scope : Scope} {dvs : List V} {kws : List (Str × V)} {f : Addr} {fd : FuncData} {N ps : List Str} {k c : Nat} {cl : List Addr} {b : Ms}
    (F : FunD K x qual params body scope dvs kws f fd) (S : FnScope N ps scope)
    (hb : ∀ (cdv : Value) (A : Around) (outer : List Env) (s : Shared) (H : Hp) (E : XK), A.guards = some [] → Room k (A.deeper (envOfC qual scope s.heap.objs.size f cdv)) →
      ∀ pin, MSs ⟨cl, pin⟩ (cxOf (L2.CX P w) P w K mg base N qual scope f cdv A outer s H E) E body b) : FnG P w K mg base (L2.CX P w) (k + 1) f fd ps (spX K (pfI cl c (runI c ps.length N.length b))) :=
  okX F S (fun ds M k kx ⟨p, args, ρ, ts, A, C, e, hp, hc, hm, nl, r, h⟩ => by rw [e, List.length_cons, r.length]; exact runI_len h) fun cdv A outer s H E hg hr => by
    refine ⟨fUni cl b, MSs.uni (hb cdv A outer s H E hg hr), fun ds M k kx ⟨p, args, ρ, ts, A', C, e, hp, hc, hm, nl, r, h⟩ => ?_⟩
    subst e
    have hl := runI_len h
    unfold runI at h
    rw [if_pos hl] at h
    refine ⟨some p, ρ, startI c N.length ts, A', wd_startI hm hp hc nl r, ?_⟩
    have less : ∀ {ρ' : List Addr} {A1 : AH} {M' : MS} {O' : Addr → Prop}, Stp ρ A' M (Own (startI c N.length ts) (startG N (.ref p :: args))) ρ' A1 M' O' → Stp ρ A' M (IsP p) ρ' A1 M' O' := fun st => st.moreO fun a z => own_startI z
    cases q : b (startI c N.length ts) A' with
    | nx Γ1 A1 =>
      rw [q] at h
      simp only [RS.toI] at h
      intro ρ' Γ' M' w' st
      cases q0 : Γ1[0]? with
      | none => rw [q0] at h; exact h.elim
      | some sl =>
        rw [q0] at h
        cases sl with
        | no => exact h.elim
        | val _ => exact h.elim
        | own cc =>
          cases cc with
          | ins c' fs =>
            simp only at h
            split at h
            · rename_i hcc
              subst hcc
              obtain ⟨p', dc, e1, e2, rc, nl'⟩ := w'.own 0 _ q0
              have e3 := w'.pin p _ rfl q0
              rw [e1] at e3
              cases e3
              cases rc with
              | @ins _ C' _ gs ei rf =>
                have eC : C' = C := by
                  have := pre_get w'.hm.pre hc
                  rw [ei] at this
                  exact Option.some.inj this
                subst eC
                exact h ρ' M' gs w'.hm ((less st).lessO fun a z => by rw [show a = p from z]; exact ⟨0, _, q0, e1⟩) nl' e2 (.ins ei rf)
            · exact h.elim
          | lst _ => exact h.elim
          | dct _ => exact h.elim
          | pen _ _ => exact h.elim
    | exc C' fs Γ1 A1 =>
      rw [q] at h
      exact fun ρ' M' Ca gs hm' st e r' => h ρ' M' Ca gs hm' (less st) e r'
    | ret _ _ _ => rw [q] at h; exact h.elim
    | brk _ _ => rw [q] at h; exact h.elim
    | cnt _ _ => rw [q] at h; exact h.elim
    | no => rw [q] at h; exact h.elim
end
/-! ### C(..) -/
section
variable {κ : Kc} {ρ : List Addr} {Γ : GE}
theorem stp_p {ρ ρ' : List Addr} {A A' : AH} {M M' : MS} {p : Addr} {c : Cell} {O' : Addr → Prop} (hp : M p = none) (st : Stp ρ A (upM M p c) (IsP p) ρ' A' M' O') : Stp ρ A M NoOwn ρ' A' M' NoOwn := by
  refine ⟨st.pre, fun a h1 h2 _ => ?_, fun a z => ?_⟩
  · have ne : a ≠ p := fun q => h1 (by rw [q]; exact hp)
    have h1' : upM M p c a ≠ none := by rw [upM_ne ne]; exact h1
    rw [st.fr a h1' h2 ne, upM_ne ne]
  · rcases z with z | z
    · rcases st.new a (.inl z) with q | q | q
      · exact .inl q
      · exact .inr (.inr (by rw [show a = p from q]; exact hp))
      · by_cases ne : a = p
        · exact .inr (.inr (by rw [ne]; exact hp))
        · rw [upM_ne ne] at q; exact .inr (.inr q)
    · exact z.elim
theorem stp_del {ρ ρ' : List Addr} {A A' : AH} {M M' : MS} {p : Addr} (hp : M p = none) (st : Stp ρ A M NoOwn ρ' A' M' NoOwn) : Stp ρ A M NoOwn ρ' A' (delM M' p) NoOwn :=
  ⟨st.pre, fun a h1 h2 h3 => by rw [delM_ne fun q => h1 (by rw [q]; exact hp)]; exact st.fr a h1 h2 h3, st.new⟩
theorem sim_mk {F : Fn} {ts ds : List D} {c C : Nat} (hc : κ.cls[c]? = some C) (r : RTs ρ ts ds) : SimAt κ rD ρ Γ (fun Γ M k kx => ∀ p, M p = none → pfI κ.cls c F (.ref p :: ds) (upM M p (.ins C [])) (fun v M2 => v = .non ∧ ∃ fs, M2 p = some (.ins C fs) ∧ k (.ins C fs) (delM M2 p)) kx) (callF F ts) := fun Γt A M k kx w h p hp => by
  have ne : ∀ {a : Addr}, Live A ρ a → a ≠ p := fun z => w.own_ne hp (.inl z)
  refine ⟨p, ds, ρ, ts, A, C, rfl, upM_same, hc, ⟨w.hm.pre, w.hm.len, fun i c' e => ?_, w.hm.inj⟩, fun z => ne z rfl, r, ?_⟩
  · obtain ⟨a, dc, e1, e2, e3⟩ := w.hm.cel i c' e
    exact ⟨a, dc, e1, by rw [upM_ne (ne ⟨i, c', e, e1⟩)]; exact e2, e3⟩
  unfold callF at h
  cases q : F ts A with
  | no => rw [q] at h; exact h
  | ok t A' =>
    rw [q] at h
    intro ρ' M' gs hm st nl hp' rt
    refine ⟨rfl, gs, hp', ?_⟩
    have st2 := stp_del hp (stp_p hp st)
    have hm2 : HM κ.cls ρ' A' (delM M' p) := ⟨hm.pre, hm.len, fun i c' e => by
      obtain ⟨a, dc, e1, e2, e3⟩ := hm.cel i c' e
      exact ⟨a, dc, e1, by rw [delM_ne fun q : a = p => nl (by rw [← q]; exact ⟨i, c', e, e1⟩)]; exact e2, e3⟩, hm.inj⟩
    obtain ⟨w', s'⟩ := HM.back w hm2 st2
    exact h ρ' _ _ w' s' rt
  | exc c' fs A' =>
    rw [q] at h
    intro ρ' M' Ca gs hm st e rf
    obtain ⟨w', s'⟩ := HM.back w hm (stp_p hp st)
    exact h ρ' M' Ca gs w' s' e rf
theorem sim_make {F : Fn} {dds : List D} {g : FA} {as : Mo (List D)} {c C : Nat} (hc : κ.cls[c]? = some C) (hd : plains dds = true) (s : Sim κ rA g as) : Sim κ rD (fMake C (pfI κ.cls c F) dds g) (mCall F dds as) := fun ρ Γ =>
  sim_bind (rel := rD) (fb := fun ds Γ M k kx => ∀ p, M p = none → pfI κ.cls c F (.ref p :: (ds ++ dds)) (upM M p (.ins C [])) (fun v M2 => v = .non ∧ ∃ fs, M2 p = some (.ins C fs) ∧ k (.ins C fs) (delM M2 p)) kx) (s ρ Γ) fun ρ1 xs ds _ r => sim_mk hc (r.append (RTs.self hd))
end
section
variable {κ : Kc} {X : Cx} {k : Nat} {f C c : Nat} {fd : FuncData} {ps : List Str} {F : Fn} {dvs : List V} {dds : List D} {ds : List Value} {x : Str} {p pos : Pos} {e : Expr} {es : List Expr} {as : Mo (List D)}
/-- C(e, ..), frozen behind its __init__ -/
theorem me_make {W : WX} (G : FnG X.prog X.w X.K X.mg X.base (L2.CX X.prog X.w) k f fd ps (spX X.K (pfI κ.cls c F))) (tk : Takes X W) (Mc : Mk X.K C f) (hc : κ.cls[c]? = some C) (hgd : X.A.guards = some []) (hr : Room (k + 1) X.A) (hg : Gl X x) (hm : X.mg x = some (.ref C)) (hb : Binds X.K fd ps ds) (hd : Vals dvs ds) (hdd : ∀ P H, IsVs X.K P H dvs dds) (hpl : plains dds = true)
    (ha : MA κ X (WE W) (e :: es) as) (hdb : (x == ("__debug__" : Str)) = false := by decide) (he : starEach (e :: es) X.env = (false, eval e X.env) :: starEach es X.env := by rfl) (hpl' : (backTo pos (starEach es X.env)).any (·.1) = false := by rfl) :
    ME κ X (WE W) (.Call (.Name x p) (e :: es) [] pos) (mCall F dds as) := let ⟨g, d, s⟩ := ha.ex
  ⟨_, de_make tk Mc G hgd hr hg hm hb hd hdd d hdb he hpl', sim_make hc hpl s⟩
end
/-! ### fields -/
theorem RTf.lookup {ρ : List Addr} {f : Str} : ∀ {fv fs : List (Str × D)} {d : D}, RTf ρ fv fs → fv.lookup f = some d → ∃ v, fs.lookup f = some v ∧ RT ρ d v
  | _, _, _, .nil, e => by cases e
  | _, _, d, .cons (k := k) h t, e => by
    rw [List.lookup_cons] at e ⊢
    cases q : f == k with
    | true => rw [q] at e; cases e; exact ⟨_, rfl, h⟩
    | false => rw [q] at e; exact RTf.lookup t e
theorem RTf.none {ρ : List Addr} {f : Str} : ∀ {fv fs : List (Str × D)}, RTf ρ fv fs → fv.lookup f = none → fs.lookup f = none
  | _, _, .nil, _ => rfl
  | _, _, .cons (k := k) h t, e => by
    rw [List.lookup_cons] at e ⊢
    cases q : f == k with
    | true => rw [q] at e; cases e
    | false => rw [q] at e; exact RTf.none t e
theorem RTf.length {ρ : List Addr} : ∀ {fv fs : List (Str × D)}, RTf ρ fv fs → fs.length = fv.length
  | _, _, .nil => rfl
  | _, _, .cons _ t => congrArg Nat.succ t.length
theorem RTf.put {ρ : List Addr} {f : Str} {y d : D} (hy : RT ρ y d) : ∀ {fv fs : List (Str × D)}, RTf ρ fv fs → RTf ρ (putD f y fv) (putD f d fs)
  | _, _, .nil => .cons hy .nil
  | _, _, .cons (k := k) h t => by
    unfold putD
    by_cases q : k = f
    · rw [if_pos q, if_pos q]
      exact .cons hy t
    · rw [if_neg q, if_neg q]
      exact .cons h (t.put hy)
/-- a field of instances of some classes -/
def FldOk (K : PySem.W.Frag) (cl : List Addr) (cs : List Nat) (nm : Str) : Prop := ∀ c ∈ cs, ∃ C, cl[c]? = some C ∧ Cls K C ∧ NoAttr K C nm
def tFld (cs : List Nat) (nm : Str) (d : D) : Option D := match d with
  | .ins c fs => if c ∈ cs then fs.lookup nm else none
  | _ => none
def mFld (cs : List Nat) (nm : Str) (a : Mo Opd) : Mo D := m1W (tFld cs nm) a
def fldC (cs : List Nat) (nm : Str) (y : D) (c : Cell) : Option (Cell × Unit) := match c with
  | .ins c fs => if c ∈ cs ∧ fs.length < 1000 then some (.ins c (putD nm y fs), ()) else none
  | _ => none
def mFldSet (cs : List Nat) (nm : Str) (e : Mo D) (o : Mo Opd) : Ms := mE e fun y => mE o fun x => mE (updO x (fldC cs nm y)) fun _ Γ A => .nx Γ A
theorem at_cls {cl ρ : List Addr} (p : cl <+: ρ) {i a C : Nat} (h : cl[i]? = some C) (e : ρ[i]? = some a) : a = C := by
  rw [pre_get p h] at e
  exact (Option.some.inj e).symm
section
variable {κ : Kc} {X : Cx} {cs : List Nat} {nm : Str} {pos pos' : Pos} {a o e : Expr} {pa po : Mo Opd} {m : Mo D}
theorem me_fld {E : L2.St → XK} (T : FldOk X.K κ.cls cs nm) (ha : MP κ X E a pa) (hb : attributeBase a nm X.env (eval a X.env) = eval a X.env := by rfl) : ME κ X E (.Attribute a nm pos) (mFld cs nm pa) := let ⟨_, d, s⟩ := ha.ex
  ⟨_, de_fld d hb, fun ρ Γ => sim_bind (rel := rD) (fb := fun x Γ M k kx => ∃ C fs d, vw M x = .ins C fs ∧ Cls X.K C ∧ NoAttr X.K C nm ∧ fs.lookup nm = some d ∧ k d M) (s ρ Γ) fun ρ1 x dx p1 rx Γt A M k kx w h => by
    unfold mRd1 at h
    cases e1 : rdO x Γt A with
    | none => rw [e1] at h; exact h.elim
    | some y =>
      rw [e1] at h
      obtain ⟨t, e, q⟩ := sat_o w h
      have ry := rd_rel w rx e1
      generalize vw M dx = z at ry ⊢
      cases ry with
      | ins ei rf =>
        simp only [tFld] at e
        split at e
        · rename_i hm
          obtain ⟨C, hC, h1, h2⟩ := T _ hm
          obtain rfl := at_cls w.hm.pre hC ei
          obtain ⟨v, e2, rv⟩ := rf.lookup e
          exact ⟨_, _, v, rfl, h1, h2, e2, q _ rv⟩
        · cases e
      | _ => cases e⟩
theorem ms_fld {E : XK} (T : FldOk X.K κ.cls cs nm) (ho : MP κ X (fun _ => E) o po) (he : ME κ X (fun _ => E) e m) (hs : swapsWith e (some (.Attribute o nm pos')) pos.line X.env = pure false := by rfl) : MS1 κ X E (.Assign [.Attribute o nm pos'] e pos) (mFldSet cs nm m po) := let ⟨fo, d1, s1⟩ := ho.ex; let ⟨fe, d2, s2⟩ := he.ex
  ⟨_, ds_fld d1 d2 hs, fun ρ Γ => sims_bind (fb := fun y N Γ M => fo Γ M (fun x M2 => ∃ p C fs, x = .ref p ∧ M2 p = some (.ins C fs) ∧ Cls X.K C ∧ NoAttr X.K C nm ∧ fs.length < 1000 ∧ N.nx Γ (upM M2 p (.ins C (putD nm y fs)))) N.ex) (s2 ρ Γ) fun ρ1 y dy q1 ry =>
    sims_bind (fb := fun x N Γ M => ∃ p C fs, x = .ref p ∧ M p = some (.ins C fs) ∧ Cls X.K C ∧ NoAttr X.K C nm ∧ fs.length < 1000 ∧ N.nx Γ (upM M p (.ins C (putD nm dy fs)))) (s1 ρ1 Γ) fun ρ2 x dx q2 rx Γt A M N w h => by
      have h2 : Sat κ (fun _ _ (_ : Unit) (_ : Unit) => True) (updO x (fldC cs nm y) Γt A) ρ2 Γt A Γ M (fun _ M' => N.nx Γ M') N.ex := by
        unfold mE at h
        cases q : updO x (fldC cs nm y) Γt A with
        | ok a Γ' A' => rw [q] at h; exact fun ρ' M' b w' s' _ => h ρ' Γ M' w' s'
        | exc C fs Γ' A' => rw [q] at h; exact fun ρ' M' Ca gs w' s' => h ρ' M' Ca gs w'.hm s'.noOwn
        | no => rw [q] at h; exact h
      obtain ⟨p, c, dc, c', a, rfl, hp, rc, hf, hk⟩ := sim_upd w rx h2
      cases rc with
      | ins ei rf =>
        simp only [fldC] at hf
        split at hf
        · rename_i hm
          cases hf
          obtain ⟨C, hC, h1, h3⟩ := T _ hm.1
          obtain rfl := at_cls w.hm.pre hC ei
          exact ⟨p, _, _, rfl, hp, h1, h3, by rw [rf.length]; exact hm.2, hk _ () (.ins ei (rf.put (RT.mono q2 _ ry))) trivial⟩
        · cases hf
      | _ => cases hf⟩
end
/-! ### methods, properties -/
def insOf (c : Nat) (nm : Option Str) (d : D) : Bool := match d with
  | .ins c' fs => decide (c' = c) && (match nm with | some f => (fs.lookup f).isNone | none => true)
  | _ => false
def isIns (c : Nat) (nm : Option Str) (x : D) : Mo Unit := fun Γ A => match rdO (.v x) Γ A with
  | some d => if insOf c nm d = true then .ok () Γ A else .no
  | none => .no
def mMeth (c : Nat) (nm : Str) (F : Fn) (dts : List D) (o : Mo D) (as : Mo (List D)) : Mo D := mBind o fun x => mBind (isIns c (some nm) x) fun _ => mBind as fun xs => callF F (x :: (xs ++ dts))
def calmR (r : R D) : R D := match r with
  | .ok d Γ A => .ok d Γ A
  | _ => .no
def mProp (c : Nat) (F : Fn) (o : Mo D) : Mo D := mBind o fun x => mBind (isIns c none x) fun _ => fun Γ A => calmR (callF F [x] Γ A)
section
variable {κ : Kc} {ρ : List Addr} {Γ : GE}
theorem sim_isIns {c C : Nat} {nm : Option Str} {x d : D} {fb : FX D} {g : Mo D} (hc : κ.cls[c]? = some C) (r : RT ρ x d) (h : SimAt κ rD ρ Γ fb g) :
    SimAt κ rD ρ Γ (fun Γ M k kx => ∃ fs, vw M d = .ins C fs ∧ (∀ f, nm = some f → fs.lookup f = none) ∧ fb Γ M k kx) (mBind (isIns c nm x) fun _ => g) := fun Γt A M k kx w hh => by
  unfold mBind isIns at hh
  cases e : rdO (.v x) Γt A with
  | none => rw [e] at hh; exact hh.elim
  | some t =>
    simp only [e] at hh
    split at hh
    · rename_i hi
      have q := rd_rel w (o := .v x) r e
      generalize hv : vw M d = z at q
      cases q with
      | @ins c' C' xs ys ei rf =>
        simp only [insOf, Bool.and_eq_true, decide_eq_true_eq] at hi
        obtain ⟨rfl, hn⟩ := hi
        obtain rfl := at_cls w.hm.pre hc ei
        refine ⟨ys, rfl, fun f hf => ?_, h Γt A M k kx w hh⟩
        subst hf
        simp only [Option.isNone_iff_eq_none] at hn
        exact rf.none hn
      | _ => cases hi
    · exact hh.elim
end
section
variable {κ : Kc} {X : Cx} {k : Nat} {f C c : Nat} {fd : FuncData} {ps : List Str} {F : Fn} {dvs : List V} {dds : List D} {ds : List Value} {m : Str} {p pos apos : Pos} {o e : Expr} {es : List Expr} {mo : Mo D} {as : Mo (List D)}
theorem me_meth {W : WX} {pl : Sem Bool} (G : FnG X.prog X.w X.K X.mg X.base (L2.CX X.prog X.w) k f fd ps (spX X.K (pfT κ.cls F))) (tk : Takes X W) (hc : κ.cls[c]? = some C) (hcl : Cls X.K C) (hm : Meth X.K C m f) (hgd : X.A.guards = some []) (hr : Room k X.A) (hb : Binds X.K fd ps ds) (hd : Vals dvs ds) (hdd : ∀ P H, IsVs X.K P H dvs dds) (hpl : plains dds = true)
    (ho : ME κ X (WE W) o mo) (ha : MA κ X (WE W) (e :: es) as)
    (hst : starEach (e :: es) X.env = (false, eval e X.env) :: starEach es X.env := by rfl) (hpl' : (backTo pos (starEach es X.env)).any (·.1) = false := by rfl)
    (ht : eval (.Call (.Attribute o m apos) (e :: es) [] pos) X.env = (do
      let ov ← eval o X.env
      standAt apos.atName
      let (f, first) ← holding [ov] (getMethod ov m pl)
      callWith pos f first (backTo pos (starEach (e :: es) X.env)) (backToKw pos (keywordEach [] X.env))) := by rfl) :
    ME κ X (WE W) (.Call (.Attribute o m apos) (e :: es) [] pos) (mMeth c m F dds mo as) := let ⟨fo, d, s⟩ := ho.ex; let ⟨g, d', s'⟩ := ha.ex
  ⟨fMeth C m (pfT κ.cls F) dds fo g, de_meth tk d hcl hm G hgd hr hb hd hdd d' hst hpl' ht, fun ρ Γ => sim_bind (rel := rD) (fb := fun x Γ M k kx => ∃ fs, vw M x = .ins C fs ∧ fs.lookup m = none ∧ g Γ M (fun ds M2 => pfT κ.cls F (x :: (ds ++ dds)) M2 k kx) kx) (s ρ Γ) fun ρ1 x dx _ rx Γt A M k kx w h => by
    obtain ⟨fs, h1, h2, h3⟩ := sim_isIns (fb := fun Γ M k kx => g Γ M (fun ds M2 => pfT κ.cls F (dx :: (ds ++ dds)) M2 k kx) kx) hc rx (sim_bind (rel := rD) (fb := fun ds Γ M k kx => pfT κ.cls F (dx :: (ds ++ dds)) M k kx) (s' ρ1 Γ) fun ρ2 xs ds p2 r => sim_callF (.cons (RT.mono p2 _ rx) (r.append (RTs.self hpl)))) Γt A M k kx w h
    exact ⟨fs, h1, h2 _ rfl, h3⟩⟩
theorem me_meth0 {W : WX} {pl : Sem Bool} (G : FnG X.prog X.w X.K X.mg X.base (L2.CX X.prog X.w) k f fd ps (spX X.K (pfT κ.cls F))) (tk : Takes X W) (hc : κ.cls[c]? = some C) (hcl : Cls X.K C) (hm : Meth X.K C m f) (hgd : X.A.guards = some []) (hr : Room k X.A) (hb : Binds X.K fd ps ds) (hd : Vals dvs ds) (hdd : ∀ P H, IsVs X.K P H dvs dds) (hpl : plains dds = true)
    (ho : ME κ X (WE W) o mo)
    (ht : eval (.Call (.Attribute o m apos) [] [] pos) X.env = (do
      let ov ← eval o X.env
      standAt apos.atName
      let (f, first) ← holding [ov] (getMethod ov m pl)
      callWith pos f first (backTo pos (starEach [] X.env)) (backToKw pos (keywordEach [] X.env))) := by rfl) :
    ME κ X (WE W) (.Call (.Attribute o m apos) [] [] pos) (mMeth c m F dds mo mNil) := let ⟨fo, d, s⟩ := ho.ex
  ⟨fMeth C m (pfT κ.cls F) dds fo fNil, de_meth0 tk d hcl hm G hgd hr hb hd hdd ht, fun ρ Γ => sim_bind (rel := rD) (fb := fun x Γ M k kx => ∃ fs, vw M x = .ins C fs ∧ fs.lookup m = none ∧ fNil Γ M (fun ds M2 => pfT κ.cls F (x :: (ds ++ dds)) M2 k kx) kx) (s ρ Γ) fun ρ1 x dx _ rx Γt A M k kx w h => by
    obtain ⟨fs, h1, h2, h3⟩ := sim_isIns (fb := fun Γ M k kx => fNil Γ M (fun ds M2 => pfT κ.cls F (dx :: (ds ++ dds)) M2 k kx) kx) hc rx (sim_bind (rel := rD) (ra := rA) (fa := fNil) (fb := fun ds Γ M k kx => pfT κ.cls F (dx :: (ds ++ dds)) M k kx) (sim_ret fun M k kx q => q _ .nil) fun ρ2 xs ds p2 r => sim_callF (.cons (RT.mono p2 _ rx) (r.append (RTs.self hpl)))) Γt A M k kx w h
    exact ⟨fs, h1, h2 _ rfl, h3⟩⟩
theorem me_prop {E : L2.St → XK} {q : Addr} (G : FnG X.prog X.w X.K X.mg X.base (L2.CX X.prog X.w) k f fd ps (spX X.K (pfT κ.cls F))) (hc : κ.cls[c]? = some C) (hcl : Cls X.K C) (hp : PropOf X.K C m q f) (hgd : X.A.guards = some []) (hr : Room (k + 1) X.A) (hb : Binds X.K fd ps [])
    (ho : ME κ X E o mo) (hab : attributeBase o m X.env (eval o X.env) = eval o X.env := by rfl) : ME κ X E (.Attribute o m pos) (mProp c F mo) := let ⟨fo, d, s⟩ := ho.ex
  ⟨_, de_prop d hcl hp (fng_calm G) hgd hr hb hab, fun ρ Γ => sim_bind (rel := rD) (fb := fun x Γ M k kx => ∃ fs, vw M x = .ins C fs ∧ pfT κ.cls F [x] M k noX) (s ρ Γ) fun ρ1 x dx _ rx Γt A M k kx w h => by
    obtain ⟨fs, h1, _, h3⟩ := sim_isIns (fb := fun Γ M k kx => pfT κ.cls F [dx] M k noX) (nm := none) hc rx (fun Γt A M k kx w h => sim_callF (F := F) (.cons rx .nil) Γt A M k noX w (by
      unfold calmR at h
      cases e : callF F [x] Γt A with
      | ok d Γ' A' => rw [e] at h; exact h
      | exc C fs Γ' A' => rw [e] at h; exact h.elim
      | no => rw [e] at h; exact h)) Γt A M k kx w h
    exact ⟨fs, h1, h3⟩⟩
end
end Fl

set_option Elab.async false
set_option linter.all false
set_option maxRecDepth 100000
set_option maxHeartbeats 4000000
/-! E10: raise, try, what was caught; max, min; lists unpacked; a, b = [], x. -/
namespace Fl
open PySem PySem.Spec PyProof.Rows L2 Dl
/-! ### raise -/
def raise1 (c : Nat) (f : Str) (xs : List D) : Ms := fun Γ A => match xs with
  | [y] => .exc c [(f, y)] Γ A
  | _ => .no
def raise2 (c : Nat) (f f' : Str) (xs : List D) : Ms := fun Γ A => match xs with
  | [y, z] => .exc c [(f', z), (f, y)] Γ A
  | _ => .no
def mRaise1 (c : Nat) (f : Str) (as : Mo (List D)) : Ms := mE as (raise1 c f)
def mRaise2 (c : Nat) (f f' : Str) (as : Mo (List D)) : Ms := mE as (raise2 c f f')
section
variable {κ : Kc} {X : Cx} {E : XK} {x f f' : Str} {C fI c : Nat} {k : Nat} {fd : FuncData} {ps : List Str} {e : Expr} {es : List Expr} {as : Mo (List D)} {p pos pos2 : Pos}
theorem ms_raise1 (hc : X.calm = true) (tk : Takes X (fun cls d _ H => E cls d H)) (T : OexC X.K C) (iC : PySem.W.findIn X.K (.ref C) "__init__" = some (some (.ref fI))) (tI : PySem.W.typeIn X.K (.ref fI) = some (.type "function"))
    (F1 : FnOk X.prog X.w X.K X.mg X.base CX0 k fI fd ps (spI1 C f)) (hr : Room (k + 1) X.A) (hb : Binds X.K fd ps []) (hg : Gl X x) (hm : X.mg x = some (.ref C)) (hcl : κ.cls[c]? = some C) (ha : MA κ X (fun _ => E) (e :: es) as)
    (hdb : (x == ("__debug__" : Str)) = false := by decide) (he : starEach (e :: es) X.env = (false, eval e X.env) :: starEach es X.env := by rfl) (hpl : (backTo pos (starEach es X.env)).any (·.1) = false := by rfl) :
    MS1 κ X E (.Raise (some (.Call (.Name x p) (e :: es) [] pos)) none pos2) (mRaise1 c f as) := let ⟨g, d, s⟩ := ha.ex
  ⟨_, ds_raise1 hc tk T iC tI F1 hr hb hg hm d hdb he hpl, fun ρ Γ => sims_bind (fb := fun ds N Γ M => ∃ y, ds = [y] ∧ N.ex C [(f, y)] M) (s ρ Γ) fun ρ1 xs ds _ r Γt A M N w h => by
    cases r with
    | nil => exact h.elim
    | cons r1 r2 =>
      cases r2 with
      | cons _ _ => exact h.elim
      | nil => exact ⟨_, rfl, h ρ1 M C _ w.hm Stp.refl.noOwn (pre_get w.hm.pre hcl) (.cons r1 .nil)⟩⟩
theorem ms_raise2 (hc : X.calm = true) (tk : Takes X (fun cls d _ H => E cls d H)) (T : OexC X.K C) (iC : PySem.W.findIn X.K (.ref C) "__init__" = some (some (.ref fI))) (tI : PySem.W.typeIn X.K (.ref fI) = some (.type "function"))
    (F1 : FnOk X.prog X.w X.K X.mg X.base CX0 k fI fd ps (spI2 C f f')) (hr : Room (k + 1) X.A) (hb : Binds X.K fd ps []) (hg : Gl X x) (hm : X.mg x = some (.ref C)) (hcl : κ.cls[c]? = some C) (ha : MA κ X (fun _ => E) (e :: es) as)
    (hdb : (x == ("__debug__" : Str)) = false := by decide) (he : starEach (e :: es) X.env = (false, eval e X.env) :: starEach es X.env := by rfl) (hpl : (backTo pos (starEach es X.env)).any (·.1) = false := by rfl) :
    MS1 κ X E (.Raise (some (.Call (.Name x p) (e :: es) [] pos)) none pos2) (mRaise2 c f f' as) := let ⟨g, d, s⟩ := ha.ex
  ⟨_, ds_raise2 hc tk T iC tI F1 hr hb hg hm d hdb he hpl, fun ρ Γ => sims_bind (fb := fun ds N Γ M => ∃ y z, ds = [y, z] ∧ N.ex C [(f', z), (f, y)] M) (s ρ Γ) fun ρ1 xs ds _ r Γt A M N w h => by
    cases r with
    | nil => exact h.elim
    | cons r1 r2 =>
      cases r2 with
      | nil => exact h.elim
      | cons r2 r3 =>
        cases r3 with
        | cons _ _ => exact h.elim
        | nil => exact ⟨_, _, rfl, h ρ1 M C _ w.hm Stp.refl.noOwn (pre_get w.hm.pre hcl) (.cons r2 (.cons r1 .nil))⟩⟩
/-! ### try -/
/-- which classes `except C` takes -/
def TakesOk (K : PySem.W.Frag) (cl : List Addr) (cv : Value) (em : Nat → Option Bool) : Prop := ∀ (i : Nat) (b : Bool), em i = some b → ∃ C, cl[i]? = some C ∧ PySem.W.exmOne K (.ref C) cv = some b
def keepX (em : Nat → Option Bool) (i j C : Nat) (fs : List (Str × D)) : Ms := fun Γ A => match em C with
  | some true => .nx ((Γ.set i .no).set j (.val (.exv C fs))) A
  | some false => .exc C fs Γ A
  | none => .no
def mTryE (em : Nat → Option Bool) (i j : Nat) (m : Mo D) : Ms := fun Γ A => if i < Γ.length then (match m Γ A with
  | .ok _ Γ' A' => .nx Γ' A'
  | .exc C fs Γ' A' => keepX em i j C fs Γ' A'
  | .no => .no) else .no
def mTryS (em : Nat → Option Bool) (i j l : Nat) (m : Mo D) : Ms := fun Γ A => if i < Γ.length then (match m Γ A with
  | .ok d Γ' A' => .nx (Γ'.set l (.val d)) A'
  | .exc C fs Γ' A' => keepX em i j C fs Γ' A'
  | .no => .no) else .no
theorem sat_keep {ρ ρ' : List Addr} {Γt Γt' : SG} {A A' : AH} {Γ : GE} {M M' : MS} {N : Nd} {em : Nat → Option Bool} {i j c Ca : Nat} {fs gs : List (Str × D)} {cv : Value} (T : TakesOk X.K κ.cls cv em) (w' : Wd κ ρ' Γt' A' Γ M') (s' : Stp ρ A M (Own Γt Γ) ρ' A' M' (Own Γt' Γ))
    (e : ρ'[c]? = some Ca) (r : RTf ρ' fs gs) (h : SatS κ (keepX em i j c fs Γt' A') ρ Γt A Γ M N) : kxTry X.K cv i j N Γ Ca gs M' := by
  unfold keepX at h
  cases q : em c with
  | none => rw [q] at h; exact h.elim
  | some b =>
    rw [q] at h
    obtain ⟨C, hC, hb⟩ := T c b q
    obtain rfl := at_cls w'.hm.pre hC e
    refine ⟨b, hb, fun z => ?_, fun z => ?_⟩
    · subst z
      exact h ρ' _ M' ((w'.drop i).set j (.exv e r)) (s'.lessO fun a z => own_drop (own_set z))
    · subst z
      exact h ρ' M' Ca gs w'.hm s'.noOwn e r
variable {n v : Str} {cv : Value} {i j l : Nat} {m : Mo D} {np pn pv p0 pm : Pos} {em : Nat → Option Bool} {psq : Pos}
theorem ms_tryE (i j : Nat) (hij : i ≠ j) (T : TakesOk X.K κ.cls cv em) (hx0 : X.ex = []) (hs : X.stack = X.env :: X.outer) (hf : X.env.frame = some X.env.locals) (hN : X.N.Nodup) (hi : X.N[i]? = some n) (hln : X.env.kindOf n = some .local) (hc : Names X x cv) (tk : Takes X (fun cls d _ H => E cls d H))
    (he : ∀ (W : WX) (pn : List (Addr × Obj)) (xe : Value → Shared → Prop), Takes (X.tr pn xe) W → ME κ (X.tr pn xe) (WE W) e m)
    (hsu : ∀ (a : Addr) (oe : Obj) (pn' : List (Addr × Obj)), DSs (X.suite a ((a, oe) :: pn')) E0 [.Assign [.Name v pv] (.Name n pn) psq] (fSet j (fVar i)))
    (hw : swapsWith e none p0.line X.env = pure false := by rfl) :
    MS1 κ X E (.Try [.Expr e p0] [.ExceptHandler (some (.Name x np)) (some n) [.Assign [.Name v pv] (.Name n pn) psq] pos2] [] [] pos) (mTryE em i j m) :=
  ⟨_, ds_tryE i j hij hx0 hs hf hN hi hln hc tk (fun W pn xe tk' => (he W pn xe tk').de) hsu hw, fun ρ Γ Γt A M N w h => by
    unfold mTryE at h
    split at h
    · rename_i hl
      refine ⟨by rw [w.len]; exact hl, ρ, Γt, A, w, ?_⟩
      cases q : m Γt A with
      | ok d Γ' A' => rw [q] at h; exact fun ρ' M' b w' s' _ => h ρ' Γ M' w' s'
      | exc C fs Γ' A' => rw [q] at h; exact fun ρ' M' Ca gs w' s' e' r => sat_keep T w' s' e' r h
      | no => rw [q] at h; exact h
    · exact h.elim⟩
theorem ms_tryS {y : Str} (i j l : Nat) (hij : i ≠ j) (T : TakesOk X.K κ.cls cv em) (hx0 : X.ex = []) (hs : X.stack = X.env :: X.outer) (hf : X.env.frame = some X.env.locals) (hN : X.N.Nodup) (hi : X.N[i]? = some n) (hm : X.N[l]? = some y) (hly : Loc X.env.scope y) (hln : X.env.kindOf n = some .local) (hc : Names X x cv) (tk : Takes X (fun cls d _ H => E cls d H))
    (he : ∀ (W : WX) (pn : List (Addr × Obj)) (xe : Value → Shared → Prop), Takes (X.tr pn xe) W → ME κ (X.tr pn xe) (WE W) e m)
    (hsu : ∀ (a : Addr) (oe : Obj) (pn' : List (Addr × Obj)), DSs (X.suite a ((a, oe) :: pn')) E0 [.Assign [.Name v pv] (.Name n pn) psq] (fSet j (fVar i)))
    (hw : swapsWith e (some (.Name y pm)) p0.line X.env = pure false := by rfl) (hfn : X.fn y = true ∨ X.env.scope.names.lookup y = some .local := by first | exact .inl rfl | exact .inr rfl | assumption) :
    MS1 κ X E (.Try [.Assign [.Name y pm] e p0] [.ExceptHandler (some (.Name x np)) (some n) [.Assign [.Name v pv] (.Name n pn) psq] pos2] [] [] pos) (mTryS em i j l m) :=
  ⟨_, ds_tryS i j l hij hx0 hs hf hN hi hm hly hln hc tk (fun W pn xe tk' => (he W pn xe tk').de) hsu hw hfn, fun ρ Γ Γt A M N w h => by
    unfold mTryS at h
    split at h
    · rename_i hl
      refine ⟨by rw [w.len]; exact hl, ρ, Γt, A, w, ?_⟩
      cases q : m Γt A with
      | ok d Γ' A' => rw [q] at h; exact fun ρ' M' b w' s' r => h ρ' _ M' (w'.set l r) (s'.lessO fun a z => own_set z)
      | exc C fs Γ' A' => rw [q] at h; exact fun ρ' M' Ca gs w' s' e' r => sat_keep T w' s' e' r h
      | no => rw [q] at h; exact h
    · exact h.elim⟩
end
/-! ### a field of what was caught -/
def XfOk (K : PySem.W.Frag) (cl : List Addr) (cs : List Nat) (nm : Str) : Prop := ∀ c ∈ cs, ∃ C, cl[c]? = some C ∧ XfC K C ∧ PySem.W.findIn K (.ref C) nm = some none
def tXf (cs : List Nat) (nm : Str) (d : D) : Option D := match d with
  | .exv c fs => if c ∈ cs then fs.lookup nm else none
  | _ => none
def mXf (cs : List Nat) (nm : Str) (a : Mo Opd) : Mo D := m1W (tXf cs nm) a
section
variable {κ : Kc} {X : Cx} {E : L2.St → XK} {cs : List Nat} {nm : Str} {pos p : Pos} {a b : Expr} {pa : Mo Opd} {as : Mo (List D)}
theorem me_xf (T : XfOk X.K κ.cls cs nm) (ha : MP κ X E a pa) (hb : attributeBase a nm X.env (eval a X.env) = eval a X.env := by rfl) : ME κ X E (.Attribute a nm pos) (mXf cs nm pa) := let ⟨_, d, s⟩ := ha.ex
  ⟨_, de_xf d hb, fun ρ Γ => sim_bind (rel := rD) (fb := fun x Γ M k kx => ∃ C fs d, vw M x = .exv C fs ∧ XfC X.K C ∧ PySem.W.findIn X.K (.ref C) nm = some none ∧ fs.lookup nm = some d ∧ k d M) (s ρ Γ) fun ρ1 x dx p1 rx Γt A M k kx w h => by
    unfold mRd1 at h
    cases e1 : rdO x Γt A with
    | none => rw [e1] at h; exact h.elim
    | some y =>
      rw [e1] at h
      obtain ⟨t, e, q⟩ := sat_o w h
      have ry := rd_rel w rx e1
      generalize vw M dx = z at ry ⊢
      cases ry with
      | exv ei rf =>
        simp only [tXf] at e
        split at e
        · rename_i hm
          obtain ⟨C, hC, h1, h2⟩ := T _ hm
          obtain rfl := at_cls w.hm.pre hC ei
          obtain ⟨v, e2, rv⟩ := rf.lookup e
          exact ⟨_, _, v, rfl, h1, h2, e2, q _ rv⟩
        · cases e
      | _ => cases e⟩
/-! ### max, min -/
def mCBn (o : List D → Option D) (as : Mo (List D)) : Mo D := mBind as fun xs => mO (o xs)
def gMax2 : FN := fun ds M k => ∃ i j : Int, ds = [.int i, .int j] ∧ k (.int (if j > i then j else i)) M
def gMin2 : FN := fun ds M k => ∃ i j : Int, ds = [.int i, .int j] ∧ k (.int (if j < i then j else i)) M
def tMax2 (xs : List D) : Option D := match xs with
  | [.int i, .int j] => some (.int (if j > i then j else i))
  | _ => none
def tMin2 (xs : List D) : Option D := match xs with
  | [.int i, .int j] => some (.int (if j < i then j else i))
  | _ => none
theorem ints2 {ρ : List Addr} {xs ds : List D} {i j : Int} (r : RTs ρ xs ds) (h : xs = [.int i, .int j]) : ds = [.int i, .int j] := by
  subst h
  exact RTs.of_ints (ns := [i, j]) r
theorem isInts2 {K : PySem.W.Frag} {P : Addr → Prop} {H : Hp} {vs : List V} {i j : Int} (h : IsVs K P H vs [.int i, .int j]) : vs = [.int i, .int j] := IsVs.of_ints (ns := [i, j]) h
theorem me_max2 (hc : X.calm = true) (hg : Gl X "max") (hm : X.mg "max" = none) (ha : MA κ X E [a, b] as) (he : starEach [a, b] X.env = (false, eval a X.env) :: starEach [b] X.env := by rfl) (hpl : (backTo pos (starEach [b] X.env)).any (·.1) = false := by rfl) : ME κ X E (.Call (.Name "max" p) [a, b] [] pos) (mCBn tMax2 as) := let ⟨_, d, s⟩ := ha.ex
  ⟨_, de_callB (call_max2 hc) (gn := gMax2) (fun F H M vs ds k Q R hv hg L => by
    obtain ⟨i, j, rfl, hk⟩ := hg
    exact ⟨i, j, isInts2 hv, L.now R hk (.int _)⟩) hg hm (by decide +kernel) d (by decide) (by decide) he hpl, fun ρ Γ => sim_bind (rel := rD) (fb := fun ds Γ M k kx => gMax2 ds M k) (s ρ Γ) fun ρ1 xs ds _ r => sim_o fun M k kx t e q => by
      unfold tMax2 at e
      split at e
      · cases e; exact ⟨_, _, ints2 r rfl, q _ (.int _)⟩
      · cases e⟩
theorem me_min2 (hc : X.calm = true) (hg : Gl X "min") (hm : X.mg "min" = none) (ha : MA κ X E [a, b] as) (he : starEach [a, b] X.env = (false, eval a X.env) :: starEach [b] X.env := by rfl) (hpl : (backTo pos (starEach [b] X.env)).any (·.1) = false := by rfl) : ME κ X E (.Call (.Name "min" p) [a, b] [] pos) (mCBn tMin2 as) := let ⟨_, d, s⟩ := ha.ex
  ⟨_, de_callB (call_min2 hc) (gn := gMin2) (fun F H M vs ds k Q R hv hg L => by
    obtain ⟨i, j, rfl, hk⟩ := hg
    exact ⟨i, j, isInts2 hv, L.now R hk (.int _)⟩) hg hm (by decide +kernel) d (by decide) (by decide) he hpl, fun ρ Γ => sim_bind (rel := rD) (fb := fun ds Γ M k kx => gMin2 ds M k) (s ρ Γ) fun ρ1 xs ds _ r => sim_o fun M k kx t e q => by
      unfold tMin2 at e
      split at e
      · cases e; exact ⟨_, _, ints2 r rfl, q _ (.int _)⟩
      · cases e⟩
def intsOf : List D → Option (List Int)
  | [] => some []
  | .int b :: r => (intsOf r).map (b :: ·)
  | _ :: _ => none
theorem intsOf_ok : ∀ {xs : List D} {bs : List Int}, intsOf xs = some bs → xs = bs.map .int
  | [], _, e => by cases e; rfl
  | x :: r, bs, e => by
    cases x with
    | int b =>
      simp only [intsOf, Option.map_eq_some_iff] at e
      obtain ⟨l, h, rfl⟩ := e
      rw [intsOf_ok h]
      rfl
    | _ => cases e
theorem intsOf_map (ns : List Int) : intsOf (ns.map .int) = some ns := by
  induction ns with
  | nil => rfl
  | cons n ns ih => simp [intsOf, ih]
def maxI (n : Int) (ns : List Int) : Int := ns.foldl (fun a b => if a < b then b else a) n
def minI (n : Int) (ns : List Int) : Int := ns.foldl (fun a b => if b < a then b else a) n
theorem maxI_ok : ∀ (ns : List Int) (n : Int), maxI n ns ∈ n :: ns ∧ ∀ y ∈ n :: ns, y ≤ maxI n ns
  | [], n => ⟨List.mem_cons_self, fun y h => by
    rw [List.mem_singleton.mp h]
    exact Int.le_refl _⟩
  | m :: ns, n => by
    obtain ⟨h1, h2⟩ := maxI_ok ns (if n < m then m else n)
    have e : maxI n (m :: ns) = maxI (if n < m then m else n) ns := rfl
    rw [e]
    have h3 := h2 _ List.mem_cons_self
    generalize hz : maxI (if n < m then m else n) ns = z at h1 h2 h3 ⊢
    clear hz e
    refine ⟨?_, fun y hy => ?_⟩
    · rcases List.mem_cons.mp h1 with q | q
      · rw [q]; split <;> simp
      · exact List.mem_cons_of_mem _ (List.mem_cons_of_mem _ q)
    · rcases List.mem_cons.mp hy with rfl | hy
      · split at h3 <;> omega
      · rcases List.mem_cons.mp hy with rfl | hy
        · split at h3 <;> omega
        · exact h2 y (List.mem_cons_of_mem _ hy)
theorem minI_ok : ∀ (ns : List Int) (n : Int), minI n ns ∈ n :: ns ∧ ∀ y ∈ n :: ns, minI n ns ≤ y
  | [], n => ⟨List.mem_cons_self, fun y h => by
    rw [List.mem_singleton.mp h]
    exact Int.le_refl _⟩
  | m :: ns, n => by
    obtain ⟨h1, h2⟩ := minI_ok ns (if m < n then m else n)
    have e : minI n (m :: ns) = minI (if m < n then m else n) ns := rfl
    rw [e]
    have h3 := h2 _ List.mem_cons_self
    generalize hz : minI (if m < n then m else n) ns = z at h1 h2 h3 ⊢
    clear hz e
    refine ⟨?_, fun y hy => ?_⟩
    · rcases List.mem_cons.mp h1 with q | q
      · rw [q]; split <;> simp
      · exact List.mem_cons_of_mem _ (List.mem_cons_of_mem _ q)
    · rcases List.mem_cons.mp hy with rfl | hy
      · split at h3 <;> omega
      · rcases List.mem_cons.mp hy with rfl | hy
        · split at h3 <;> omega
        · exact h2 y (List.mem_cons_of_mem _ hy)
def gMaxL : FN := fun ds M k => ∃ ns : List Int, ds = [.lst (ns.map .int)] ∧ 0 < ns.length ∧ ∀ m, m ∈ ns → (∀ y, y ∈ ns → y ≤ m) → k (.int m) M
def gMinL : FN := fun ds M k => ∃ ns : List Int, ds = [.lst (ns.map .int)] ∧ 0 < ns.length ∧ ∀ m, m ∈ ns → (∀ y, y ∈ ns → m ≤ y) → k (.int m) M
def tMaxL (x : D) : Option D := match x with
  | .lst xs => match intsOf xs with
    | some (n :: ns) => some (.int (maxI n ns))
    | _ => none
  | _ => none
def tMinL (x : D) : Option D := match x with
  | .lst xs => match intsOf xs with
    | some (n :: ns) => some (.int (minI n ns))
    | _ => none
  | _ => none
theorem op1_maxL : Op1 gMaxL tMaxL := by
  intro ρ x dx M k t r e q
  cases r with
  | lst a =>
    simp only [tMaxL] at e
    split at e
    · rename_i n ns h
      cases e
      rw [intsOf_ok h] at a
      refine ⟨n :: ns, by rw [RTs.of_ints a], Nat.succ_pos _, fun m h1 h2 => ?_⟩
      obtain ⟨h3, h4⟩ := maxI_ok ns n
      rw [Int.le_antisymm (h4 m h1) (h2 _ h3)]
      exact q _ (.int _)
    · cases e
  | _ => cases e
theorem op1_minL : Op1 gMinL tMinL := by
  intro ρ x dx M k t r e q
  cases r with
  | lst a =>
    simp only [tMinL] at e
    split at e
    · rename_i n ns h
      cases e
      rw [intsOf_ok h] at a
      refine ⟨n :: ns, by rw [RTs.of_ints a], Nat.succ_pos _, fun m h1 h2 => ?_⟩
      obtain ⟨h3, h4⟩ := minI_ok ns n
      rw [Int.le_antisymm (h2 _ h3) (h4 m h1)]
      exact q _ (.int _)
    · cases e
  | _ => cases e
theorem cd_maxL {K : PySem.W.Frag} : CallD K (rMax K) (wCB gMaxL) := cd_w fun F H M vs ds k Q R hv hg L => by
  obtain ⟨ns, rfl, hl, hk⟩ := hg
  cases hv with
  | cons v1 v2 =>
    cases v2
    cases v1 with
    | lst h1 h2 => exact ⟨_, ns, rfl, SqL.of (by rw [← h2.of_ints]; exact h1), hl, fun m a1 a2 => L.now R (hk m a1 a2) (.int _)⟩
theorem cd_minL {K : PySem.W.Frag} : CallD K (rMin K) (wCB gMinL) := cd_w fun F H M vs ds k Q R hv hg L => by
  obtain ⟨ns, rfl, hl, hk⟩ := hg
  cases hv with
  | cons v1 v2 =>
    cases v2
    cases v1 with
    | lst h1 h2 => exact ⟨_, ns, rfl, SqL.of (by rw [← h2.of_ints]; exact h1), hl, fun m a1 a2 => L.now R (hk m a1 a2) (.int _)⟩
theorem me_maxL (hc : X.calm = true) (hg : Gl X "max") (hm : X.mg "max" = none) (ha : MP κ X E a pa) (he : starEach [a] X.env = (false, eval a X.env) :: starEach [] X.env := by rfl) : ME κ X E (.Call (.Name "max" p) [a] [] pos) (m1W tMaxL pa) := let ⟨_, d, s⟩ := ha.ex; ⟨_, de_callB (cr_max hc) cd_maxL hg hm (by decide +kernel) (da_cons d da_nil he) (by decide) (by decide) he, sim_1W op1_maxL s⟩
theorem me_minL (hc : X.calm = true) (hg : Gl X "min") (hm : X.mg "min" = none) (ha : MP κ X E a pa) (he : starEach [a] X.env = (false, eval a X.env) :: starEach [] X.env := by rfl) : ME κ X E (.Call (.Name "min" p) [a] [] pos) (m1W tMinL pa) := let ⟨_, d, s⟩ := ha.ex; ⟨_, de_callB (cr_min hc) cd_minL hg hm (by decide +kernel) (da_cons d da_nil he) (by decide) (by decide) he, sim_1W op1_minL s⟩
end
/-! ### a list unpacked -/
def gUn (n : Nat) (gs : FGs) : FG := fun d Γ k => ∃ ds, d = .lst ds ∧ ds.length = n ∧ gs ds Γ k
def tUn (n : Nat) (ts : Tgs) : Tg := fun x Γ => match x with
  | .lst xs => if xs.length = n then ts xs Γ else none
  | _ => none
theorem dg_unl {X : Cx} {pos : Pos} {es : List Expr} {k : Nat} {gs : FGs} {n : Nat} {js : List Nat} (hc : X.calm = true) (h : DGs X es gs js) (hn : (assignEach es X.env).length = n := by rfl) (hst : (assignEach es X.env).findIdx? (·.1) = none := by rfl) : DG X (.Tuple es k pos) (gUn n gs) js :=
  pg_w (pg_unl hc h hn hst) fun v σ H Q ⟨F, Γ, M, d, k, R, hv, h, L⟩ => by
    obtain ⟨ds, rfl, hl, h⟩ := h
    obtain ⟨a, vs, rfl, n1, h1, h2⟩ := hv.to_lst
    exact ⟨a, vs, rfl, SqL.of h1, h2.length.trans hl, F, Γ, M, ds, k, R, h2, h, L⟩
theorem mg_unl {κ : Kc} {X : Cx} {pos : Pos} {es : List Expr} {ts : Tgs} {js : List Nat} {k n : Nat} (hc : X.calm = true) (h : MGs κ X es ts js) (hn : (assignEach es X.env).length = n := by rfl) (hst : (assignEach es X.env).findIdx? (·.1) = none := by rfl) : MG κ X (.Tuple es k pos) (tUn n ts) js := let ⟨g, d, s⟩ := h.ex
  ⟨_, dg_unl hc d hn hst, fun ρ Γt A Γ M x d k Γt1 w r e h => by
    cases r with
    | lst r =>
      simp only [tUn] at e
      split at e
      · rename_i hl
        exact ⟨_, rfl, by rw [r.length]; exact hl, s ρ Γt A Γ M _ _ _ Γt1 w r e h⟩
      · cases e
    | _ => cases e⟩
/-! ### a, b = (new), x -/
def mParO (i j : Nat) (mc : Mo Cell) (mb : Mo D) : Ms := mE mc fun c => fun Γ A => if i = 0 then .no else (mb (Γ.set i .no) A).toS fun y Γ2 A2 => .nx ((Γ2.set i (.own c)).set j (.val y)) A2
section
variable {κ : Kc} {X : Cx} {E : XK}
theorem Wd.own2 {ρ ρ' : List Addr} {Γ : GE} {Γt Γt' : SG} {A A' : AH} {M M' : MS} {p i : Nat} {c dc : Cell} (w : Wd κ ρ Γt A Γ M) (h0 : i ≠ 0) (hp : M p = none) (r : RC ρ c dc) (w' : Wd κ ρ' Γt' A' Γ M') (s' : Stp ρ A (upM M p dc) (Own (Γt.set i .no) Γ) ρ' A' M' (Own Γt' Γ)) :
    Wd κ ρ' (Γt'.set i (.own c)) A' (Γ.set i (some (.ref p))) M' ∧ Stp ρ A M (Own Γt Γ) ρ' A' M' (Own (Γt'.set i (.own c)) (Γ.set i (some (.ref p)))) := by
  have odrop : ∀ {a : Addr}, Own (Γt.set i .no) Γ a → Own Γt Γ a := fun {a} ⟨l, c', e, e'⟩ => by
    by_cases hl : i = l
    · subst hl
      rw [List.getElem?_set_self'] at e
      cases q : Γt[i]? with
      | none => rw [q] at e; cases e
      | some _ => rw [q] at e; cases e
    · rw [List.getElem?_set_ne hl] at e
      exact ⟨l, c', e, e'⟩
  have np : ∀ {a : Addr}, Live A ρ a ∨ Own Γt Γ a → a ≠ p := fun z => w.own_ne hp z
  have np' : ∀ {a : Addr}, Live A' ρ' a ∨ Own Γt' Γ a → a ≠ p := fun {a} z q => by
    subst q
    rcases s'.new a z with z | z | z
    · exact np (.inl z) rfl
    · exact np (.inr (odrop z)) rfl
    · rw [upM_same] at z; cases z
  have hMp : M' p = some dc := by
    rw [s'.fr p (by rw [upM_same]; exact nofun) (fun z => np (.inl z) rfl) fun z => np (.inr (odrop z)) rfl, upM_same]
  refine ⟨⟨w'.hm, by rw [List.length_set, List.length_set]; exact w'.len, fun l t e => ?_, fun l c' e => ?_, fun l l' c1 c2 e1 e2 q => ?_, fun pp c' hpp e => by rw [List.getElem?_set_ne h0] at e ⊢; exact w'.pin pp c' hpp e⟩, ⟨s'.pre, fun a h1 h2 h3 => ?_, fun a z => ?_⟩⟩
  · by_cases hl : i = l
    · subst hl
      rw [List.getElem?_set_self'] at e
      cases q : Γt'[i]? with
      | none => rw [q] at e; cases e
      | some _ => rw [q] at e; cases e
    · rw [List.getElem?_set_ne hl] at e ⊢
      exact w'.val l t e
  · by_cases hl : i = l
    · subst hl
      have hb : i < Γt'.length := by
        have := (List.getElem?_eq_some_iff.mp e).1
        rwa [List.length_set] at this
      rw [List.getElem?_set_self hb] at e
      cases e
      exact ⟨p, dc, by rw [List.getElem?_set_self (by rw [w'.len]; exact hb)], hMp, r.mono s'.pre, fun z => np' (.inl z) rfl⟩
    · rw [List.getElem?_set_ne hl] at e ⊢
      exact w'.own l c' e
  · have same : ∀ {l l' : Nat} {c1 c2 : Cell}, i = l → i ≠ l' → (Γt'.set i (.own c))[l]? = some (.own c1) → (Γt'.set i (.own c))[l']? = some (.own c2) → (Γ.set i (some (.ref p)))[l]? = (Γ.set i (some (.ref p)))[l']? → False := fun {l l' c1 c2} hl hl' e1 e2 q => by
      subst hl
      have hb : i < Γt'.length := by
        have := (List.getElem?_eq_some_iff.mp e1).1
        rwa [List.length_set] at this
      rw [List.getElem?_set_ne hl'] at e2
      obtain ⟨b, dc', b1, b2, _⟩ := w'.own l' c2 e2
      rw [List.getElem?_set_self (by rw [w'.len]; exact hb), List.getElem?_set_ne hl', b1] at q
      cases q
      exact np' (.inr ⟨l', c2, e2, b1⟩) rfl
    by_cases hl : i = l
    · by_cases hl' : i = l'
      · exact hl.symm.trans hl'
      · exact (same hl hl' e1 e2 q).elim
    · by_cases hl' : i = l'
      · exact (same hl' hl e2 e1 q.symm).elim
      · rw [List.getElem?_set_ne hl] at e1
        rw [List.getElem?_set_ne hl'] at e2
        rw [List.getElem?_set_ne hl, List.getElem?_set_ne hl'] at q
        exact w'.sep l l' c1 c2 e1 e2 q
  · have ne : a ≠ p := fun q => h1 (by rw [q]; exact hp)
    rw [s'.fr a (by rw [upM_ne ne]; exact h1) h2 (fun z => h3 (odrop z)), upM_ne ne]
  · have back : Live A' ρ' a ∨ Own Γt' Γ a → Live A ρ a ∨ Own Γt Γ a ∨ M a = none := fun z => by
      rcases s'.new a z with q | q | q
      · exact .inl q
      · exact .inr (.inl (odrop q))
      · have ne : a ≠ p := fun e => by rw [e, upM_same] at q; cases q
        rw [upM_ne ne] at q
        exact .inr (.inr q)
    rcases z with z | ⟨l, c', e, e'⟩
    · exact back (.inl z)
    · by_cases hl : i = l
      · subst hl
        rw [List.getElem?_set_self'] at e'
        cases q : Γ[i]? with
        | none => rw [q] at e'; cases e'
        | some _ => rw [q] at e'; cases e'; exact .inr (.inr hp)
      · rw [List.getElem?_set_ne hl] at e e'
        exact back (.inr ⟨l, c', e, e'⟩)
theorem Wd.no {ρ : List Addr} {Γ : GE} {Γt : SG} {A : AH} {M : MS} {p i : Nat} {dc : Cell} (w : Wd κ ρ Γt A Γ M) (hp : M p = none) : Wd κ ρ (Γt.set i .no) A Γ (upM M p dc) := by
  have at_ : ∀ {j : Nat} {s : Sl}, (Γt.set i .no)[j]? = some s → s ≠ .no → Γt[j]? = some s := fun {j s} e n => by
    by_cases hj : i = j
    · subst hj
      rw [List.getElem?_set_self'] at e
      cases q : Γt[i]? with
      | none => rw [q] at e; cases e
      | some _ => rw [q] at e; cases e; exact absurd rfl n
    · rw [List.getElem?_set_ne hj] at e
      exact e
  refine ⟨⟨w.hm.pre, w.hm.len, fun j c' e => ?_, w.hm.inj⟩, by rw [List.length_set]; exact w.len, fun j t e => w.val j t (at_ e nofun), fun j c' e => ?_, fun j l c1 c2 e1 e2 q => w.sep j l c1 c2 (at_ e1 nofun) (at_ e2 nofun) q, fun pp c' hpp e => w.pin pp c' hpp (at_ e nofun)⟩
  · obtain ⟨a, dc', e1, e2, e3⟩ := w.hm.cel j c' e
    exact ⟨a, dc', e1, by rw [upM_ne (w.own_ne hp (.inl ⟨j, c', e, e1⟩))]; exact e2, e3⟩
  · have e' := at_ e nofun
    obtain ⟨q, dc', e1, e2, r1, nl⟩ := w.own j c' e'
    exact ⟨q, dc', e1, by rw [upM_ne (w.own_ne hp (.inr ⟨j, c', e', e1⟩))]; exact e2, r1, nl⟩
theorem ms_parO (i j : Nat) {x y : Str} {a b : Expr} {mc : Mo Cell} {mb : Mo D} {px py pt pos : Pos} {kt k2 pt2} (hc : X.calm = true) (hN : X.N.Nodup) (hi : X.N[i]? = some x) (hj : X.N[j]? = some y) (hij : i ≠ j)
    (hx : X.env.scope.names.lookup x = some .local) (hy : X.env.scope.names.lookup y = some .local) (ha : MN κ X (fun _ => E) a mc) (hb : ME κ X (fun _ => E) b mb)
    (hw : swappedStores [.Tuple [.Name x px, .Name y py] kt pt] (.Tuple [a, b] k2 pt2) X.env = pure (some [x, y]))
    (hs1 : starEach [a, b] X.env = (false, eval a X.env) :: starEach [b] X.env := by rfl) (hs2 : starEach [b] X.env = (false, eval b X.env) :: starEach [] X.env := by rfl)
    (hs : swapsWithSole [.Tuple [.Name x px, .Name y py] kt pt] (.Tuple [a, b] k2 pt2) pos.line X.env = pure false := by rfl) :
    MS1 κ X E (.Assign [.Tuple [.Name x px, .Name y py] kt pt] (.Tuple [a, b] k2 pt2) pos) (mParO i j mc mb) := let ⟨f, d, s⟩ := ha.ex; let ⟨g, d', s'⟩ := hb.ex
  ⟨_, ds_par i j hc hN hi hj hij hx hy (da_cons d (da_cons d' da_nil hs2) hs1) hw hs, fun ρ Γ => sims_bind (fb := fun c N Γ M => ∀ p, M p = none → g Γ (upM M p c) (fun y M2 => ∃ c' d', [D.ref p, y] = [c', d'] ∧ N.nx ((Γ.set i (some c')).set j (some d')) M2) N.ex) (s ρ Γ) fun ρ1 c dc _ r Γt A M N w h p hp => by
    split at h
    · exact h.elim
    · rename_i h0
      have w1 : Wd κ ρ1 (Γt.set i .no) A Γ (upM M p dc) := w.no hp
      refine s' ρ1 Γ _ A _ _ _ w1 ?_
      cases q : mb (Γt.set i .no) A with
      | no => rw [q] at h; exact h
      | ok y Γ2 A2 =>
        rw [q] at h
        intro ρ2 M2 dy w2 s2 ry
        obtain ⟨w3, s3⟩ := w.own2 h0 hp r w2 s2
        exact ⟨_, _, rfl, h ρ2 _ M2 (w3.set j ry) (s3.lessO fun _ z => own_set z)⟩
      | exc C fs Γ2 A2 =>
        rw [q] at h
        intro ρ2 M2 Ca gs w2 s2 e rf
        obtain ⟨_, s3⟩ := w.own2 h0 hp r w2 s2
        exact h ρ2 M2 Ca gs w2.hm s3.noOwn e rf⟩
end
end Fl

set_option Elab.async false
set_option linter.all false
set_option maxRecDepth 100000
set_option maxHeartbeats 4000000
/-! E11: what a text's head leaves, by lists of Bool words; the law's end. -/
namespace Fl
open PySem PySem.Spec PyProof.Rows L2 Dl He
/-! ### words in a list -/
def wdL (ts : List (PySem.W.Frag → Bool)) (K : PySem.W.Frag) : Bool := ts.all fun t => t K
theorem wd_at {ts : List (PySem.W.Frag → Bool)} {K : PySem.W.Frag} (h : wdL ts K = true) (i : Nat) {t : PySem.W.Frag → Bool} (e : ts[i]? = some t := by rfl) : t K = true := List.all_eq_true.mp h t (List.mem_of_getElem? e)
/-! ### the table of classes -/
structure TabD where
  names : List Str
  cc : List (Nat × Nat × Bool)
  ct : List (Nat × String × Bool)
  tc : List (String × Nat × Bool)
  ins : List Nat
  exc : List Nat
def TabD.tab (t : TabD) : Tab where
  cc := fun i j => (t.cc.find? fun q => q.1 == i && q.2.1 == j).map (·.2.2)
  ct := fun i n => (t.ct.find? fun q => q.1 == i && q.2.1 == n).map (·.2.2)
  tc := fun n j => (t.tc.find? fun q => q.1 == n && q.2.1 == j).map (·.2.2)
  ins := t.ins
  exc := t.exc
def nmAt (names : List Str) (i : Nat) : Str := names.getD i ""
def clL (names : List Str) (K : PySem.W.Frag) : List Addr := names.map (ga K)
theorem clL_at {names : List Str} {K : PySem.W.Frag} {i : Nat} (h : i < names.length) : (clL names K)[i]? = some (ga K (nmAt names i)) := by
  unfold clL nmAt
  rw [List.getElem?_map, List.getElem?_eq_getElem h, List.getD_eq_getElem?_getD, List.getElem?_eq_getElem h]
  rfl
theorem clL_of {names : List Str} {K : PySem.W.Frag} {i C : Nat} (e : (clL names K)[i]? = some C) : i < names.length ∧ C = ga K (nmAt names i) := by
  have h : i < names.length := by
    have := (List.getElem?_eq_some_iff.mp e).1
    unfold clL at this
    rwa [List.length_map] at this
  rw [clL_at h] at e
  exact ⟨h, (Option.some.inj e).symm⟩
def TabD.okB (t : TabD) (K : PySem.W.Frag) : Bool :=
  (t.cc.all fun q => decide (q.1 < t.names.length) && (decide (q.2.1 < t.names.length) && kitK K (.ref (ga K (nmAt t.names q.1))) (.ref (ga K (nmAt t.names q.2.1))) q.2.2)) &&
  ((t.ct.all fun q => decide (q.1 < t.names.length) && kitK K (.ref (ga K (nmAt t.names q.1))) (.type q.2.1) q.2.2) &&
  ((t.tc.all fun q => decide (q.2.1 < t.names.length) && kitK K (.type q.1) (.ref (ga K (nmAt t.names q.2.1))) q.2.2) &&
  ((t.ins.all fun i => insB K (ga K (nmAt t.names i))) && (t.exc.all fun i => excB K (ga K (nmAt t.names i))))))
theorem find_cc {α β : Type} [BEq α] [LawfulBEq α] [BEq β] [LawfulBEq β] {l : List (α × β × Bool)} {i : α} {j : β} {b : Bool} (h : (l.find? fun q => q.1 == i && q.2.1 == j).map (·.2.2) = some b) : (i, j, b) ∈ l := by
  rw [Option.map_eq_some_iff] at h
  obtain ⟨⟨i', j', b'⟩, h1, rfl⟩ := h
  have h2 := List.find?_some h1
  simp only [Bool.and_eq_true, beq_iff_eq] at h2
  obtain ⟨rfl, rfl⟩ := h2
  exact List.mem_of_find?_eq_some h1
theorem TabD.ok {t : TabD} {K : PySem.W.Frag} (h : t.okB K = true) : TabOk K (clL t.names K) t.tab := by
  unfold TabD.okB at h
  simp only [Bool.and_eq_true] at h
  obtain ⟨h1, h2, h3, h4, h5⟩ := h
  have len : (clL t.names K).length = t.names.length := by unfold clL; rw [List.length_map]
  refine ⟨fun i j C C' b e e1 e2 => ?_, fun i C n b e e1 => ?_, fun a j C' b e e1 => ?_, fun i C m e => ?_, fun i C m e => ?_, fun i j e => ?_, fun i n e => ?_, fun n i e => ?_⟩
  · obtain ⟨_, rfl⟩ := clL_of e1
    obtain ⟨_, rfl⟩ := clL_of e2
    have q := List.all_eq_true.mp h1 _ (find_cc e)
    simp only [Bool.and_eq_true] at q
    exact kitK_ok q.2.2
  · obtain ⟨_, rfl⟩ := clL_of e1
    have q := List.all_eq_true.mp h2 _ (find_cc e)
    simp only [Bool.and_eq_true] at q
    exact kitK_ok q.2
  · obtain ⟨_, rfl⟩ := clL_of e1
    have q := List.all_eq_true.mp h3 _ (find_cc e)
    simp only [Bool.and_eq_true] at q
    exact kitK_ok q.2
  · obtain ⟨_, rfl⟩ := clL_of e
    exact insB_ok (List.all_eq_true.mp h4 _ m)
  · obtain ⟨_, rfl⟩ := clL_of e
    exact (excB_ok (List.all_eq_true.mp h5 _ m)).1
  · obtain ⟨b, e⟩ := Option.isSome_iff_exists.mp e
    have q := List.all_eq_true.mp h1 _ (find_cc e)
    simp only [Bool.and_eq_true, decide_eq_true_eq] at q
    rw [len]
    exact ⟨q.1, q.2.1⟩
  · obtain ⟨b, e⟩ := Option.isSome_iff_exists.mp e
    have q := List.all_eq_true.mp h2 _ (find_cc e)
    simp only [Bool.and_eq_true, decide_eq_true_eq] at q
    rw [len]
    exact q.1
  · obtain ⟨b, e⟩ := Option.isSome_iff_exists.mp e
    have q := List.all_eq_true.mp h3 _ (find_cc e)
    simp only [Bool.and_eq_true, decide_eq_true_eq] at q
    rw [len]
    exact q.1
/-! ### fields, takers -/
def fldB (names : List Str) (cs : List Nat) (nm : Str) (K : PySem.W.Frag) : Bool := cs.all fun c => decide (c < names.length) && (insB K (ga K (nmAt names c)) && decide (PySem.W.findIn K (.ref (ga K (nmAt names c))) nm = some none))
theorem fldB_ok {names : List Str} {cs : List Nat} {nm : Str} {K : PySem.W.Frag} (h : fldB names cs nm K = true) : FldOk K (clL names K) cs nm := fun c m => by
  have q := List.all_eq_true.mp h c m
  simp only [Bool.and_eq_true, decide_eq_true_eq] at q
  exact ⟨_, clL_at q.1, (insB_ok q.2.1).cl, q.2.2⟩
def xfdB (names : List Str) (cs : List Nat) (nm : Str) (K : PySem.W.Frag) : Bool := cs.all fun c => decide (c < names.length) && (excB K (ga K (nmAt names c)) && decide (PySem.W.findIn K (.ref (ga K (nmAt names c))) nm = some none))
theorem xfdB_ok {names : List Str} {cs : List Nat} {nm : Str} {K : PySem.W.Frag} (h : xfdB names cs nm K = true) : XfOk K (clL names K) cs nm := fun c m => by
  have q := List.all_eq_true.mp h c m
  simp only [Bool.and_eq_true, decide_eq_true_eq] at q
  exact ⟨_, clL_at q.1, (excB_ok q.2.1).2, q.2.2⟩
def emOf (l : List (Nat × Bool)) (i : Nat) : Option Bool := (l.find? fun q => q.1 == i).map (·.2)
def emB (names : List Str) (l : List (Nat × Bool)) (y : Str) (K : PySem.W.Frag) : Bool := l.all fun q => decide (q.1 < names.length) && decide (PySem.W.exmOne K (.ref (ga K (nmAt names q.1))) (.ref (ga K y)) = some q.2)
theorem emB_ok {names : List Str} {l : List (Nat × Bool)} {y : Str} {K : PySem.W.Frag} (h : emB names l y K = true) : TakesOk K (clL names K) (.ref (ga K y)) (emOf l) := fun i b e => by
  unfold emOf at e
  rw [Option.map_eq_some_iff] at e
  obtain ⟨⟨i', b'⟩, h1, rfl⟩ := e
  have h2 := List.find?_some h1
  simp only [beq_iff_eq] at h2
  subst h2
  have q := List.all_eq_true.mp h _ (List.mem_of_find?_eq_some h1)
  simp only [Bool.and_eq_true, decide_eq_true_eq] at q
  exact ⟨_, clL_at q.1, q.2⟩
/-! ### classes, exceptions, properties -/
def mkB (x : Str) (K : PySem.W.Frag) : Bool := PySem.W.makesIn K (ga K x) && (decide (PySem.W.findIn K (.ref (ga K x)) "__init__" = some (some (.ref (ma K (ga K x) "__init__")))) && (PySem.W.isFn K (.ref (ma K (ga K x) "__init__")) && PySem.W.keepIn K (.ref (ga K x))))
theorem mkB_ok {x : Str} {K : PySem.W.Frag} (h : mkB x K = true) : Mk K (ga K x) (ma K (ga K x) "__init__") := by
  unfold mkB at h
  simp only [Bool.and_eq_true, decide_eq_true_eq] at h
  exact ⟨h.1, h.2.1, h.2.2.1, h.2.2.2⟩
def methB (x m : Str) (K : PySem.W.Frag) : Bool := decide (PySem.W.findIn K (.ref (ga K x)) m = some (some (.ref (ma K (ga K x) m)))) && (PySem.W.isFn K (.ref (ma K (ga K x) m)) && PySem.W.keepIn K (.ref (ma K (ga K x) m)))
theorem methB_ok {x m : Str} {K : PySem.W.Frag} (h : methB x m K = true) : Meth K (ga K x) m (ma K (ga K x) m) := by
  unfold methB at h
  simp only [Bool.and_eq_true, decide_eq_true_eq] at h
  exact ⟨h.1, h.2.1, h.2.2⟩
def propB (x f : Str) (K : PySem.W.Frag) : Bool := decide (PySem.W.findIn K (.ref (ga K x)) f = some (some (.ref (ma K (ga K x) f)))) && (decide (PySem.W.specialIn K (.ref (ma K (ga K x) f)) "__get__" = some (some (.builtin "property.__get__"))) && (decide (PySem.W.takesIn K (.ref (ma K (ga K x) f)) = some true) &&
  (match PySem.W.recIn K (ma K (ga K x) f) "property" with | some (.ref g :: _) => true | _ => false)))
theorem propB_ok {x f : Str} {K : PySem.W.Frag} (h : propB x f K = true) : PropOf K (ga K x) f (ma K (ga K x) f) (propAd K (ga K x) f) := by
  unfold propB at h
  simp only [Bool.and_eq_true, decide_eq_true_eq] at h
  obtain ⟨h1, h2, h3, h4⟩ := h
  refine ⟨h1, h2, h3, ?_⟩
  unfold propAd
  split at h4
  · rename_i g r e
    exact ⟨r, by rw [e]⟩
  · cases h4
/-- an exception class with an own __init__ -/
structure ExT (K : PySem.W.Frag) (C : Addr) : Prop where
  oex : OexC K C
  ini : PySem.W.findIn K (.ref C) "__init__" = some (some (.ref (ma K C "__init__")))
  typ : PySem.W.typeIn K (.ref (ma K C "__init__")) = some (.type "function")
def exB (x : Str) (K : PySem.W.Frag) : Bool := oexB K (ga K x) && (decide (PySem.W.findIn K (.ref (ga K x)) "__init__" = some (some (.ref (ma K (ga K x) "__init__")))) && decide (PySem.W.typeIn K (.ref (ma K (ga K x) "__init__")) = some (.type "function")))
theorem exB_ok {x : Str} {K : PySem.W.Frag} (h : exB x K = true) : ExT K (ga K x) := by
  unfold exB at h
  simp only [Bool.and_eq_true, decide_eq_true_eq] at h
  exact ⟨oexB_ok h.1, h.2.1, h.2.2⟩
def nofB (x f : Str) (K : PySem.W.Frag) : Bool := decide (PySem.W.findIn K (.ref (ga K x)) f = some none)
theorem nofB_ok {x f : Str} {K : PySem.W.Frag} (h : nofB x f K = true) : PySem.W.findIn K (.ref (ga K x)) f = some none := of_decide_eq_true h
/-! ### keywords in another order -/
def pick {α : Type} (is : List Nat) (xs : List α) : List α := is.filterMap fun i => xs[i]?
theorem pick_vals {is : List Nat} {vs : List V} {us : List Value} (h : Vals vs us) : Vals (pick is vs) (pick is us) := by
  have at_ : ∀ {vs : List V} {us : List Value} (_ : Vals vs us) (i : Nat), (vs[i]? = none ∧ us[i]? = none) ∨ ∃ v u, vs[i]? = some v ∧ us[i]? = some u ∧ RelV v u := fun {vs us} h => by
    induction h with
    | nil => exact fun i => .inl ⟨by simp, by simp⟩
    | @cons a b l1 l2 r t ih =>
      intro i
      cases i with
      | zero => exact .inr ⟨_, _, rfl, rfl, r⟩
      | succ i => rw [List.getElem?_cons_succ, List.getElem?_cons_succ]; exact ih i
  induction is with
  | nil => exact .nil
  | cons i is ih =>
    unfold pick
    rcases at_ h i with ⟨e1, e2⟩ | ⟨v, u, e1, e2, r⟩
    · rw [List.filterMap_cons_none e1, List.filterMap_cons_none e2]; exact ih
    · rw [List.filterMap_cons_some e1, List.filterMap_cons_some e2]; exact .cons r ih
theorem pick_is {K : PySem.W.Frag} {P : Addr → Prop} {H : Hp} {is : List Nat} {vs : List V} {ds : List D} (h : IsVs K P H vs ds) : IsVs K P H (pick is vs) (pick is ds) := by
  have at_ : ∀ {vs : List V} {ds : List D} (_ : IsVs K P H vs ds) (i : Nat), (vs[i]? = none ∧ ds[i]? = none) ∨ ∃ v u, vs[i]? = some v ∧ ds[i]? = some u ∧ IsV K P H v u := fun {vs ds} h => by
    intro i
    cases e : ds[i]? with
    | some d => obtain ⟨v, e1, e2⟩ := h.get e; exact .inr ⟨v, d, e1, rfl, e2⟩
    | none =>
      left
      refine ⟨?_, rfl⟩
      rw [List.getElem?_eq_none_iff] at e ⊢
      rw [h.length]
      exact e
  induction is with
  | nil => exact .nil
  | cons i is ih =>
    unfold pick
    rcases at_ h i with ⟨e1, e2⟩ | ⟨v, u, e1, e2, r⟩
    · rw [List.filterMap_cons_none e1, List.filterMap_cons_none e2]; exact ih
    · rw [List.filterMap_cons_some e1, List.filterMap_cons_some e2]; exact .cons r ih
theorem pick_rt {ρ : List Addr} {is : List Nat} {xs ds : List D} (h : RTs ρ xs ds) : RTs ρ (pick is xs) (pick is ds) := by
  have at_ : ∀ (i : Nat), (xs[i]? = none ∧ ds[i]? = none) ∨ ∃ v u, xs[i]? = some v ∧ ds[i]? = some u ∧ RT ρ v u := by
    intro i
    cases e : xs[i]? with
    | some d => obtain ⟨v, e1, e2⟩ := h.get e; exact .inr ⟨d, v, rfl, e1, e2⟩
    | none =>
      left
      refine ⟨rfl, ?_⟩
      rw [List.getElem?_eq_none_iff] at e ⊢
      rw [h.length]
      exact e
  induction is with
  | nil => exact .nil
  | cons i is ih =>
    unfold pick
    rcases at_ i with ⟨e1, e2⟩ | ⟨v, u, e1, e2, r⟩
    · rw [List.filterMap_cons_none e1, List.filterMap_cons_none e2]; exact ih
    · rw [List.filterMap_cons_some e1, List.filterMap_cons_some e2]; exact .cons r ih
/-! ### the law's end -/
theorem law_end {F : Fn} {names : List Str} {K : PySem.W.Frag} {ns : List Int} {A' : AH} (h : F [.scr ns] (List.replicate names.length none) = .ok (.bl true) A') : pfT (clL names K) F [.scr ns] M0 (fun d _ => d = .bl true) noX := by
  refine ⟨clL names K, [.scr ns], List.replicate names.length none, ⟨List.prefix_refl _, by unfold clL; rw [List.length_map, List.length_replicate], fun i c e => ?_, fun i j c c' e _ _ => ?_⟩, .cons (.scr ns) .nil, ?_⟩
  · rw [List.getElem?_replicate] at e
    split at e <;> cases e
  · rw [List.getElem?_replicate] at e
    split at e <;> cases e
  · rw [h]
    intro ρ' M' d _ _ r
    cases r
    rfl
end Fl

set_option Elab.async false
set_option linter.all false
set_option maxRecDepth 100000
set_option maxHeartbeats 4000000
/-! E12: what is walked, what is unpacked: whatever it is. -/
namespace Fl
open PySem PySem.Spec PyProof.Rows L2 Dl
def itAny : D → Option (List D)
  | .lst xs => some xs
  | .tup xs => some xs
  | .scr ns => some (ns.map .int)
  | .str z => some (z.cps.toList.map fun c => .str ⟨#[c]⟩)
  | _ => none
theorem di_or {X : Cx} {E : L2.St → XK} {tg e : Expr} {f g : FA} (h1 : DI X E tg e f) (h2 : DI X E tg e g) : DI X E tg e (fun Γ M k kx => f Γ M k kx ∨ g Γ M k kx) :=
  ⟨fun pins s σ H R I ⟨F, Γ, M, k, kx, Rp, q, LX, L⟩ => q.elim (fun q => h1.run pins s σ H R I ⟨F, Γ, M, k, kx, Rp, q, LX, L⟩) fun q => h2.run pins s σ H R I ⟨F, Γ, M, k, kx, Rp, q, LX, L⟩⟩
theorem dg_or {X : Cx} {tg : Expr} {g1 g2 : FG} {js : List Nat} (h1 : DG X tg g1 js) (h2 : DG X tg g2 js) : DG X tg (fun d Γ k => g1 d Γ k ∨ g2 d Γ k) js :=
  ⟨fun pins s σ H v u Q I r ⟨F, Γ, M, d, k, R, hv, q, L⟩ => q.elim (fun q => h1.run pins s σ H v u Q I r ⟨F, Γ, M, d, k, R, hv, q, L⟩) fun q => h2.run pins s σ H v u Q I r ⟨F, Γ, M, d, k, R, hv, q, L⟩⟩
theorem sim_pick {κ : Kc} {ρ : List Addr} {Γ : GE} {f : FE} {m : Mo D} {o : D → Option (List D)} {Γt : SG} {A : AH} {M : MS} {k : List D → MS → Prop} {kx : KX} {fb : D → FA} (s : Sim κ rD f m) (w : Wd κ ρ Γt A Γ M)
    (h : Sat κ rA (mIt itAny m Γt A) ρ Γt A Γ M k kx) (he : ∀ x Γ1 A1, m Γt A = .ok x Γ1 A1 → itAny x = o x) (hb : ∀ ρ' x d, ρ <+: ρ' → RT ρ' x d → SimAt κ rA ρ' Γ (fb d) (mO (o x))) : f Γ M (fun x M1 => fb x Γ M1 k kx) kx := by
  refine sim_bind (rel := rA) (mb := fun x => mO (o x)) (s ρ Γ) (fun ρ1 x d p r => hb ρ1 x d p r) Γt A M k kx w ?_
  unfold mIt mBind at h
  unfold mBind
  cases e : m Γt A with
  | ok x Γ1 A1 =>
    rw [e] at h
    have h' : Sat κ rA (mO (itAny x) Γ1 A1) ρ Γt A Γ M k kx := h
    rw [he x Γ1 A1 e] at h'
    exact h'
  | exc C fs Γ1 A1 => rw [e] at h; exact h
  | no => rw [e] at h; exact h
theorem mi_any {κ : Kc} {X : Cx} {E : L2.St → XK} {tg e : Expr} {m : Mo D} (h : ME κ X E e m) : MI κ X E tg e (mIt itAny m) := let ⟨f, d, s⟩ := h.ex
  ⟨_, di_or (di_list d) (di_or (di_tup d) (di_or (di_scr d) (di_str d))), fun ρ Γ Γt A M k kx w hh => by
    have viaL := fun he => sim_pick (o := itL) (fb := fun x Γ M k kx => ∃ ds, x = .lst ds ∧ k ds M) s w hh he fun ρ1 x dx p r => sim_o fun M k kx t e q => by
      cases r with
      | lst r => cases e; exact ⟨_, rfl, q _ r⟩
      | _ => cases e
    have viaT := fun he => sim_pick (o := itT) (fb := fun x Γ M k kx => ∃ ds, x = .tup ds ∧ k ds M) s w hh he fun ρ1 x dx p r => sim_o fun M k kx t e q => by
      cases r with
      | tup r => cases e; exact ⟨_, rfl, q _ r⟩
      | _ => cases e
    have viaZ := fun he => sim_pick (o := itZ) (fb := fun x Γ M k kx => ∃ ns : List Int, x = .scr ns ∧ k (ns.map D.int) M) s w hh he fun ρ1 x dx p r => sim_o fun M k kx t e q => by
      cases r with
      | scr ns => cases e; exact ⟨_, rfl, q _ (RTs.ints _)⟩
      | _ => cases e
    have viaS := fun he => sim_pick (o := itS) (fb := fun x Γ M k kx => ∃ z : Str, x = .str z ∧ k (z.cps.toList.map fun c => D.str ⟨#[c]⟩) M) s w hh he fun ρ1 x dx p r => sim_o fun M k kx t e q => by
      cases r with
      | str z => cases e; exact ⟨_, rfl, q _ (RTs.signs _)⟩
      | _ => cases e
    cases e : m Γt A with
    | ok x Γ1 A1 =>
      cases x with
      | tup xs => exact .inr (.inl (viaT fun y Γ2 A2 e2 => by rw [e] at e2; cases e2; rfl))
      | scr xs => exact .inr (.inr (.inl (viaZ fun y Γ2 A2 e2 => by rw [e] at e2; cases e2; rfl)))
      | str xs => exact .inr (.inr (.inr (viaS fun y Γ2 A2 e2 => by rw [e] at e2; cases e2; rfl)))
      | _ => exact .inl (viaL fun y Γ2 A2 e2 => by rw [e] at e2; cases e2; rfl)
    | exc C fs Γ1 A1 => exact .inl (viaL fun y Γ2 A2 e2 => by rw [e] at e2; cases e2)
    | no => exact .inl (viaL fun y Γ2 A2 e2 => by rw [e] at e2; cases e2)⟩
def tAny (n : Nat) (ts : Tgs) : Tg := fun x Γ => match x with
  | .tup xs => if xs.length = n then ts xs Γ else none
  | .lst xs => if xs.length = n then ts xs Γ else none
  | _ => none
theorem mg_any {κ : Kc} {X : Cx} {pos : Pos} {es : List Expr} {ts : Tgs} {js : List Nat} {k n : Nat} (hc : X.calm = true) (h : MGs κ X es ts js) (hn : (assignEach es X.env).length = n := by rfl) (hst : (assignEach es X.env).findIdx? (·.1) = none := by rfl) : MG κ X (.Tuple es k pos) (tAny n ts) js := let ⟨g, d, s⟩ := h.ex
  ⟨_, dg_or (dg_tup hc d hn hst) (dg_unl hc d hn hst), fun ρ Γt A Γ M x d k Γt1 w r e h => by
    cases r with
    | lst r =>
      simp only [tAny] at e
      split at e
      · rename_i hl
        exact .inr ⟨_, rfl, by rw [r.length]; exact hl, s ρ Γt A Γ M _ _ _ Γt1 w r e h⟩
      · cases e
    | tup r =>
      simp only [tAny] at e
      split at e
      · rename_i hl
        exact .inl ⟨_, rfl, by rw [r.length]; exact hl, s ρ Γt A Γ M _ _ _ Γt1 w r e h⟩
      · cases e
    | _ => cases e⟩
theorem me_dct0 {κ : Kc} {X : Cx} {E : L2.St → XK} {pos : Pos} : ME κ X E (.Dict [] [] pos) (mC (.dct [])) := ⟨_, de_dct0, fun ρ Γ => sim_ret fun M k kx q => q _ (.dct .nil)⟩
/-! ### keywords alone, in another order -/
def kwG {α : Type} (m : Nat) (is : List Nat) (us ws : List α) : List α := if us.length = 0 ∧ ws.length = m then pick is ws else []
theorem kw_vals {m : Nat} {is : List Nat} {vs zs : List V} {us ws : List Value} (r1 : Vals vs us) (r2 : Vals zs ws) : Vals (kwG m is vs zs) (kwG m is us ws) := by
  unfold kwG
  rw [r1.length, r2.length]
  split
  · exact pick_vals r2
  · exact .nil
theorem kw_is {m : Nat} {is : List Nat} {K : PySem.W.Frag} {P : Addr → Prop} {H : Hp} {vs : List V} {ds : List D} (h : IsVs K P H vs ds) : IsVs K P H (kwG m is [] vs) (kwG m is [] ds) := by
  unfold kwG
  simp only [List.length_nil, true_and, h.length]
  split
  · exact pick_is h
  · exact .nil
theorem kw_rt {m : Nat} {is : List Nat} {ρ : List Addr} {xs ds : List D} (h : RTs ρ xs ds) : RTs ρ (kwG m is [] xs) (kwG m is [] ds) := by
  unfold kwG
  simp only [List.length_nil, true_and, h.length]
  split
  · exact pick_rt h
  · exact .nil
theorem kw_len {α : Type} {m : Nat} {is : List Nat} {us ws : List α} {n : Nat} (hn : 0 < n) (h : (kwG m is us ws).length = n) : us = [] ∧ ws.length = m := by
  unfold kwG at h
  split at h
  · rename_i hc
    exact ⟨List.length_eq_zero_iff.mp hc.1, hc.2⟩
  · rw [← h] at hn
    exact absurd hn (by simp)
end Fl

set_option Elab.async false
set_option linter.all false
set_option maxRecDepth 100000
set_option maxHeartbeats 2000000
/-! E13: how the functions are run, by simp. -/
namespace Fl
open PySem PySem.Spec PyProof.Rows L2 Dl
section
variable {α β : Type} {Γ : SG} {A : AH}
theorem xp_bind {m : Mo α} {f : α → Mo β} : mBind m f Γ A = (m Γ A).bind f := id rfl
theorem rb_ok {a : α} {f : α → Mo β} : (R.ok a Γ A).bind f = f a Γ A := id rfl
theorem rb_exc {C : Nat} {fs : List (Str × D)} {f : α → Mo β} : (R.exc C fs Γ A).bind f = .exc C fs Γ A := id rfl
theorem rb_no {f : α → Mo β} : (R.no : R α).bind f = .no := id rfl
theorem xp_ret {a : α} : mRet a Γ A = .ok a Γ A := id rfl
theorem xp_oS {a : α} : mO (some a) Γ A = .ok a Γ A := id rfl
theorem xp_oN : mO (none : Option α) Γ A = .no := id rfl
theorem xp_c {d : D} : mC d Γ A = .ok d Γ A := id rfl
theorem xp_v {i : Nat} : mV i Γ A = (match Γ[i]? with | some (.val t) => .ok t Γ A | _ => .no) := id rfl
theorem xp_b {i : Nat} : mB i Γ A = (match Γ[i]? with | some (.val t) => .ok (.v t) Γ A | some (.own _) => .ok (.s i) Γ A | _ => .no) := id rfl
theorem xp_val {m : Mo D} : mVal m Γ A = (m Γ A).bind fun d => mRet (.v d) := id rfl
theorem xp_op {o : D → D → Option D} {a b : Mo D} : mOp o a b Γ A = (a Γ A).bind fun x => mBind b fun y => mO (o x y) := id rfl
theorem xp_opw {o : D → D → Option D} {a b : Mo Opd} : mOpW o a b Γ A = (a Γ A).bind fun x => mBind b fun y => mRd2 o x y := id rfl
theorem xp_rd2 {o : D → D → Option D} {x y : Opd} : mRd2 o x y Γ A = (match rdO x Γ A, rdO y Γ A with | some a, some b => mO (o a b) Γ A | _, _ => .no) := id rfl
theorem xp_rd1 {o : D → Option D} {x : Opd} : mRd1 o x Γ A = (match rdO x Γ A with | some a => mO (o a) Γ A | _ => .no) := id rfl
theorem xp_test {m : Mo D} : mTest m Γ A = (m Γ A).bind fun d => mO (blO d) := id rfl
theorem xp_ite {v : Bool} {a b : Mo α} : mIte v a b Γ A = if v = true then a Γ A else b Γ A := id rfl
theorem xp_and {a b : Mo Bool} : mAnd a b Γ A = (a Γ A).bind fun v => mIte v b (mRet false) := id rfl
theorem xp_or {a b : Mo Bool} : mOr a b Γ A = (a Γ A).bind fun v => mIte v (mRet true) b := id rfl
theorem xp_not {a : Mo Bool} : mNot a Γ A = (a Γ A).bind fun v => mRet (!v) := id rfl
theorem xp_andV {a b : Mo D} : mAndV a b Γ A = (a Γ A).bind fun x => onB x fun v => mIte v b (mRet (.bl false)) := id rfl
theorem xp_orV {a b : Mo D} : mOrV a b Γ A = (a Γ A).bind fun x => onB x fun v => mIte v (mRet (.bl true)) b := id rfl
theorem xp_notV {a : Mo D} : mNotV a Γ A = (a Γ A).bind fun x => onB x fun v => mRet (.bl (!v)) := id rfl
theorem xp_onB {v : Bool} {f : Bool → Mo α} : onB (.bl v) f = f v := id rfl
theorem xp_if {c : Mo Bool} {a b : Mo D} : mIf c a b Γ A = (c Γ A).bind fun v => mIte v a b := id rfl
theorem xp_un {o : D → Option D} {a : Mo D} : mUn o a Γ A = (a Γ A).bind fun x => mO (o x) := id rfl
theorem xp_chain {o o' : D → D → Option D} {a b c : Mo D} : mChain o o' a b c Γ A = (a Γ A).bind fun x => mBind b fun y => mBind (mO (o x y)) fun z => onB z fun v => mIte v (mBind c fun w => mO (o' y w)) (mRet (.bl false)) := id rfl
theorem xp_nil : mNil Γ A = .ok [] Γ A := id rfl
theorem xp_cons {a : Mo D} {as : Mo (List D)} : mCons a as Γ A = (a Γ A).bind fun x => mBind as fun xs => mRet (x :: xs) := id rfl
theorem xp_lst {as : Mo (List D)} : mLst as Γ A = (as Γ A).bind fun xs => mO (lstO xs) := id rfl
theorem xp_tup {as : Mo (List D)} : mTup as Γ A = (as Γ A).bind fun xs => mO (tupO xs) := id rfl
theorem xp_noP : mNoP Γ A = .ok none Γ A := id rfl
theorem xp_part {a : Mo D} : mPart a Γ A = (a Γ A).bind fun x => mO (intO x) := id rfl
theorem xp_sl {a : Mo Opd} {l h : Mo (Option Int)} : mSl a l h Γ A = (a Γ A).bind fun x => mBind l fun lo => mBind h fun hi => mRd1 (tCut lo hi) x := id rfl
theorem xp_1 {o : D → Option D} {a : Mo D} : m1 o a Γ A = (a Γ A).bind fun x => mO (o x) := id rfl
theorem xp_1W {o : D → Option D} {a : Mo Opd} : m1W o a Γ A = (a Γ A).bind fun x => mRd1 o x := id rfl
theorem xp_cbn {o : List D → Option D} {as : Mo (List D)} : mCBn o as Γ A = (as Γ A).bind fun xs => mO (o xs) := id rfl
theorem xp_is {tab : Tab} {u : D} {a : Mo Opd} : mIs tab u a Γ A = (a Γ A).bind fun x => mRd1 (tIs tab u) x := id rfl
theorem xp_fld {cs : List Nat} {nm : Str} {a : Mo Opd} : mFld cs nm a Γ A = (a Γ A).bind fun x => mRd1 (tFld cs nm) x := id rfl
theorem xp_xf {cs : List Nat} {nm : Str} {a : Mo Opd} : mXf cs nm a Γ A = (a Γ A).bind fun x => mRd1 (tXf cs nm) x := id rfl
theorem xp_call {F : Fn} {dts : List D} {as : Mo (List D)} : mCall F dts as Γ A = (as Γ A).bind fun xs => callF F (xs ++ dts) := id rfl
theorem xp_callC {F : Fn} {dts : List D} {as : Mo (List D)} : mCallC F dts as Γ A = (as Γ A).bind fun xs => fun Γ A => calmR (callF F (xs ++ dts) Γ A) := id rfl
theorem xp_calm {d : D} : calmR (.ok d Γ A) = .ok d Γ A := id rfl
theorem xp_callK {F : Fn} {gD : List D → List D → List D} {as ks : Mo (List D)} : mCallK F gD as ks Γ A = (as Γ A).bind fun xs => mBind ks fun ys => callF F (gD xs ys) := id rfl
def RF.back (r : RF) (Γ : SG) : R D := match r with
  | .ok d A' => .ok d Γ A'
  | .exc C fs A' => .exc C fs Γ A'
  | .no => .no
theorem xp_callF {F : Fn} {xs : List D} : callF F xs Γ A = (F xs A).back Γ := by
  unfold callF RF.back
  cases F xs A <;> rfl
theorem bk_ok {d : D} : (RF.ok d A).back Γ = .ok d Γ A := id rfl
theorem bk_exc {C : Nat} {fs : List (Str × D)} : (RF.exc C fs A).back Γ = .exc C fs Γ A := id rfl
theorem xp_prop {c : Nat} {F : Fn} {o : Mo D} : mProp c F o Γ A = (o Γ A).bind fun x => mBind (isIns c none x) fun _ => fun Γ A => calmR (callF F [x] Γ A) := id rfl
theorem xp_isIns {c : Nat} {nm : Option Str} {x : D} : isIns c nm x Γ A = (match rdO (.v x) Γ A with | some d => if insOf c nm d = true then .ok () Γ A else .no | none => .no) := id rfl
theorem xp_meth {c : Nat} {nm : Str} {F : Fn} {dts : List D} {o : Mo D} {as : Mo (List D)} : mMeth c nm F dts o as Γ A = (o Γ A).bind fun x => mBind (isIns c (some nm) x) fun _ => mBind as fun xs => callF F (x :: (xs ++ dts)) := id rfl
theorem xp_new {m : Mo Cell} : mNew m Γ A = (m Γ A).bind newA := id rfl
theorem xp_newA {c : Cell} : newA c Γ A = .ok (.ref A.length) Γ (A ++ [some c]) := id rfl
theorem xp_lstC {as : Mo (List D)} : mLstC as Γ A = (as Γ A).bind fun xs => mO (lstC xs) := id rfl
theorem xp_app {o : Mo Opd} {e : Mo D} : mApp o e Γ A = (o Γ A).bind fun x => mBind (isLst x) fun _ => mBind e fun y => updO x (appC y) := id rfl
theorem xp_isLst {o : Opd} : isLst o Γ A = (match rdO o Γ A with | some (.lst _) => .ok () Γ A | _ => .no) := id rfl
theorem xp_updS {i : Nat} {f : Cell → Option (Cell × α)} : updO (.s i) f Γ A = (match Γ[i]? with | some (.own c) => (match f c with | some (c', a) => .ok a (Γ.set i (.own c')) A | none => .no) | _ => .no) := id rfl
theorem xp_updR {i : Nat} {f : Cell → Option (Cell × α)} : updO (.v (.ref i)) f Γ A = (match A[i]? with | some (some c) => (match f c with | some (c', a) => .ok a Γ (A.set i (some c')) | none => .no) | _ => .no) := id rfl
theorem rd_s {i : Nat} : rdO (.s i) Γ A = (match Γ[i]? with | some (.own c) => some (cellD c) | _ => none) := id rfl
theorem rd_ref {i : Nat} : rdO (.v (.ref i)) Γ A = (match A[i]? with | some (some c) => some (cellD c) | _ => none) := id rfl
theorem rd_non : rdO (.v .non) Γ A = some .non := id rfl
theorem rd_bl {b : Bool} : rdO (.v (.bl b)) Γ A = some (.bl b) := id rfl
theorem rd_int {b : Int} : rdO (.v (.int b)) Γ A = some (.int b) := id rfl
theorem rd_str {b : Str} : rdO (.v (.str b)) Γ A = some (.str b) := id rfl
theorem rd_lst {b : List D} : rdO (.v (.lst b)) Γ A = some (.lst b) := id rfl
theorem rd_tup {b : List D} : rdO (.v (.tup b)) Γ A = some (.tup b) := id rfl
theorem rd_scr {b : List Int} : rdO (.v (.scr b)) Γ A = some (.scr b) := id rfl
theorem rd_dct {b : List (Key × D)} : rdO (.v (.dct b)) Γ A = some (.dct b) := id rfl
theorem rd_ins {c : Nat} {b : List (Str × D)} : rdO (.v (.ins c b)) Γ A = some (.ins c b) := id rfl
theorem rd_exv {c : Nat} {b : List (Str × D)} : rdO (.v (.exv c b)) Γ A = some (.exv c b) := id rfl
/-! statements -/
theorem xs_seq {a b : Ms} : mSeq a b Γ A = (a Γ A).seq b := id rfl
theorem sq_nx {b : Ms} : (RS.nx Γ A).seq b = b Γ A := id rfl
theorem sq_ret {b : Ms} {d : D} : (RS.ret d Γ A).seq b = .ret d Γ A := id rfl
theorem sq_exc {b : Ms} {C : Nat} {fs : List (Str × D)} : (RS.exc C fs Γ A).seq b = .exc C fs Γ A := id rfl
theorem as_E {m : Mo α} {f : α → Ms} : mE m f Γ A = (m Γ A).toS f := id rfl
theorem ts_ok {a : α} {f : α → Ms} : (R.ok a Γ A).toS f = f a Γ A := id rfl
theorem ts_exc {C : Nat} {fs : List (Str × D)} {f : α → Ms} : (R.exc C fs Γ A).toS f = .exc C fs Γ A := id rfl
theorem as_next : mNext Γ A = .nx Γ A := id rfl
theorem as_ret {m : Mo D} : mRetV m Γ A = (m Γ A).toS fun d Γ A => .ret d Γ A := id rfl
theorem as_retN : mRetN Γ A = .ret .non Γ A := id rfl
theorem as_do {m : Mo D} : mDo m Γ A = (m Γ A).toS fun _ Γ A => .nx Γ A := id rfl
theorem as_set {i : Nat} {m : Mo D} : mSet i m Γ A = (m Γ A).toS fun d Γ A => .nx (Γ.set i (.val d)) A := id rfl
def ifS (a b : Ms) (v : Bool) : Ms := fun Γ A => if v = true then a Γ A else b Γ A
theorem as_if {c : Mo Bool} {a b : Ms} : mIfS c a b Γ A = (c Γ A).toS (ifS a b) := id rfl
theorem as_ifS {v : Bool} {a b : Ms} : ifS a b v Γ A = if v = true then a Γ A else b Γ A := id rfl
theorem as_for {mi : Mo (List D)} {t : Tg} {b : Ms} : mFor mi t b Γ A = (mi Γ A).toS (mForL t b) := id rfl
theorem as_forN {t : Tg} {b : Ms} : mForL t b [] Γ A = .nx Γ A := id rfl
def forK (t : Tg) (b : Ms) (xs : List D) (r : RS) : RS := match r with
  | .nx Γ2 A2 => mForL t b xs Γ2 A2
  | .cnt Γ2 A2 => mForL t b xs Γ2 A2
  | .brk Γ2 A2 => .nx Γ2 A2
  | .ret d Γ2 A2 => .ret d Γ2 A2
  | .exc C fs Γ2 A2 => .exc C fs Γ2 A2
  | .no => .no
theorem as_forC {t : Tg} {b : Ms} {x : D} {xs : List D} : mForL t b (x :: xs) Γ A = (match t x Γ with | none => RS.no | some Γ1 => forK t b xs (b Γ1 A)) := by
  show (match t x Γ with | none => RS.no | some Γ1 => _) = _
  cases t x Γ with
  | none => rfl
  | some Γ1 =>
    show (match b Γ1 A with | .nx Γ2 A2 => _ | .cnt Γ2 A2 => _ | .brk Γ2 A2 => _ | .ret d Γ2 A2 => _ | .exc C fs Γ2 A2 => _ | .no => _) = forK t b xs (b Γ1 A)
    unfold forK
    cases b Γ1 A <;> rfl
theorem fk_nx {t : Tg} {b : Ms} {xs : List D} : forK t b xs (.nx Γ A) = mForL t b xs Γ A := id rfl
theorem fk_cnt {t : Tg} {b : Ms} {xs : List D} : forK t b xs (.cnt Γ A) = mForL t b xs Γ A := id rfl
theorem fk_brk {t : Tg} {b : Ms} {xs : List D} : forK t b xs (.brk Γ A) = .nx Γ A := id rfl
theorem fk_ret {t : Tg} {b : Ms} {xs : List D} {d : D} : forK t b xs (.ret d Γ A) = .ret d Γ A := id rfl
theorem fk_exc {t : Tg} {b : Ms} {xs : List D} {C : Nat} {fs : List (Str × D)} : forK t b xs (.exc C fs Γ A) = .exc C fs Γ A := id rfl
theorem as_it {o : D → Option (List D)} {m : Mo D} : mIt o m Γ A = (m Γ A).bind fun x => mO (o x) := id rfl
theorem as_rng {o : List D → Option (List D)} {m : Mo (List D)} : mRng o m Γ A = (m Γ A).bind fun xs => mO (o xs) := id rfl
theorem as_asg {t : Tg} {m : Mo D} : mAsg t m Γ A = (m Γ A).toS fun x Γ A => match t x Γ with | some Γ1 => .nx Γ1 A | none => .no := id rfl
theorem as_par {i j : Nat} {m : Mo (List D)} : mPar i j m Γ A = (m Γ A).toS (par2 i j) := id rfl
theorem as_par2 {i j : Nat} {x y : D} : par2 i j [x, y] Γ A = .nx ((Γ.set i (.val x)).set j (.val y)) A := id rfl
theorem as_setO {i : Nat} {m : Mo Cell} : mSetO (i + 1) m Γ A = (m Γ A).toS fun c Γ A => .nx (Γ.set (i + 1) (.own c)) A := by
  show R.toS _ _ = R.toS _ _
  congr 1
def parOK (i j : Nat) (mb : Mo D) (c : Cell) : Ms := fun Γ A => (mb (Γ.set i .no) A).toS fun y Γ2 A2 => .nx ((Γ2.set i (.own c)).set j (.val y)) A2
theorem as_parO {i j : Nat} {mc : Mo Cell} {mb : Mo D} : mParO (i + 1) j mc mb Γ A = (mc Γ A).toS (parOK (i + 1) j mb) := by
  show R.toS _ _ = R.toS _ _
  congr 1
theorem as_parOK {i j : Nat} {c : Cell} {mb : Mo D} : parOK i j mb c Γ A = (mb (Γ.set i .no) A).toS fun y Γ2 A2 => .nx ((Γ2.set i (.own c)).set j (.val y)) A2 := id rfl
def updK (x : Opd) (f : Cell → Option (Cell × Unit)) : Ms := fun Γ A => (updO x f Γ A).toS fun _ Γ A => .nx Γ A
theorem as_ixSet {e : Mo D} {o : Mo Opd} {i : Mo D} : mIxSet e o i Γ A = (e Γ A).toS fun y => mE o fun x => mE i fun j => updK x (putC j y) := id rfl
theorem as_updK {x : Opd} {f : Cell → Option (Cell × Unit)} : updK x f Γ A = (updO x f Γ A).toS fun _ Γ A => .nx Γ A := id rfl
theorem as_fldSet {cs : List Nat} {nm : Str} {e : Mo D} {o : Mo Opd} : mFldSet cs nm e o Γ A = (e Γ A).toS fun y => mE o fun x => updK x (fldC cs nm y) := id rfl
theorem as_raise1 {c : Nat} {f : Str} {as : Mo (List D)} : mRaise1 c f as Γ A = (as Γ A).toS (raise1 c f) := id rfl
theorem as_raise1' {c : Nat} {f : Str} {y : D} : raise1 c f [y] Γ A = .exc c [(f, y)] Γ A := id rfl
theorem as_frzO {i : Nat} {m : Ms} : mFrz i m Γ A = (match Γ[i]? with | some (.own c) => m (Γ.set i (.val (cellD c))) A | _ => m Γ A) := id rfl
end
theorem run_F {np n : Nat} {b : Ms} {ds : List D} {A : AH} (h : ds.length = np) : runF np n b ds A = (b (startT n ds) A).toF := by
  unfold runF
  rw [if_pos h]
theorem run_I {c np n : Nat} {b : Ms} {ds : List D} {A : AH} (h : ds.length + 1 = np) : runI c np n b ds A = (b (startI c n ds) A).toI c := by
  unfold runI
  rw [if_pos h]
theorem tf_nx {Γ : SG} {A : AH} : (RS.nx Γ A).toF = .ok .non A := id rfl
theorem tf_ret {Γ : SG} {A : AH} {d : D} : (RS.ret d Γ A).toF = .ok d A := id rfl
theorem tf_exc {Γ : SG} {A : AH} {C : Nat} {fs : List (Str × D)} : (RS.exc C fs Γ A).toF = .exc C fs A := id rfl
theorem ti_nx {Γ : SG} {A : AH} {c : Nat} {fs : List (Str × D)} (h : Γ[0]? = some (.own (.ins c fs))) : (RS.nx Γ A).toI c = .ok (.ins c fs) A := by
  show (match (Γ[0]? : Option Sl) with | some (.own (.ins c' fs)) => if c' = c then RF.ok (.ins c fs) A else RF.no | _ => RF.no) = _
  rw [h]
  exact if_pos rfl
theorem ti_exc {Γ : SG} {A : AH} {c C : Nat} {fs : List (Str × D)} : (RS.exc C fs Γ A).toI c = .exc C fs A := id rfl
/-! ### comprehensions -/
/-- each item, without a change -/
theorem lcL_pure {t : Tg} {tt : Mo Bool} {te : Mo D} {vs : List Nat} {A : AH} {Γw : SG} {p : D → Bool} {g : D → D} : ∀ (xs acc : List D), acc.length + xs.length ≤ sizeLine →
    (∀ x ∈ xs, ∃ Γ1, t x Γw = some Γ1 ∧ wipeT Γ1 vs = Γw ∧ tt Γ1 A = .ok (p x) Γ1 A ∧ (p x = true → te Γ1 A = .ok (g x) Γ1 A)) → mLcL t tt te vs xs acc Γw A = .ok (acc ++ (xs.filter p).map g) Γw A
  | [], acc, _, _ => by simp [mLcL, mRet]
  | x :: xs, acc, hl, h => by
    obtain ⟨Γ1, h1, h2, h3, h4⟩ := h x List.mem_cons_self
    rw [List.length_cons] at hl
    simp only [mLcL, h1, h3, h2]
    cases q : p x with
    | false =>
      simp only [Bool.false_eq_true, if_false]
      rw [lcL_pure xs acc (by omega) fun y hy => h y (List.mem_cons_of_mem _ hy), List.filter_cons_of_neg (by rw [q]; decide)]
    | true =>
      simp only [if_true, h4 q, h2]
      rw [if_pos (by omega), lcL_pure xs (acc ++ [g x]) (by rw [List.length_append, List.length_singleton]; omega) fun y hy => h y (List.mem_cons_of_mem _ hy), List.filter_cons_of_pos q, List.map_cons, List.append_assoc]
      rfl
inductive All2 (R : D → D → Prop) : List D → List D → Prop
  | nil : All2 R [] []
  | cons {x y : D} {xs ys : List D} : R x y → All2 R xs ys → All2 R (x :: xs) (y :: ys)
theorem as_yes {Γ : SG} {A : AH} : mYes Γ A = .ok true Γ A := id rfl
/-- each item, the state going on: what is kept, what each result is -/
theorem lcL_inv {t : Tg} {te : Mo D} {vs : List Nat} {Γw : SG} {J : Nat → AH → Prop} {Rr : D → D → Prop} : ∀ (xs acc : List D) (n : Nat) (A : AH), acc.length + xs.length ≤ sizeLine → J n A →
    (∀ x ∈ xs, ∀ n A, J n A → ∃ Γ1 y A', t x Γw = some Γ1 ∧ wipeT Γ1 vs = Γw ∧ te Γ1 A = .ok y Γ1 A' ∧ Rr x y ∧ J (n + 1) A') →
    ∃ ys A', mLcL t mYes te vs xs acc Γw A = .ok (acc ++ ys) Γw A' ∧ All2 Rr xs ys ∧ J (n + xs.length) A'
  | [], acc, n, A, _, hJ, _ => ⟨[], A, by simp [mLcL, mRet], .nil, hJ⟩
  | x :: xs, acc, n, A, hl, hJ, h => by
    obtain ⟨Γ1, y, A1, h1, h2, h3, h4, h5⟩ := h x List.mem_cons_self n A hJ
    rw [List.length_cons] at hl
    obtain ⟨ys, A', e, hR, hJ'⟩ := lcL_inv (t := t) (te := te) (vs := vs) (Rr := Rr) xs (acc ++ [y]) (n + 1) A1 (by rw [List.length_append, List.length_singleton]; omega) h5 fun z hz => h z (List.mem_cons_of_mem _ hz)
    refine ⟨y :: ys, A', ?_, .cons h4 hR, by rw [List.length_cons, Nat.add_comm xs.length 1, ← Nat.add_assoc]; exact hJ'⟩
    simp only [mLcL, h1, as_yes, if_true, h3, h2]
    rw [if_pos (by omega), e, List.append_assoc]
    rfl
def lcEnd (vs : List Nat) (Γ0 : SG) (r : R (List D)) : R D := match r with
  | .ok ds Γ' A' => .ok (.lst ds) (putBack Γ0 Γ' vs) A'
  | _ => .no
def lcRun (t : Tg) (tt : Mo Bool) (te : Mo D) (vs : List Nat) (xs : List D) : Mo D := fun Γ A => lcEnd vs Γ (mLcL t tt te vs xs [] (wipeT Γ vs) A)
theorem xp_lcV {mi : Mo (List D)} {t : Tg} {tt : Mo Bool} {te : Mo D} {vs : List Nat} {Γ : SG} {A : AH} : mLcV mi t tt te vs Γ A = (mi Γ A).bind (lcRun t tt te vs) := by
  unfold mLcV mLc mBind
  cases mi Γ A with
  | ok xs Γ1 A1 =>
    show R.bind (match mLcL t tt te vs xs [] (wipeT Γ1 vs) A1 with | .ok ds Γ' A' => .ok ds (putBack Γ1 Γ' vs) A' | _ => .no) _ = lcEnd vs Γ1 (mLcL t tt te vs xs [] (wipeT Γ1 vs) A1)
    cases mLcL t tt te vs xs [] (wipeT Γ1 vs) A1 <;> rfl
  | exc _ _ _ _ => rfl
  | no => rfl
theorem lcRun_pure {t : Tg} {tt : Mo Bool} {te : Mo D} {vs : List Nat} {Γ : SG} {A : AH} {p : D → Bool} {g : D → D} (xs : List D) (hl : xs.length ≤ sizeLine)
    (h : ∀ x ∈ xs, ∃ Γ1, t x (wipeT Γ vs) = some Γ1 ∧ wipeT Γ1 vs = wipeT Γ vs ∧ tt Γ1 A = .ok (p x) Γ1 A ∧ (p x = true → te Γ1 A = .ok (g x) Γ1 A)) (hb : putBack Γ (wipeT Γ vs) vs = Γ) : lcRun t tt te vs xs Γ A = .ok (.lst ((xs.filter p).map g)) Γ A := by
  unfold lcRun
  rw [lcL_pure (p := p) (g := g) xs [] (by simpa using hl) h]
  show R.ok (D.lst _) (putBack Γ (wipeT Γ vs) vs) A = _
  rw [hb, List.nil_append]
theorem sz_eq : sizeLine = 16777216 := by decide +kernel
theorem xp_lstO {xs : List D} : lstO xs = if xs.length ≤ 16777216 then some (.lst xs) else none := by
  unfold lstO
  rw [sz_eq]
theorem xp_tupO {xs : List D} : tupO xs = if xs.length ≤ 16777216 then some (.tup xs) else none := by
  unfold tupO
  rw [sz_eq]
theorem xp_lstCO {xs : List D} : lstC xs = if xs.length ≤ 16777216 then some (.lst xs) else none := by
  unfold lstC
  rw [sz_eq]
theorem xp_lcRun {t : Tg} {tt : Mo Bool} {te : Mo D} {vs : List Nat} {xs : List D} {Γ : SG} {A : AH} : lcRun t tt te vs xs Γ A = lcEnd vs Γ (mLcL t tt te vs xs [] (wipeT Γ vs) A) := id rfl
theorem xp_lcEnd {vs : List Nat} {Γ0 Γ : SG} {ds : List D} {A : AH} : lcEnd vs Γ0 (.ok ds Γ A) = .ok (.lst ds) (putBack Γ0 Γ vs) A := id rfl
def lcK2 (t : Tg) (tt : Mo Bool) (te : Mo D) (vs : List Nat) (xs acc : List D) (r : R D) : R (List D) := match r with
  | .ok y Γ3 A3 => if acc.length < sizeLine then mLcL t tt te vs xs (acc ++ [y]) (wipeT Γ3 vs) A3 else .no
  | _ => .no
def lcK1 (t : Tg) (tt : Mo Bool) (te : Mo D) (vs : List Nat) (xs acc : List D) (r : R Bool) : R (List D) := match r with
  | .ok b Γ2 A2 => if b = true then lcK2 t tt te vs xs acc (te Γ2 A2) else mLcL t tt te vs xs acc (wipeT Γ2 vs) A2
  | _ => .no
theorem xl_nil {t : Tg} {tt : Mo Bool} {te : Mo D} {vs : List Nat} {acc : List D} {Γ : SG} {A : AH} : mLcL t tt te vs [] acc Γ A = .ok acc Γ A := id rfl
theorem xl_cons {t : Tg} {tt : Mo Bool} {te : Mo D} {vs : List Nat} {x : D} {xs acc : List D} {Γ : SG} {A : AH} : mLcL t tt te vs (x :: xs) acc Γ A = (match t x Γ with | none => R.no | some Γ1 => lcK1 t tt te vs xs acc (tt Γ1 A)) := by
  simp only [mLcL]
  cases t x Γ with
  | none => exact id rfl
  | some Γ1 =>
    simp only [lcK1]
    cases tt Γ1 A with
    | ok b Γ2 A2 =>
      cases b with
      | false => exact id rfl
      | true =>
        show (match te Γ2 A2 with
          | .ok y Γ3 A3 => if acc.length < sizeLine then mLcL t tt te vs xs (acc ++ [y]) (wipeT Γ3 vs) A3 else .no
          | _ => .no) = lcK2 t tt te vs xs acc (te Γ2 A2)
        cases te Γ2 A2 <;> exact id rfl
    | exc _ _ _ _ => exact id rfl
    | no => exact id rfl
theorem xl_1 {t : Tg} {tt : Mo Bool} {te : Mo D} {vs : List Nat} {xs acc : List D} {Γ : SG} {A : AH} : lcK1 t tt te vs xs acc (.ok true Γ A) = lcK2 t tt te vs xs acc (te Γ A) := id rfl
theorem xl_1f {t : Tg} {tt : Mo Bool} {te : Mo D} {vs : List Nat} {xs acc : List D} {Γ : SG} {A : AH} : lcK1 t tt te vs xs acc (.ok false Γ A) = mLcL t tt te vs xs acc (wipeT Γ vs) A := id rfl
theorem xl_2 {t : Tg} {tt : Mo Bool} {te : Mo D} {vs : List Nat} {xs acc : List D} {y : D} {Γ : SG} {A : AH} : lcK2 t tt te vs xs acc (.ok y Γ A) = if acc.length < 16777216 then mLcL t tt te vs xs (acc ++ [y]) (wipeT Γ vs) A else .no := by
  show (if acc.length < sizeLine then _ else _) = _
  rw [sz_eq]
/-! ### places -/
theorem ix_at {α : Type} {xs : List α} {i : Int} (h0 : 0 ≤ i) (hl : i < xs.length) : L2.atI xs i = xs[i.toNat]? := by
  unfold L2.atI ixN
  rw [if_pos h0, if_pos hl]
  exact id rfl
theorem ix_n {n : Nat} {i : Int} (h0 : 0 ≤ i) (hl : i < n) : ixN n i = some i.toNat := by
  unfold ixN
  rw [if_pos h0, if_pos hl]
theorem ix_0 {α : Type} {a : α} {xs : List α} : L2.atI (a :: xs) 0 = some a := by
  rw [ix_at (by decide) (by rw [List.length_cons]; omega)]
  exact id rfl
theorem ix_1 {α : Type} {a b : α} {xs : List α} : L2.atI (a :: b :: xs) 1 = some b := by
  rw [ix_at (by decide) (by rw [List.length_cons, List.length_cons]; omega)]
  exact id rfl
theorem ix_2 {α : Type} {a b c : α} {xs : List α} : L2.atI (a :: b :: c :: xs) 2 = some c := by
  rw [ix_at (by decide) (by rw [List.length_cons, List.length_cons, List.length_cons]; omega)]
  exact id rfl
theorem ix_3 {α : Type} {a b c d : α} {xs : List α} : L2.atI (a :: b :: c :: d :: xs) 3 = some d := by
  rw [ix_at (by decide) (by rw [List.length_cons, List.length_cons, List.length_cons, List.length_cons]; omega)]
  exact id rfl
/-! ### operators -/
theorem to_addI {i j : Int} : tAdd (.int i) (.int j) = some (.int (i + j)) := id rfl
theorem to_sub {i j : Int} : tSub (.int i) (.int j) = some (.int (i - j)) := id rfl
theorem to_le {i j : Int} : tLe (.int i) (.int j) = some (.bl (decide (i ≤ j))) := id rfl
theorem to_gt {i j : Int} : tGt (.int i) (.int j) = some (.bl (decide (j < i))) := id rfl
theorem to_ge {i j : Int} : tGe (.int i) (.int j) = some (.bl (decide (j ≤ i))) := id rfl
theorem to_lt {i j : Int} : tLt (.int i) (.int j) = some (.bl (decide (i < j))) := id rfl
theorem to_mul {i j : Int} (h : cMulB i j = true) : tMul (.int i) (.int j) = some (.int (i * j)) := by
  show (if cMulB i j = true then _ else none) = _
  rw [if_pos h]
theorem to_mod {i j : Int} (h : 0 < j) : tMod (.int i) (.int j) = some (.int (i % j)) := by
  show (if cModB i j = true then _ else none) = _
  rw [if_pos (by unfold cModB; exact decide_eq_true h)]
theorem to_div {i j : Int} (h : 0 < j) (h2 : j.natAbs.log2 < 9000) : tDiv (.int i) (.int j) = some (.int (i / j)) := by
  show (if cDivB i j = true then _ else none) = _
  rw [if_pos (by unfold cDivB; simp [h, h2])]
theorem to_pow {i j : Int} (h : cPowB i j = true) : tPow (.int i) (.int j) = some (.int (i ^ j.toNat)) := by
  show (if cPowB i j = true then _ else none) = _
  rw [if_pos h]
theorem to_ixL {ds : List D} {i : Int} : tIx (.lst ds) (.int i) = L2.atI ds i := id rfl
theorem to_ixT {ds : List D} {i : Int} : tIx (.tup ds) (.int i) = L2.atI ds i := id rfl
theorem to_abs {i : Int} : tAbs (.int i) = some (.int (if i < 0 then -i else i)) := id rfl
theorem to_int {i : Int} : tInt (.int i) = some (.int i) := id rfl
theorem to_intB {b : Bool} : tInt (.bl b) = some (.int (if b then 1 else 0)) := id rfl
theorem to_lenL {ds : List D} : tLen (.lst ds) = some (.int ds.length) := id rfl
theorem to_lenT {ds : List D} : tLen (.tup ds) = some (.int ds.length) := id rfl
theorem to_lenZ {ds : List Int} : tLen (.scr ds) = some (.int ds.length) := id rfl
theorem to_isN {neg : Bool} : tIsN neg .non .non = some (.bl (!neg)) := id rfl
theorem to_allL {xs : List D} : tAll (.lst xs) = (boolsOf xs).map fun bs => .bl (bs.all id) := id rfl
theorem to_app {y : D} {xs : List D} (h : xs.length < sizeLine) : appC y (.lst xs) = some (.lst (xs ++ [y]), .non) := by
  unfold appC
  exact if_pos h
theorem to_put {xs : List D} {j : Int} {y : D} {n : Nat} (h : ixN xs.length j = some n) : putC (.int j) y (.lst xs) = some (.lst (xs.set n y), ()) := by
  show (ixN xs.length j).map _ = _
  rw [h]
  exact id rfl
theorem to_lst {xs : List D} (h : xs.length ≤ sizeLine) : lstO xs = some (.lst xs) := if_pos h
theorem to_tup {xs : List D} (h : xs.length ≤ sizeLine) : tupO xs = some (.tup xs) := if_pos h
theorem to_lstC {xs : List D} (h : xs.length ≤ sizeLine) : lstC xs = some (.lst xs) := if_pos h
theorem to_eqI {i j : Int} : tEq false (.int i) (.int j) = some (.bl (decide (i = j))) := by
  unfold tEq
  rw [if_pos ⟨Dl.eqOk_int i, Dl.eqOk_int j⟩, Dl.eqD_int]
  exact id rfl
theorem to_neI {i j : Int} : tEq true (.int i) (.int j) = some (.bl (!decide (i = j))) := by
  unfold tEq
  rw [if_pos ⟨Dl.eqOk_int i, Dl.eqOk_int j⟩, Dl.eqD_int]
  exact id rfl
theorem to_eqNil {xs : List D} (h : Dl.eqOk (.lst xs) = true) : tEq false (.lst xs) (.lst []) = some (.bl xs.isEmpty) := by
  unfold tEq
  rw [if_pos ⟨h, Dl.eqOk_nil⟩, Dl.eqD_nil]
  exact id rfl
theorem to_neNil {xs : List D} (h : Dl.eqOk (.lst xs) = true) : tEq true (.lst xs) (.lst []) = some (.bl (!xs.isEmpty)) := by
  unfold tEq
  rw [if_pos ⟨h, Dl.eqOk_nil⟩, Dl.eqD_nil]
  exact id rfl
theorem to_neInts {ns : List Int} : tEq true (.lst (ns.map .int)) (.lst []) = some (.bl (!ns.isEmpty)) := by
  rw [to_neNil (Dl.eqOk_ints ns)]
  cases ns <;> exact id rfl
theorem to_eqInts {ns : List Int} : tEq false (.lst (ns.map .int)) (.lst []) = some (.bl ns.isEmpty) := by
  rw [to_eqNil (Dl.eqOk_ints ns)]
  cases ns <;> exact id rfl
theorem to_put0 {a y : D} {r : List D} : putC (.int 0) y (.lst (a :: r)) = some (.lst (y :: r), ()) := by
  rw [to_put (n := 0) (ix_n (by decide) (by rw [List.length_cons]; omega))]
  exact id rfl
theorem to_put1 {a b y : D} {r : List D} : putC (.int 1) y (.lst (a :: b :: r)) = some (.lst (a :: y :: r), ()) := by
  rw [to_put (n := 1) (ix_n (by decide) (by rw [List.length_cons, List.length_cons]; omega))]
  exact id rfl
theorem to_put2 {a b c y : D} {r : List D} : putC (.int 2) y (.lst (a :: b :: c :: r)) = some (.lst (a :: b :: y :: r), ()) := by
  rw [to_put (n := 2) (ix_n (by decide) (by rw [List.length_cons, List.length_cons, List.length_cons]; omega))]
  exact id rfl
theorem ix_ints {ns : List Int} {i : Int} (h0 : 0 ≤ i) (hl : i < ns.length) : L2.atI (ns.map D.int) i = some (.int (ns.getD i.toNat 0)) := by
  rw [ix_at h0 (by rw [List.length_map]; exact hl), List.getElem?_map, List.getElem?_eq_getElem (by omega), List.getD_eq_getElem?_getD, List.getElem?_eq_getElem (by omega)]
  exact id rfl
theorem mulL {i j : Int} (h1 : -(2 ^ 64) < i) (h2 : i < 2 ^ 64) : cMulB i j = true := by
  unfold cMulB
  rw [decide_eq_true h1, decide_eq_true h2]
  exact id rfl
theorem mulR {i j : Int} (h1 : -(2 ^ 64) < j) (h2 : j < 2 ^ 64) : cMulB i j = true := by
  unfold cMulB
  rw [decide_eq_true h1, decide_eq_true h2]
  simp
/-- two ints of at most n, m bits -/
theorem log_lt {i : Int} {n : Nat} (h1 : -(2 ^ n) < i) (h2 : i < 2 ^ n) (hn : 0 < n) : i.natAbs.log2 < n := by
  by_cases h0 : i.natAbs = 0
  · rw [h0]
    exact hn
  · rw [Nat.log2_lt h0]
    have : (i.natAbs : Int) < 2 ^ n := by omega
    exact_mod_cast this
theorem mulW {i j : Int} (n m : Nat) (h1 : -(2 ^ n) < i) (h2 : i < 2 ^ n) (h3 : -(2 ^ m) < j) (h4 : j < 2 ^ m) (hn : 0 < n) (hm : 0 < m) (h : n + m ≤ 1000000) : cMulB i j = true := by
  have a := log_lt h1 h2 hn
  have b := log_lt h3 h4 hm
  unfold cMulB
  rw [decide_eq_true (show i.natAbs.log2 + j.natAbs.log2 < 1000000 by omega)]
  simp
end Fl

set_option Elab.async false
set_option linter.all false
set_option maxRecDepth 100000
set_option maxHeartbeats 4000000
/-! E14: what draws: one shape of it, whatever its numbers. -/
namespace Fl
open PySem
open Dl (D Cell)
structure Q where
  ns : List Int
  at_ : Int
  rest : Int
def penC (q : Q) : Cell := .lst [.lst (q.ns.map .int), .int q.at_, .int q.rest]
def OkQ (b : Nat) (q : Q) : Prop := 0 ≤ q.at_ ∧ q.at_ ≤ (b : Int) ∧ 0 ≤ q.rest
theorem OkQ.le {b c : Nat} {q : Q} (h : OkQ b q) (hb : b ≤ c) : OkQ c q := ⟨h.1, by have := h.2.1; omega, h.2.2⟩
def PA (nc : Nat) (q : Q) : AH := List.replicate nc none ++ [some (penC q)]
theorem PA_get {nc : Nat} {q : Q} : (PA nc q)[nc]? = some (some (penC q)) := by
  unfold PA
  rw [List.getElem?_append_right (by rw [List.length_replicate]; exact Nat.le_refl _), List.length_replicate, Nat.sub_self]
  exact id rfl
theorem PA_set {nc : Nat} {q q' : Q} : (PA nc q).set nc (some (penC q')) = PA nc q' := by
  unfold PA
  rw [List.set_append_right _ _ (by rw [List.length_replicate]; exact Nat.le_refl _), List.length_replicate, Nat.sub_self]
  exact id rfl
/-- the tail: the cell is at hand -/
def tailT (greatO : Mo D) (k1 k2 k3 e1 w1 f1 f2 f3 e2 w2 dv : Int) (cmp : D → D → Option D) : Ms :=
  (mSeq (mIfS (mAnd (mTest (mOp tLt (mV 3) (m1W tLen (mVal (mOpW tIx (mB 0) (mVal (mC (.int 0)))))))) (mTest (mOp cmp (m1 tAbs (mV 4)) (mOp tPow (mC (.int 10)) (mC (.int 18))))))
  (mSeq (mSet 5 greatO)
  (mSeq (mIxSet (mOp tDiv (m1 tInt (mV 5)) (mV 1)) (mB 0) (mC (.int 2)))
  (mRetV (mOp tMod (m1 tInt (mV 5)) (mV 1)))))
  mNext)
  (mSeq (mSet 6 (mOp tMod (m1 tInt (mOp tPow (mOpW tAdd (mVal (mOpW tAdd (mVal (mOp tMod (m1 tInt (mV 4)) (mC (.int k1)))) (mVal (mOp tMul (mC (.int k2)) (mV 3))))) (mVal (mC (.int k3)))) (mC (.int e1)))) (mC (.int w1))))
  (mSeq (mSet 6 (mOp tMod (m1 tInt (mOp tPow (mOpW tAdd (mVal (mOpW tAdd (mVal (mOp tMul (mV 6) (mOpW tAdd (mVal (mOp tMul (mC (.int 2)) (mV 3))) (mVal (mC (.int f1)))))) (mVal (mOp tMul (mOp tMul (mC (.int f2)) (mV 3)) (mV 3))))) (mVal (mC (.int f3)))) (mC (.int e2)))) (mC (.int w2))))
  (mRetV (mOp tMod (m1 tInt (mOp tDiv (mV 6) (mC (.int dv)))) (mV 1))))))
structure Nums (k1 k2 k3 e1 w1 f1 f2 f3 e2 w2 dv : Int) : Prop where
  k1 : 0 < k1 ∧ k1 < 4294967296
  k2 : 0 ≤ k2 ∧ k2 < 131072
  k3 : 0 ≤ k3 ∧ k3 < 131072
  e1 : 0 ≤ e1 ∧ e1 ≤ 1000000
  w1 : 0 < w1 ∧ w1 < 4294967296
  f1 : 0 ≤ f1 ∧ f1 < 131072
  f2 : 0 ≤ f2 ∧ f2 < 131072
  f3 : 0 ≤ f3 ∧ f3 < 131072
  e2 : 0 ≤ e2 ∧ e2 ≤ 1000000
  w2 : 0 < w2 ∧ w2 < 4294967296
  dv : 0 < dv ∧ dv < 4294967296
theorem pow_ok {i j : Int} (h : 0 ≤ j ∧ j ≤ 1000000) (h1 : 0 ≤ i) (h2 : i < 18446744073709551616) : cPowB i j = true := by
  unfold cPowB
  rw [decide_eq_true h.1, decide_eq_true h.2, decide_eq_true (show i.natAbs < 2 ^ 64 by omega)]
  exact id rfl
theorem log_small {j : Int} (h : 0 < j) (h2 : j < 4294967296) : j.natAbs.log2 < 9000 := Nat.lt_of_lt_of_le (log_lt (n := 40) (by omega) (by omega) (by decide)) (by decide)
def Fine (nc : Nat) (b : Nat) (many : Int) (r : RF) : Prop := ∃ v q', r = .ok (.int v) (PA nc q') ∧ 0 ≤ v ∧ v < many ∧ OkQ (b + 1) q'
theorem fine_mk {nc b : Nat} {many : Int} {i t r : Int} {ns : List Int} {A : AH} (hm : 0 < many) (e : A = PA nc ⟨ns, t, r⟩) (a2 : 0 ≤ t) (a3 : t ≤ b + 1) (a4 : 0 ≤ r) : Fine nc b many (.ok (.int (i % many)) A) :=
  ⟨_, _, by rw [e], Int.emod_nonneg _ (by omega), Int.emod_lt_of_pos _ hm, a2, by show t ≤ ((b + 1 : Nat) : Int); omega, a4⟩
theorem tail_ok {nc b : Nat} {ns : List Int} {at_ cell many : Int} {x2 x5 x6 : Sl} {greatO : Mo D} {k1 k2 k3 e1 w1 f1 f2 f3 e2 w2 dv : Int} {cmp : D → D → Option D} (N : Nums k1 k2 k3 e1 w1 f1 f2 f3 e2 w2 dv)
    (h0 : 0 ≤ at_) (h1 : at_ ≤ b) (hb : b ≤ 4000000) (hm : 0 < many) (hl : many.natAbs.log2 < 9000)
    (hc : ∀ i j : Int, ∃ v : Bool, cmp (.int i) (.int j) = some (.bl v) ∧ (v = true → j ≤ i))
    (hg : 1000000000000000000 ≤ cell.natAbs → ∀ A, ∃ g : Int, 0 ≤ g ∧ greatO [.val (.ref nc), .val (.int many), x2, .val (.int at_), .val (.int cell), x5, x6] A = .ok (.int g) [.val (.ref nc), .val (.int many), x2, .val (.int at_), .val (.int cell), x5, x6] A) :
    Fine nc b many ((tailT greatO k1 k2 k3 e1 w1 f1 f2 f3 e2 w2 dv cmp [.val (.ref nc), .val (.int many), x2, .val (.int at_), .val (.int cell), x5, x6] (PA nc ⟨ns, at_ + 1, 0⟩)).toF) := by
  have md : ∀ i : Int, tMod (.int i) (.int many) = some (.int (i % many)) := fun i => to_mod hm
  have dvm : ∀ i : Int, tDiv (.int i) (.int many) = some (.int (i / many)) := fun i => to_div hm hl
  have p18 : tPow (.int 10) (.int 18) = some (.int 1000000000000000000) := to_pow (by decide)
  have mk1 : ∀ i : Int, tMod (.int i) (.int k1) = some (.int (i % k1)) := fun i => to_mod N.k1.1
  have mm1 : ∀ i : Int, tMod (.int i) (.int w1) = some (.int (i % w1)) := fun i => to_mod N.w1.1
  have mm2 : ∀ i : Int, tMod (.int i) (.int w2) = some (.int (i % w2)) := fun i => to_mod N.w2.1
  have ddv : ∀ i : Int, tDiv (.int i) (.int dv) = some (.int (i / dv)) := fun i => to_div N.dv.1 (log_small N.dv.1 N.dv.2)
  have a1 : tMul (.int k2) (.int at_) = some (.int (k2 * at_)) := to_mul (mulL (by have := N.k2; omega) (by have := N.k2; omega))
  have a2 : tMul (.int 2) (.int at_) = some (.int (2 * at_)) := to_mul (mulL (by omega) (by omega))
  have a3 : tMul (.int f2) (.int at_) = some (.int (f2 * at_)) := to_mul (mulL (by have := N.f2; omega) (by have := N.f2; omega))
  have a4 : ∀ i : Int, tMul (.int i) (.int at_) = some (.int (i * at_)) := fun i => to_mul (mulR (by omega) (by omega))
  have b1 : 0 ≤ k2 * at_ := Int.mul_nonneg N.k2.1 h0
  have b2 : k2 * at_ ≤ 131072 * 4000000 := Int.mul_le_mul (by have := N.k2; omega) (by omega) h0 (by omega)
  have c1 := Int.emod_nonneg cell (show k1 ≠ 0 by have := N.k1; omega)
  have c2 := Int.emod_lt_of_pos cell N.k1.1
  have p1 : ∀ i : Int, 0 ≤ i → i < 18446744073709551616 → tPow (.int i) (.int e1) = some (.int (i ^ e1.toNat)) := fun i x y => to_pow (pow_ok N.e1 x y)
  have p2 : ∀ i : Int, 0 ≤ i → i < 18446744073709551616 → tPow (.int i) (.int e2) = some (.int (i ^ e2.toNat)) := fun i x y => to_pow (pow_ok N.e2 x y)
  have P1 := p1 (cell % k1 + k2 * at_ + k3) (by have := N.k3; omega) (by have := N.k3; have := N.k1; omega)
  have d1 := Int.emod_nonneg ((cell % k1 + k2 * at_ + k3) ^ e1.toNat) (show w1 ≠ 0 by have := N.w1; omega)
  have d2 := Int.emod_lt_of_pos ((cell % k1 + k2 * at_ + k3) ^ e1.toNat) N.w1.1
  generalize hx : (cell % k1 + k2 * at_ + k3) ^ e1.toNat % w1 = x at d1 d2
  have f1' : tMul (.int x) (.int (2 * at_ + f1)) = some (.int (x * (2 * at_ + f1))) := to_mul (mulL (by omega) (by have := N.w1; omega))
  have g1 : 0 ≤ x * (2 * at_ + f1) := Int.mul_nonneg d1 (by have := N.f1; omega)
  have g2 : x * (2 * at_ + f1) ≤ 4294967296 * 8131072 := Int.mul_le_mul (by have := N.w1; omega) (by have := N.f1; omega) (by have := N.f1; omega) (by omega)
  have g3 : 0 ≤ f2 * at_ := Int.mul_nonneg N.f2.1 h0
  have g4 : f2 * at_ ≤ 131072 * 4000000 := Int.mul_le_mul (by have := N.f2; omega) (by omega) h0 (by omega)
  have g5 : 0 ≤ f2 * at_ * at_ := Int.mul_nonneg g3 h0
  have g6 : f2 * at_ * at_ ≤ (131072 * 4000000) * 4000000 := Int.mul_le_mul g4 (by omega) h0 (by omega)
  have P2 := p2 (x * (2 * at_ + f1) + f2 * at_ * at_ + f3) (by have := N.f3; omega) (by have := N.f3; omega)
  have body : Fine nc b many (((mSeq (mSet 6 (mOp tMod (m1 tInt (mOp tPow (mOpW tAdd (mVal (mOpW tAdd (mVal (mOp tMod (m1 tInt (mV 4)) (mC (.int k1)))) (mVal (mOp tMul (mC (.int k2)) (mV 3))))) (mVal (mC (.int k3)))) (mC (.int e1)))) (mC (.int w1))))
      (mSeq (mSet 6 (mOp tMod (m1 tInt (mOp tPow (mOpW tAdd (mVal (mOpW tAdd (mVal (mOp tMul (mV 6) (mOpW tAdd (mVal (mOp tMul (mC (.int 2)) (mV 3))) (mVal (mC (.int f1)))))) (mVal (mOp tMul (mOp tMul (mC (.int f2)) (mV 3)) (mV 3))))) (mVal (mC (.int f3)))) (mC (.int e2)))) (mC (.int w2))))
      (mRetV (mOp tMod (m1 tInt (mOp tDiv (mV 6) (mC (.int dv)))) (mV 1))))) [.val (.ref nc), .val (.int many), x2, .val (.int at_), .val (.int cell), x5, x6] (PA nc ⟨ns, at_ + 1, 0⟩)).toF) := by
    simp only [xp_bind, rb_ok, rb_exc, rb_no, xp_ret, xp_oS, xp_oN, xp_c, xp_v, xp_b, xp_val, xp_op, xp_opw, xp_rd2, xp_rd1, xp_test, xp_ite, xp_and, xp_or, xp_not, xp_andV, xp_orV, xp_notV, xp_onB, xp_if, xp_un, xp_chain, xp_nil, xp_cons, xp_lst, xp_tup, xp_noP, xp_part, xp_sl, xp_1, xp_1W, xp_cbn, xp_is, xp_fld, xp_xf, xp_call, xp_callC, xp_calm, xp_callK, xp_callF, bk_ok, bk_exc, xp_prop, xp_isIns, xp_meth, xp_new, xp_newA, xp_lstC, xp_app, xp_isLst, xp_updS, xp_updR, rd_s, rd_ref, rd_non, rd_bl, rd_int, rd_str, rd_lst, rd_tup, rd_scr, rd_dct, rd_ins, rd_exv, xs_seq, sq_nx, sq_ret, sq_exc, as_E, ts_ok, ts_exc, as_next, as_ret, as_retN, as_do, as_set, as_if, as_ifS, as_for, as_forN, as_forC, fk_nx, fk_cnt, fk_brk, fk_ret, fk_exc, as_it, as_rng, as_asg, as_par, as_par2, as_setO, as_parO, as_parOK, as_ixSet, as_updK, as_fldSet, as_raise1, as_raise1', as_frzO, tf_nx, tf_ret, tf_exc, ti_exc, as_yes, xp_lcV, xp_lstO, xp_tupO, xp_lstCO, xp_lcRun, xp_lcEnd, xl_nil, xl_cons, xl_1, xl_1f, xl_2, ix_0, ix_1, ix_2, ix_3, to_addI, to_sub, to_le, to_gt, to_ge, to_lt, to_ixL, to_ixT, to_abs, to_int, to_intB, to_lenL, to_lenT, to_lenZ, to_isN, to_allL, to_eqI, to_neI, to_neInts, to_eqInts, to_put0, to_put1, to_put2, wipeT, putBack, tNm, tNo, tCn, tAny, Option.bind_some, startT, startI, List.map_cons, List.map_nil, List.length_cons, List.length_nil, List.cons_append, List.nil_append, List.append_nil, List.getElem?_cons_zero, List.getElem?_cons_succ, List.set_cons_zero, List.set_cons_succ, Nat.reduceAdd, Nat.reduceSub, Nat.reduceEqDiff, Nat.reduceLeDiff, Nat.reduceLT, List.length_append, List.replicate_zero, List.replicate_succ, cellD, blO, intO, itAny, ↓reduceIte, if_true, Bool.false_eq_true, if_false, mk1, a1, P1, mm1, hx, a2, f1', a3, a4, P2, mm2, ddv, md]
    exact fine_mk (b := b) hm rfl (by omega) (by omega) (by omega)
  unfold tailT
  by_cases hlt : at_ < (ns.length : Int)
  · obtain ⟨v, e, ev⟩ := hc (if cell < 0 then -cell else cell) 1000000000000000000
    have hd : decide (at_ < (ns.length : Int)) = true := decide_eq_true hlt
    cases v with
    | true =>
      have hbig : 1000000000000000000 ≤ cell.natAbs := by
        have := ev rfl
        split at this <;> omega
      obtain ⟨g, g0, eg⟩ := hg hbig (PA nc ⟨ns, at_ + 1, 0⟩)
      simp only [xp_bind, rb_ok, rb_exc, rb_no, xp_ret, xp_oS, xp_oN, xp_c, xp_v, xp_b, xp_val, xp_op, xp_opw, xp_rd2, xp_rd1, xp_test, xp_ite, xp_and, xp_or, xp_not, xp_andV, xp_orV, xp_notV, xp_onB, xp_if, xp_un, xp_chain, xp_nil, xp_cons, xp_lst, xp_tup, xp_noP, xp_part, xp_sl, xp_1, xp_1W, xp_cbn, xp_is, xp_fld, xp_xf, xp_call, xp_callC, xp_calm, xp_callK, xp_callF, bk_ok, bk_exc, xp_prop, xp_isIns, xp_meth, xp_new, xp_newA, xp_lstC, xp_app, xp_isLst, xp_updS, xp_updR, rd_s, rd_ref, rd_non, rd_bl, rd_int, rd_str, rd_lst, rd_tup, rd_scr, rd_dct, rd_ins, rd_exv, xs_seq, sq_nx, sq_ret, sq_exc, as_E, ts_ok, ts_exc, as_next, as_ret, as_retN, as_do, as_set, as_if, as_ifS, as_for, as_forN, as_forC, fk_nx, fk_cnt, fk_brk, fk_ret, fk_exc, as_it, as_rng, as_asg, as_par, as_par2, as_setO, as_parO, as_parOK, as_ixSet, as_updK, as_fldSet, as_raise1, as_raise1', as_frzO, tf_nx, tf_ret, tf_exc, ti_exc, as_yes, xp_lcV, xp_lstO, xp_tupO, xp_lstCO, xp_lcRun, xp_lcEnd, xl_nil, xl_cons, xl_1, xl_1f, xl_2, ix_0, ix_1, ix_2, ix_3, to_addI, to_sub, to_le, to_gt, to_ge, to_lt, to_ixL, to_ixT, to_abs, to_int, to_intB, to_lenL, to_lenT, to_lenZ, to_isN, to_allL, to_eqI, to_neI, to_neInts, to_eqInts, to_put0, to_put1, to_put2, wipeT, putBack, tNm, tNo, tCn, tAny, Option.bind_some, startT, startI, List.map_cons, List.map_nil, List.length_cons, List.length_nil, List.cons_append, List.nil_append, List.append_nil, List.getElem?_cons_zero, List.getElem?_cons_succ, List.set_cons_zero, List.set_cons_succ, Nat.reduceAdd, Nat.reduceSub, Nat.reduceEqDiff, Nat.reduceLeDiff, Nat.reduceLT, List.length_append, List.replicate_zero, List.replicate_succ, cellD, blO, intO, itAny, ↓reduceIte, if_true, Bool.false_eq_true, if_false, PA_get, penC, List.length_map, hd, p18, e, eg, dvm, md]
      refine fine_mk (b := b) (ns := ns) (t := at_ + 1) (r := g / many) hm ?_ (by omega) (by omega) (Int.ediv_nonneg g0 (by omega))
      exact PA_set (q := ⟨ns, at_ + 1, 0⟩) (q' := ⟨ns, at_ + 1, g / many⟩)
    | false =>
      rw [xs_seq]
      simp only [xp_bind, rb_ok, rb_exc, rb_no, xp_ret, xp_oS, xp_oN, xp_c, xp_v, xp_b, xp_val, xp_op, xp_opw, xp_rd2, xp_rd1, xp_test, xp_ite, xp_and, xp_or, xp_not, xp_andV, xp_orV, xp_notV, xp_onB, xp_if, xp_un, xp_chain, xp_nil, xp_cons, xp_lst, xp_tup, xp_noP, xp_part, xp_sl, xp_1, xp_1W, xp_cbn, xp_is, xp_fld, xp_xf, xp_call, xp_callC, xp_calm, xp_callK, xp_callF, bk_ok, bk_exc, xp_prop, xp_isIns, xp_meth, xp_new, xp_newA, xp_lstC, xp_app, xp_isLst, xp_updS, xp_updR, rd_s, rd_ref, rd_non, rd_bl, rd_int, rd_str, rd_lst, rd_tup, rd_scr, rd_dct, rd_ins, rd_exv, xs_seq, sq_nx, sq_ret, sq_exc, as_E, ts_ok, ts_exc, as_next, as_ret, as_retN, as_do, as_set, as_if, as_ifS, as_for, as_forN, as_forC, fk_nx, fk_cnt, fk_brk, fk_ret, fk_exc, as_it, as_rng, as_asg, as_par, as_par2, as_setO, as_parO, as_parOK, as_ixSet, as_updK, as_fldSet, as_raise1, as_raise1', as_frzO, tf_nx, tf_ret, tf_exc, ti_exc, as_yes, xp_lcV, xp_lstO, xp_tupO, xp_lstCO, xp_lcRun, xp_lcEnd, xl_nil, xl_cons, xl_1, xl_1f, xl_2, ix_0, ix_1, ix_2, ix_3, to_addI, to_sub, to_le, to_gt, to_ge, to_lt, to_ixL, to_ixT, to_abs, to_int, to_intB, to_lenL, to_lenT, to_lenZ, to_isN, to_allL, to_eqI, to_neI, to_neInts, to_eqInts, to_put0, to_put1, to_put2, wipeT, putBack, tNm, tNo, tCn, tAny, Option.bind_some, startT, startI, List.map_cons, List.map_nil, List.length_cons, List.length_nil, List.cons_append, List.nil_append, List.append_nil, List.getElem?_cons_zero, List.getElem?_cons_succ, List.set_cons_zero, List.set_cons_succ, Nat.reduceAdd, Nat.reduceSub, Nat.reduceEqDiff, Nat.reduceLeDiff, Nat.reduceLT, List.length_append, List.replicate_zero, List.replicate_succ, cellD, blO, intO, itAny, ↓reduceIte, if_true, Bool.false_eq_true, if_false, PA_get, penC, List.length_map, hd, p18, e]
      exact body
  · have hd : decide (at_ < (ns.length : Int)) = false := decide_eq_false hlt
    rw [xs_seq]
    simp only [xp_bind, rb_ok, rb_exc, rb_no, xp_ret, xp_oS, xp_oN, xp_c, xp_v, xp_b, xp_val, xp_op, xp_opw, xp_rd2, xp_rd1, xp_test, xp_ite, xp_and, xp_or, xp_not, xp_andV, xp_orV, xp_notV, xp_onB, xp_if, xp_un, xp_chain, xp_nil, xp_cons, xp_lst, xp_tup, xp_noP, xp_part, xp_sl, xp_1, xp_1W, xp_cbn, xp_is, xp_fld, xp_xf, xp_call, xp_callC, xp_calm, xp_callK, xp_callF, bk_ok, bk_exc, xp_prop, xp_isIns, xp_meth, xp_new, xp_newA, xp_lstC, xp_app, xp_isLst, xp_updS, xp_updR, rd_s, rd_ref, rd_non, rd_bl, rd_int, rd_str, rd_lst, rd_tup, rd_scr, rd_dct, rd_ins, rd_exv, xs_seq, sq_nx, sq_ret, sq_exc, as_E, ts_ok, ts_exc, as_next, as_ret, as_retN, as_do, as_set, as_if, as_ifS, as_for, as_forN, as_forC, fk_nx, fk_cnt, fk_brk, fk_ret, fk_exc, as_it, as_rng, as_asg, as_par, as_par2, as_setO, as_parO, as_parOK, as_ixSet, as_updK, as_fldSet, as_raise1, as_raise1', as_frzO, tf_nx, tf_ret, tf_exc, ti_exc, as_yes, xp_lcV, xp_lstO, xp_tupO, xp_lstCO, xp_lcRun, xp_lcEnd, xl_nil, xl_cons, xl_1, xl_1f, xl_2, ix_0, ix_1, ix_2, ix_3, to_addI, to_sub, to_le, to_gt, to_ge, to_lt, to_ixL, to_ixT, to_abs, to_int, to_intB, to_lenL, to_lenT, to_lenZ, to_isN, to_allL, to_eqI, to_neI, to_neInts, to_eqInts, to_put0, to_put1, to_put2, wipeT, putBack, tNm, tNo, tCn, tAny, Option.bind_some, startT, startI, List.map_cons, List.map_nil, List.length_cons, List.length_nil, List.cons_append, List.nil_append, List.append_nil, List.getElem?_cons_zero, List.getElem?_cons_succ, List.set_cons_zero, List.set_cons_succ, Nat.reduceAdd, Nat.reduceSub, Nat.reduceEqDiff, Nat.reduceLeDiff, Nat.reduceLT, List.length_append, List.replicate_zero, List.replicate_succ, cellD, blO, intO, itAny, ↓reduceIte, if_true, Bool.false_eq_true, if_false, PA_get, penC, List.length_map, hd, p18]
    exact body
def greatA : Mo D := (mOpW tAdd (mVal (mOp tMul (mC (.int 2)) (mOp tSub (m1 tAbs (mV 4)) (mOp tPow (mC (.int 10)) (mC (.int 18)))))) (mVal (m1 tInt (mOp tLt (mV 4) (mC (.int 0))))))
theorem greatA_ok {nc : Nat} {many at_ cell : Int} {x2 x5 x6 : Sl} (h : 1000000000000000000 ≤ cell.natAbs) (A : AH) : ∃ g : Int, 0 ≤ g ∧ greatA [.val (.ref nc), .val (.int many), x2, .val (.int at_), .val (.int cell), x5, x6] A = .ok (.int g) [.val (.ref nc), .val (.int many), x2, .val (.int at_), .val (.int cell), x5, x6] A := by
  have p18 : tPow (.int 10) (.int 18) = some (.int 1000000000000000000) := to_pow (by decide)
  have m2 : ∀ i : Int, tMul (.int 2) (.int i) = some (.int (2 * i)) := fun i => to_mul (mulL (by decide) (by decide))
  refine ⟨2 * ((if cell < 0 then -cell else cell) - 1000000000000000000) + (if decide (cell < 0) = true then 1 else 0), ?_, ?_⟩
  · split <;> split <;> omega
  · unfold greatA
    simp only [xp_bind, rb_ok, rb_exc, rb_no, xp_ret, xp_oS, xp_oN, xp_c, xp_v, xp_b, xp_val, xp_op, xp_opw, xp_rd2, xp_rd1, xp_test, xp_ite, xp_and, xp_or, xp_not, xp_andV, xp_orV, xp_notV, xp_onB, xp_if, xp_un, xp_chain, xp_nil, xp_cons, xp_lst, xp_tup, xp_noP, xp_part, xp_sl, xp_1, xp_1W, xp_cbn, xp_is, xp_fld, xp_xf, xp_call, xp_callC, xp_calm, xp_callK, xp_callF, bk_ok, bk_exc, xp_prop, xp_isIns, xp_meth, xp_new, xp_newA, xp_lstC, xp_app, xp_isLst, xp_updS, xp_updR, rd_s, rd_ref, rd_non, rd_bl, rd_int, rd_str, rd_lst, rd_tup, rd_scr, rd_dct, rd_ins, rd_exv, xs_seq, sq_nx, sq_ret, sq_exc, as_E, ts_ok, ts_exc, as_next, as_ret, as_retN, as_do, as_set, as_if, as_ifS, as_for, as_forN, as_forC, fk_nx, fk_cnt, fk_brk, fk_ret, fk_exc, as_it, as_rng, as_asg, as_par, as_par2, as_setO, as_parO, as_parOK, as_ixSet, as_updK, as_fldSet, as_raise1, as_raise1', as_frzO, tf_nx, tf_ret, tf_exc, ti_exc, as_yes, xp_lcV, xp_lstO, xp_tupO, xp_lstCO, xp_lcRun, xp_lcEnd, xl_nil, xl_cons, xl_1, xl_1f, xl_2, ix_0, ix_1, ix_2, ix_3, to_addI, to_sub, to_le, to_gt, to_ge, to_lt, to_ixL, to_ixT, to_abs, to_int, to_intB, to_lenL, to_lenT, to_lenZ, to_isN, to_allL, to_eqI, to_neI, to_neInts, to_eqInts, to_put0, to_put1, to_put2, wipeT, putBack, tNm, tNo, tCn, tAny, Option.bind_some, startT, startI, List.map_cons, List.map_nil, List.length_cons, List.length_nil, List.cons_append, List.nil_append, List.append_nil, List.getElem?_cons_zero, List.getElem?_cons_succ, List.set_cons_zero, List.set_cons_succ, Nat.reduceAdd, Nat.reduceSub, Nat.reduceEqDiff, Nat.reduceLeDiff, Nat.reduceLT, List.length_append, List.replicate_zero, List.replicate_succ, cellD, blO, intO, itAny, ↓reduceIte, if_true, Bool.false_eq_true, if_false, p18, m2]
/-- digit = .., pen[2] = .., return digit; if pen[0] != [] .. -/
def drawA (a1 a0 k1 k2 k3 e1 w1 f1 f2 f3 e2 w2 dv : Int) : Ms :=
  (mSeq (mIfS (mTest (mOp tGt (mOpW tIx (mB 0) (mVal (mC (.int 2)))) (mC (.int 0))))
  (mSeq (mSet 2 (mOp tMod (m1 tInt (mOpW tIx (mB 0) (mVal (mC (.int 2))))) (mV 1)))
  (mSeq (mIxSet (mOp tDiv (m1 tInt (mOpW tIx (mB 0) (mVal (mC (.int 2))))) (mV 1)) (mB 0) (mC (.int 2)))
  (mRetV (mV 2))))
  mNext)
  (mSeq (mSet 3 (mOpW tIx (mB 0) (mVal (mC (.int 1)))))
  (mSeq (mIxSet (mOpW tAdd (mB 3) (mVal (mC (.int 1)))) (mB 0) (mC (.int 1)))
  (mSeq (mSet 4 (mOpW tAdd (mVal (mOp tMul (mC (.int a1)) (mV 3))) (mVal (mC (.int a0)))))
  (mSeq (mIfS (mTest (mOpW (tEq true) (mVal (mOpW tIx (mB 0) (mVal (mC (.int 0))))) (mVal (mLst mNil))))
  (mSet 4 (mOpW tIx (mVal (mOpW tIx (mB 0) (mVal (mC (.int 0))))) (mVal (mOp tMod (m1 tInt (mV 3)) (m1W tLen (mVal (mOpW tIx (mB 0) (mVal (mC (.int 0))))))))))
  mNext)
  (tailT greatA k1 k2 k3 e1 w1 f1 f2 f3 e2 w2 dv tGe))))))
theorem lst0 : lstO [] = some (.lst []) := to_lst (by decide)
theorem drawA_ok {nc b : Nat} {q : Q} {many : Int} {a1 a0 k1 k2 k3 e1 w1 f1 f2 f3 e2 w2 dv : Int} (N : Nums k1 k2 k3 e1 w1 f1 f2 f3 e2 w2 dv) (ha : 0 ≤ a1 ∧ a1 < 131072) (hq : OkQ b q) (hb : b ≤ 4000000) (hm : 0 < many) (hl : many.natAbs.log2 < 9000) :
    Fine nc b many (runF 2 7 (drawA a1 a0 k1 k2 k3 e1 w1 f1 f2 f3 e2 w2 dv) [.ref nc, .int many] (PA nc q)) := by
  obtain ⟨ns, at_, rest⟩ := q
  obtain ⟨h0, h1, h2⟩ := hq
  simp only at h0 h1 h2
  have md : ∀ i : Int, tMod (.int i) (.int many) = some (.int (i % many)) := fun i => to_mod hm
  have dvm : ∀ i : Int, tDiv (.int i) (.int many) = some (.int (i / many)) := fun i => to_div hm hl
  have m1 : tMul (.int a1) (.int at_) = some (.int (a1 * at_)) := to_mul (mulL (by omega) (by omega))
  have sP : ∀ {t r t' r' : Int}, (PA nc ⟨ns, t, r⟩).set nc (some (.lst [.lst (ns.map .int), .int t', .int r'])) = PA nc ⟨ns, t', r'⟩ := fun {t r t' r'} => PA_set (q := ⟨ns, t, r⟩) (q' := ⟨ns, t', r'⟩)
  rw [run_F (by rfl)]
  unfold drawA
  by_cases hr : 0 < rest
  · have h5 : decide (0 < rest) = true := decide_eq_true hr
    simp only [xp_bind, rb_ok, rb_exc, rb_no, xp_ret, xp_oS, xp_oN, xp_c, xp_v, xp_b, xp_val, xp_op, xp_opw, xp_rd2, xp_rd1, xp_test, xp_ite, xp_and, xp_or, xp_not, xp_andV, xp_orV, xp_notV, xp_onB, xp_if, xp_un, xp_chain, xp_nil, xp_cons, xp_lst, xp_tup, xp_noP, xp_part, xp_sl, xp_1, xp_1W, xp_cbn, xp_is, xp_fld, xp_xf, xp_call, xp_callC, xp_calm, xp_callK, xp_callF, bk_ok, bk_exc, xp_prop, xp_isIns, xp_meth, xp_new, xp_newA, xp_lstC, xp_app, xp_isLst, xp_updS, xp_updR, rd_s, rd_ref, rd_non, rd_bl, rd_int, rd_str, rd_lst, rd_tup, rd_scr, rd_dct, rd_ins, rd_exv, xs_seq, sq_nx, sq_ret, sq_exc, as_E, ts_ok, ts_exc, as_next, as_ret, as_retN, as_do, as_set, as_if, as_ifS, as_for, as_forN, as_forC, fk_nx, fk_cnt, fk_brk, fk_ret, fk_exc, as_it, as_rng, as_asg, as_par, as_par2, as_setO, as_parO, as_parOK, as_ixSet, as_updK, as_fldSet, as_raise1, as_raise1', as_frzO, tf_nx, tf_ret, tf_exc, ti_exc, as_yes, xp_lcV, xp_lstO, xp_tupO, xp_lstCO, xp_lcRun, xp_lcEnd, xl_nil, xl_cons, xl_1, xl_1f, xl_2, ix_0, ix_1, ix_2, ix_3, to_addI, to_sub, to_le, to_gt, to_ge, to_lt, to_ixL, to_ixT, to_abs, to_int, to_intB, to_lenL, to_lenT, to_lenZ, to_isN, to_allL, to_eqI, to_neI, to_neInts, to_eqInts, to_put0, to_put1, to_put2, wipeT, putBack, tNm, tNo, tCn, tAny, Option.bind_some, startT, startI, List.map_cons, List.map_nil, List.length_cons, List.length_nil, List.cons_append, List.nil_append, List.append_nil, List.getElem?_cons_zero, List.getElem?_cons_succ, List.set_cons_zero, List.set_cons_succ, Nat.reduceAdd, Nat.reduceSub, Nat.reduceEqDiff, Nat.reduceLeDiff, Nat.reduceLT, List.length_append, List.replicate_zero, List.replicate_succ, cellD, blO, intO, itAny, ↓reduceIte, if_true, Bool.false_eq_true, if_false, PA_get, penC, md, dvm, h5, sP]
    exact fine_mk (b := b) (ns := ns) (t := at_) hm rfl h0 (by omega) (Int.ediv_nonneg h2 (by omega))
  · have h5 : decide (0 < rest) = false := decide_eq_false hr
    obtain rfl : rest = 0 := by omega
    have go : ∀ cell : Int, Fine nc b many ((tailT greatA k1 k2 k3 e1 w1 f1 f2 f3 e2 w2 dv tGe [.val (.ref nc), .val (.int many), .no, .val (.int at_), .val (.int cell), .no, .no] (PA nc ⟨ns, at_ + 1, 0⟩)).toF) := fun cell =>
      tail_ok N h0 h1 hb hm hl (fun i j => ⟨_, to_ge, fun z => of_decide_eq_true z⟩) fun hb A => greatA_ok hb A
    cases ns with
    | nil =>
      have sP0 : ∀ {t r t' r'}, (PA nc ⟨[], t, r⟩).set nc (some (.lst [.lst [], .int t', .int r'])) = PA nc ⟨[], t', r'⟩ := fun {t r t' r'} => sP
      have e0 : tEq true (.lst []) (.lst []) = some (.bl false) := to_neInts (ns := [])
      simp only [xp_bind, rb_ok, rb_exc, rb_no, xp_ret, xp_oS, xp_oN, xp_c, xp_v, xp_b, xp_val, xp_op, xp_opw, xp_rd2, xp_rd1, xp_test, xp_ite, xp_and, xp_or, xp_not, xp_andV, xp_orV, xp_notV, xp_onB, xp_if, xp_un, xp_chain, xp_nil, xp_cons, xp_lst, xp_tup, xp_noP, xp_part, xp_sl, xp_1, xp_1W, xp_cbn, xp_is, xp_fld, xp_xf, xp_call, xp_callC, xp_calm, xp_callK, xp_callF, bk_ok, bk_exc, xp_prop, xp_isIns, xp_meth, xp_new, xp_newA, xp_lstC, xp_app, xp_isLst, xp_updS, xp_updR, rd_s, rd_ref, rd_non, rd_bl, rd_int, rd_str, rd_lst, rd_tup, rd_scr, rd_dct, rd_ins, rd_exv, xs_seq, sq_nx, sq_ret, sq_exc, as_E, ts_ok, ts_exc, as_next, as_ret, as_retN, as_do, as_set, as_if, as_ifS, as_for, as_forN, as_forC, fk_nx, fk_cnt, fk_brk, fk_ret, fk_exc, as_it, as_rng, as_asg, as_par, as_par2, as_setO, as_parO, as_parOK, as_ixSet, as_updK, as_fldSet, as_raise1, as_raise1', as_frzO, tf_nx, tf_ret, tf_exc, ti_exc, as_yes, xp_lcV, xp_lstO, xp_tupO, xp_lstCO, xp_lcRun, xp_lcEnd, xl_nil, xl_cons, xl_1, xl_1f, xl_2, ix_0, ix_1, ix_2, ix_3, to_addI, to_sub, to_le, to_gt, to_ge, to_lt, to_ixL, to_ixT, to_abs, to_int, to_intB, to_lenL, to_lenT, to_lenZ, to_isN, to_allL, to_eqI, to_neI, to_neInts, to_eqInts, to_put0, to_put1, to_put2, wipeT, putBack, tNm, tNo, tCn, tAny, Option.bind_some, startT, startI, List.map_cons, List.map_nil, List.length_cons, List.length_nil, List.cons_append, List.nil_append, List.append_nil, List.getElem?_cons_zero, List.getElem?_cons_succ, List.set_cons_zero, List.set_cons_succ, Nat.reduceAdd, Nat.reduceSub, Nat.reduceEqDiff, Nat.reduceLeDiff, Nat.reduceLT, List.length_append, List.replicate_zero, List.replicate_succ, cellD, blO, intO, itAny, ↓reduceIte, if_true, Bool.false_eq_true, if_false, PA_get, penC, h5, sP0, m1, lst0, e0]
      exact go _
    | cons n ns =>
      have hl0 : (0 : Int) < ((n :: ns).length : Int) := by rw [List.length_cons]; omega
      have e1 : tMod (.int at_) (.int ((n :: ns).length : Int)) = some (.int (at_ % ((n :: ns).length : Int))) := to_mod hl0
      have e2 : L2.atI ((n :: ns).map D.int) (at_ % ((n :: ns).length : Int)) = some (.int ((n :: ns).getD (at_ % ((n :: ns).length : Int)).toNat 0)) := ix_ints (Int.emod_nonneg _ (by omega)) (Int.emod_lt_of_pos _ hl0)
      have e3 : (n :: ns).isEmpty = false := id rfl
      generalize n :: ns = l at *
      simp only [xp_bind, rb_ok, rb_exc, rb_no, xp_ret, xp_oS, xp_oN, xp_c, xp_v, xp_b, xp_val, xp_op, xp_opw, xp_rd2, xp_rd1, xp_test, xp_ite, xp_and, xp_or, xp_not, xp_andV, xp_orV, xp_notV, xp_onB, xp_if, xp_un, xp_chain, xp_nil, xp_cons, xp_lst, xp_tup, xp_noP, xp_part, xp_sl, xp_1, xp_1W, xp_cbn, xp_is, xp_fld, xp_xf, xp_call, xp_callC, xp_calm, xp_callK, xp_callF, bk_ok, bk_exc, xp_prop, xp_isIns, xp_meth, xp_new, xp_newA, xp_lstC, xp_app, xp_isLst, xp_updS, xp_updR, rd_s, rd_ref, rd_non, rd_bl, rd_int, rd_str, rd_lst, rd_tup, rd_scr, rd_dct, rd_ins, rd_exv, xs_seq, sq_nx, sq_ret, sq_exc, as_E, ts_ok, ts_exc, as_next, as_ret, as_retN, as_do, as_set, as_if, as_ifS, as_for, as_forN, as_forC, fk_nx, fk_cnt, fk_brk, fk_ret, fk_exc, as_it, as_rng, as_asg, as_par, as_par2, as_setO, as_parO, as_parOK, as_ixSet, as_updK, as_fldSet, as_raise1, as_raise1', as_frzO, tf_nx, tf_ret, tf_exc, ti_exc, as_yes, xp_lcV, xp_lstO, xp_tupO, xp_lstCO, xp_lcRun, xp_lcEnd, xl_nil, xl_cons, xl_1, xl_1f, xl_2, ix_0, ix_1, ix_2, ix_3, to_addI, to_sub, to_le, to_gt, to_ge, to_lt, to_ixL, to_ixT, to_abs, to_int, to_intB, to_lenL, to_lenT, to_lenZ, to_isN, to_allL, to_eqI, to_neI, to_neInts, to_eqInts, to_put0, to_put1, to_put2, wipeT, putBack, tNm, tNo, tCn, tAny, Option.bind_some, startT, startI, List.map_cons, List.map_nil, List.length_cons, List.length_nil, List.cons_append, List.nil_append, List.append_nil, List.getElem?_cons_zero, List.getElem?_cons_succ, List.set_cons_zero, List.set_cons_succ, Nat.reduceAdd, Nat.reduceSub, Nat.reduceEqDiff, Nat.reduceLeDiff, Nat.reduceLT, List.length_append, List.replicate_zero, List.replicate_succ, cellD, blO, intO, itAny, ↓reduceIte, if_true, Bool.false_eq_true, if_false, PA_get, penC, h5, sP, m1, lst0, e3, Bool.not_false, List.length_map, e1, e2]
      exact go _
end Fl

set_option Elab.async false
set_option linter.all false
set_option maxRecDepth 100000
set_option maxHeartbeats 2000000
/-! E15: isinstance of built-in kinds; loops by what is kept. (printed by mkE15.py) -/
namespace Fl
open PySem
open Dl (D Cell typeD)
theorem is_ty {tab : Tab} {d : D} {n a : String} {b : Bool} (h : typeD d = some a) (h2 : L2.kitB a n = some b) : tIs tab (.ty n) d = some (.bl b) := by
  have e : tyT tab d (.ty n) = some b := by
    cases d <;> first | (cases h; exact h2) | cases h
  show (tyT tab d (.ty n)).map D.bl = _
  rw [e]
  exact id rfl
theorem it_int_non {tab : Tab} : tIs tab (.ty "int") .non = some (.bl false) := is_ty rfl (by decide +kernel)
theorem it_int_bl {tab : Tab} {x : Bool} : tIs tab (.ty "int") (.bl x) = some (.bl true) := is_ty rfl (by decide +kernel)
theorem it_int_int {tab : Tab} {x : Int} : tIs tab (.ty "int") (.int x) = some (.bl true) := is_ty rfl (by decide +kernel)
theorem it_int_str {tab : Tab} {x : Str} : tIs tab (.ty "int") (.str x) = some (.bl false) := is_ty rfl (by decide +kernel)
theorem it_int_lst {tab : Tab} {x : List D} : tIs tab (.ty "int") (.lst x) = some (.bl false) := is_ty rfl (by decide +kernel)
theorem it_int_scr {tab : Tab} {x : List Int} : tIs tab (.ty "int") (.scr x) = some (.bl false) := is_ty rfl (by decide +kernel)
theorem it_int_tup {tab : Tab} {x : List D} : tIs tab (.ty "int") (.tup x) = some (.bl false) := is_ty rfl (by decide +kernel)
theorem it_int_dct {tab : Tab} {x : List (L2.Key × D)} : tIs tab (.ty "int") (.dct x) = some (.bl false) := is_ty rfl (by decide +kernel)
theorem it_bool_non {tab : Tab} : tIs tab (.ty "bool") .non = some (.bl false) := is_ty rfl (by decide +kernel)
theorem it_bool_bl {tab : Tab} {x : Bool} : tIs tab (.ty "bool") (.bl x) = some (.bl true) := is_ty rfl (by decide +kernel)
theorem it_bool_int {tab : Tab} {x : Int} : tIs tab (.ty "bool") (.int x) = some (.bl false) := is_ty rfl (by decide +kernel)
theorem it_bool_str {tab : Tab} {x : Str} : tIs tab (.ty "bool") (.str x) = some (.bl false) := is_ty rfl (by decide +kernel)
theorem it_bool_lst {tab : Tab} {x : List D} : tIs tab (.ty "bool") (.lst x) = some (.bl false) := is_ty rfl (by decide +kernel)
theorem it_bool_scr {tab : Tab} {x : List Int} : tIs tab (.ty "bool") (.scr x) = some (.bl false) := is_ty rfl (by decide +kernel)
theorem it_bool_tup {tab : Tab} {x : List D} : tIs tab (.ty "bool") (.tup x) = some (.bl false) := is_ty rfl (by decide +kernel)
theorem it_bool_dct {tab : Tab} {x : List (L2.Key × D)} : tIs tab (.ty "bool") (.dct x) = some (.bl false) := is_ty rfl (by decide +kernel)
theorem it_str_non {tab : Tab} : tIs tab (.ty "str") .non = some (.bl false) := is_ty rfl (by decide +kernel)
theorem it_str_bl {tab : Tab} {x : Bool} : tIs tab (.ty "str") (.bl x) = some (.bl false) := is_ty rfl (by decide +kernel)
theorem it_str_int {tab : Tab} {x : Int} : tIs tab (.ty "str") (.int x) = some (.bl false) := is_ty rfl (by decide +kernel)
theorem it_str_str {tab : Tab} {x : Str} : tIs tab (.ty "str") (.str x) = some (.bl true) := is_ty rfl (by decide +kernel)
theorem it_str_lst {tab : Tab} {x : List D} : tIs tab (.ty "str") (.lst x) = some (.bl false) := is_ty rfl (by decide +kernel)
theorem it_str_scr {tab : Tab} {x : List Int} : tIs tab (.ty "str") (.scr x) = some (.bl false) := is_ty rfl (by decide +kernel)
theorem it_str_tup {tab : Tab} {x : List D} : tIs tab (.ty "str") (.tup x) = some (.bl false) := is_ty rfl (by decide +kernel)
theorem it_str_dct {tab : Tab} {x : List (L2.Key × D)} : tIs tab (.ty "str") (.dct x) = some (.bl false) := is_ty rfl (by decide +kernel)
theorem it_tuple_non {tab : Tab} : tIs tab (.ty "tuple") .non = some (.bl false) := is_ty rfl (by decide +kernel)
theorem it_tuple_bl {tab : Tab} {x : Bool} : tIs tab (.ty "tuple") (.bl x) = some (.bl false) := is_ty rfl (by decide +kernel)
theorem it_tuple_int {tab : Tab} {x : Int} : tIs tab (.ty "tuple") (.int x) = some (.bl false) := is_ty rfl (by decide +kernel)
theorem it_tuple_str {tab : Tab} {x : Str} : tIs tab (.ty "tuple") (.str x) = some (.bl false) := is_ty rfl (by decide +kernel)
theorem it_tuple_lst {tab : Tab} {x : List D} : tIs tab (.ty "tuple") (.lst x) = some (.bl false) := is_ty rfl (by decide +kernel)
theorem it_tuple_scr {tab : Tab} {x : List Int} : tIs tab (.ty "tuple") (.scr x) = some (.bl false) := is_ty rfl (by decide +kernel)
theorem it_tuple_tup {tab : Tab} {x : List D} : tIs tab (.ty "tuple") (.tup x) = some (.bl true) := is_ty rfl (by decide +kernel)
theorem it_tuple_dct {tab : Tab} {x : List (L2.Key × D)} : tIs tab (.ty "tuple") (.dct x) = some (.bl false) := is_ty rfl (by decide +kernel)
theorem it_list_non {tab : Tab} : tIs tab (.ty "list") .non = some (.bl false) := is_ty rfl (by decide +kernel)
theorem it_list_bl {tab : Tab} {x : Bool} : tIs tab (.ty "list") (.bl x) = some (.bl false) := is_ty rfl (by decide +kernel)
theorem it_list_int {tab : Tab} {x : Int} : tIs tab (.ty "list") (.int x) = some (.bl false) := is_ty rfl (by decide +kernel)
theorem it_list_str {tab : Tab} {x : Str} : tIs tab (.ty "list") (.str x) = some (.bl false) := is_ty rfl (by decide +kernel)
theorem it_list_lst {tab : Tab} {x : List D} : tIs tab (.ty "list") (.lst x) = some (.bl true) := is_ty rfl (by decide +kernel)
theorem it_list_scr {tab : Tab} {x : List Int} : tIs tab (.ty "list") (.scr x) = some (.bl true) := is_ty rfl (by decide +kernel)
theorem it_list_tup {tab : Tab} {x : List D} : tIs tab (.ty "list") (.tup x) = some (.bl false) := is_ty rfl (by decide +kernel)
theorem it_list_dct {tab : Tab} {x : List (L2.Key × D)} : tIs tab (.ty "list") (.dct x) = some (.bl false) := is_ty rfl (by decide +kernel)
theorem it_dict_non {tab : Tab} : tIs tab (.ty "dict") .non = some (.bl false) := is_ty rfl (by decide +kernel)
theorem it_dict_bl {tab : Tab} {x : Bool} : tIs tab (.ty "dict") (.bl x) = some (.bl false) := is_ty rfl (by decide +kernel)
theorem it_dict_int {tab : Tab} {x : Int} : tIs tab (.ty "dict") (.int x) = some (.bl false) := is_ty rfl (by decide +kernel)
theorem it_dict_str {tab : Tab} {x : Str} : tIs tab (.ty "dict") (.str x) = some (.bl false) := is_ty rfl (by decide +kernel)
theorem it_dict_lst {tab : Tab} {x : List D} : tIs tab (.ty "dict") (.lst x) = some (.bl false) := is_ty rfl (by decide +kernel)
theorem it_dict_scr {tab : Tab} {x : List Int} : tIs tab (.ty "dict") (.scr x) = some (.bl false) := is_ty rfl (by decide +kernel)
theorem it_dict_tup {tab : Tab} {x : List D} : tIs tab (.ty "dict") (.tup x) = some (.bl false) := is_ty rfl (by decide +kernel)
theorem it_dict_dct {tab : Tab} {x : List (L2.Key × D)} : tIs tab (.ty "dict") (.dct x) = some (.bl true) := is_ty rfl (by decide +kernel)
theorem is_own {tab : Tab} {d : D} {a : String} {c : Nat} {b : Bool} (h : typeD d = some a) (h2 : tab.tc a c = some b) : tIs tab (.ref c) d = some (.bl b) := by
  have e : tyT tab d (.ref c) = some b := by
    cases d <;> first | (cases h; exact h2) | cases h
  show (tyT tab d (.ref c)).map D.bl = _
  rw [e]
  exact id rfl
/-! ### loops -/
theorem for_search {t : Tg} {b : Ms} {A : AH} {G : SG → Prop} {p : D → Bool} {r : D} : ∀ (xs : List D) (Γ : SG), G Γ →
    (∀ x ∈ xs, ∀ Γ, G Γ → ∃ Γ1, t x Γ = some Γ1 ∧ ((p x = true ∧ ∃ Γ2, b Γ1 A = .ret r Γ2 A) ∨ (p x = false ∧ ∃ Γ2, b Γ1 A = .nx Γ2 A ∧ G Γ2))) →
    (xs.any p = true → ∃ Γ', mForL t b xs Γ A = .ret r Γ' A) ∧ (xs.any p = false → ∃ Γ', mForL t b xs Γ A = .nx Γ' A ∧ G Γ')
  | [], Γ, hG, _ => ⟨fun h => (by cases h), fun _ => ⟨Γ, id rfl, hG⟩⟩
  | x :: xs, Γ, hG, h => by
    obtain ⟨Γ1, e1, h1⟩ := h x List.mem_cons_self Γ hG
    rw [as_forC, e1, List.any_cons]
    show (_ → ∃ Γ', forK t b xs (b Γ1 A) = _) ∧ (_ → ∃ Γ', forK t b xs (b Γ1 A) = _ ∧ _)
    rcases h1 with ⟨hp, Γ2, e2⟩ | ⟨hp, Γ2, e2, h2⟩
    · rw [hp, e2]
      exact ⟨fun _ => ⟨Γ2, id rfl⟩, fun z => (by cases z)⟩
    · rw [hp, e2, Bool.false_or]
      exact for_search xs Γ2 h2 fun y hy => h y (List.mem_cons_of_mem _ hy)
/-- until something ends it -/
theorem for_run {t : Tg} {b : Ms} {J : Nat → SG → AH → Prop} {E : RS → Prop} : ∀ (xs : List D) (n : Nat) (Γ : SG) (A : AH), J n Γ A →
    (∀ (i : Nat) (x : D), xs[i]? = some x → ∀ Γ A, J (n + i) Γ A → ∃ Γ1, t x Γ = some Γ1 ∧ ((∃ Γ2 A2, b Γ1 A = .nx Γ2 A2 ∧ J (n + i + 1) Γ2 A2) ∨ (∃ r, b Γ1 A = r ∧ E r ∧ ((∃ d Γ2 A2, r = .ret d Γ2 A2) ∨ ∃ C fs Γ2 A2, r = .exc C fs Γ2 A2)))) →
    (∃ Γ' A', mForL t b xs Γ A = .nx Γ' A' ∧ J (n + xs.length) Γ' A') ∨ E (mForL t b xs Γ A)
  | [], n, Γ, A, hJ, _ => .inl ⟨Γ, A, id rfl, hJ⟩
  | x :: xs, n, Γ, A, hJ, h => by
    obtain ⟨Γ1, e1, h1⟩ := h 0 x (id rfl) Γ A hJ
    rw [as_forC, e1]
    show (∃ Γ' A', forK t b xs (b Γ1 A) = _ ∧ _) ∨ E (forK t b xs (b Γ1 A))
    rcases h1 with ⟨Γ2, A2, e2, h2⟩ | ⟨r, e2, h2, hr⟩
    · rw [e2, fk_nx, List.length_cons, ← Nat.add_assoc, Nat.add_right_comm]
      refine for_run xs (n + 1) Γ2 A2 h2 fun i y hy Γ A hJ => ?_
      have hq := h (i + 1) y (by rw [List.getElem?_cons_succ]; exact hy) Γ A (by rw [← Nat.add_assoc, Nat.add_right_comm]; exact hJ)
      rw [← Nat.add_assoc, Nat.add_right_comm n i 1] at hq
      exact hq
    · rw [e2]
      right
      rcases hr with ⟨d, Γ2, A2, rfl⟩ | ⟨C, fs, Γ2, A2, rfl⟩
      · exact h2
      · exact h2
end Fl

set_option Elab.async false
set_option linter.all false
set_option maxRecDepth 100000
set_option maxHeartbeats 4000000
/-! E16: the pen, the pick; a try. -/
namespace Fl
open PySem
open Dl (D Cell eqOk eqD flatD inD rngD putD)
def tryK (em : Nat → Option Bool) (i j : Nat) (r : R D) : RS := match r with
  | .ok _ Γ' A' => .nx Γ' A'
  | .exc C fs Γ' A' => keepX em i j C fs Γ' A'
  | .no => .no
theorem as_tryE {em : Nat → Option Bool} {i j : Nat} {m : Mo D} {Γ : SG} {A : AH} : mTryE em i j m Γ A = if i < Γ.length then tryK em i j (m Γ A) else .no := by
  unfold mTryE tryK
  split
  · cases m Γ A <;> exact id rfl
  · exact id rfl
theorem as_tryOk {em : Nat → Option Bool} {i j : Nat} {d : D} {Γ : SG} {A : AH} : tryK em i j (.ok d Γ A) = .nx Γ A := id rfl
theorem as_tryX {em : Nat → Option Bool} {i j C : Nat} {fs : List (Str × D)} {Γ : SG} {A : AH} : tryK em i j (.exc C fs Γ A) = keepX em i j C fs Γ A := id rfl
theorem as_keepX {em : Nat → Option Bool} {i j C : Nat} {fs : List (Str × D)} {Γ : SG} {A : AH} : keepX em i j C fs Γ A = (match em C with | some true => .nx ((Γ.set i .no).set j (.val (.exv C fs))) A | some false => .exc C fs Γ A | none => .no) := id rfl
def pickA (F : Fn) : Ms := (mRetV (mOpW tIx (mB 1) (mVal (mCall F [] (mCons (mV 0) (mCons (m1W tLen (mB 1)) mNil))))))
theorem log_len {n : Nat} (h : n ≤ 16777216) : (n : Int).natAbs.log2 < 9000 := by
  by_cases h0 : n = 0
  · subst h0
    decide
  · exact log_small (by omega) (by omega)
theorem pickA_ok {F : Fn} {nc b : Nat} {q : Q} {xs : List D} {P : D → Prop} (hF : ∀ many : Int, 0 < many → many.natAbs.log2 < 9000 → Fine nc b many (F [.ref nc, .int many] (PA nc q))) (h0 : 0 < xs.length) (hl : xs.length ≤ 16777216) (hP : ∀ d ∈ xs, P d) : ∃ d q', runF 2 2 (pickA F) [.ref nc, .lst xs] (PA nc q) = .ok d (PA nc q') ∧ P d ∧ OkQ (b + 1) q' := by
  obtain ⟨v, q', e, v0, v1, hq'⟩ := hF (xs.length : Int) (by omega) (log_len hl)
  have hi : L2.atI xs v = some (xs[v.toNat]'(by omega)) := by
    rw [ix_at v0 v1, List.getElem?_eq_getElem (by omega)]
  have hm : xs[v.toNat]'(by omega) ∈ xs := List.getElem_mem _
  generalize xs[v.toNat]'(by omega) = d at hi hm
  refine ⟨d, q', ?_, hP _ hm, hq'⟩
  rw [run_F (by rfl)]
  unfold pickA
  simp only [xp_bind, rb_ok, rb_exc, rb_no, xp_ret, xp_oS, xp_oN, xp_c, xp_v, xp_b, xp_val, xp_op, xp_opw, xp_rd2, xp_rd1, xp_test, xp_ite, xp_and, xp_or, xp_not, xp_andV, xp_orV, xp_notV, xp_onB, xp_if, xp_un, xp_chain, xp_nil, xp_cons, xp_lst, xp_tup, xp_noP, xp_part, xp_sl, xp_1, xp_1W, xp_cbn, xp_is, xp_fld, xp_xf, xp_call, xp_callC, xp_calm, xp_callK, xp_callF, bk_ok, bk_exc, xp_prop, xp_isIns, xp_meth, xp_new, xp_newA, xp_lstC, xp_app, xp_isLst, xp_updS, xp_updR, rd_s, rd_ref, rd_non, rd_bl, rd_int, rd_str, rd_lst, rd_tup, rd_scr, rd_dct, rd_ins, rd_exv, xs_seq, sq_nx, sq_ret, sq_exc, as_E, ts_ok, ts_exc, as_next, as_ret, as_retN, as_do, as_set, as_if, as_ifS, as_for, as_forN, as_forC, fk_nx, fk_cnt, fk_brk, fk_ret, fk_exc, as_it, as_rng, as_asg, as_par, as_par2, as_setO, as_parO, as_parOK, as_ixSet, as_updK, as_fldSet, as_raise1, as_raise1', as_frzO, tf_nx, tf_ret, tf_exc, ti_exc, as_yes, xp_lcV, xp_lstO, xp_tupO, xp_lstCO, xp_lcRun, xp_lcEnd, xl_nil, xl_cons, xl_1, xl_1f, xl_2, ix_0, ix_1, ix_2, ix_3, to_addI, to_sub, to_le, to_gt, to_ge, to_lt, to_ixL, to_ixT, to_abs, to_int, to_intB, to_lenL, to_lenT, to_lenZ, to_isN, to_allL, to_eqI, to_neI, to_neInts, to_eqInts, to_put0, to_put1, to_put2, wipeT, putBack, tNm, tNo, tCn, tAny, Option.bind_some, startT, startI, List.map_cons, List.map_nil, List.length_cons, List.length_nil, List.cons_append, List.nil_append, List.append_nil, List.getElem?_cons_zero, List.getElem?_cons_succ, List.set_cons_zero, List.set_cons_succ, Nat.reduceAdd, Nat.reduceSub, Nat.reduceEqDiff, Nat.reduceLeDiff, Nat.reduceLT, List.length_append, List.replicate_zero, List.replicate_succ, cellD, blO, intO, itAny, ↓reduceIte, if_true, Bool.false_eq_true, if_false, e, hi]
def penA : Ms := (mRetV (mNew (mLstC (mCons (m1W tList (mVal (mSl (mB 0) mNoP (mPart (mC (.int 63)))))) (mCons (mC (.int 0)) (mCons (mC (.int 0)) mNil))))))
theorem as_new {m : Mo Cell} {Γ : SG} {A : AH} : mNew m Γ A = (m Γ A).bind newA := id rfl
theorem as_newA {c : Cell} {Γ : SG} {A : AH} : newA c Γ A = .ok (.ref A.length) Γ (A ++ [some c]) := id rfl
theorem cut_scr {ns : List Int} (h : ns.length ≤ 63) : tCut none (some 63) (.scr ns) = some (.lst (ns.map .int)) := by
  show some (D.lst ((Dl.cutD ns none (some 63)).map .int)) = _
  have e1 : HT.sIx ns.length 0 none = 0 := id rfl
  have e2 : HT.sIx ns.length ns.length (some 63) = ns.length := by
    unfold HT.sIx
    simp
    omega
  unfold Dl.cutD
  rw [e1, e2, List.drop_zero, Nat.sub_zero, List.take_length]
theorem penA_ok {nc : Nat} {ns : List Int} (h : ns.length ≤ 63) : runF 1 1 penA [.scr ns] (List.replicate nc none) = .ok (.ref nc) (PA nc ⟨ns, 0, 0⟩) := by
  have c := cut_scr h
  rw [run_F (by rfl)]
  unfold penA PA penC
  simp only [xp_bind, rb_ok, rb_exc, rb_no, xp_ret, xp_oS, xp_oN, xp_c, xp_v, xp_b, xp_val, xp_op, xp_opw, xp_rd2, xp_rd1, xp_test, xp_ite, xp_and, xp_or, xp_not, xp_andV, xp_orV, xp_notV, xp_onB, xp_if, xp_un, xp_chain, xp_nil, xp_cons, xp_lst, xp_tup, xp_noP, xp_part, xp_sl, xp_1, xp_1W, xp_cbn, xp_is, xp_fld, xp_xf, xp_call, xp_callC, xp_calm, xp_callK, xp_callF, bk_ok, bk_exc, xp_prop, xp_isIns, xp_meth, xp_new, xp_newA, xp_lstC, xp_app, xp_isLst, xp_updS, xp_updR, rd_s, rd_ref, rd_non, rd_bl, rd_int, rd_str, rd_lst, rd_tup, rd_scr, rd_dct, rd_ins, rd_exv, xs_seq, sq_nx, sq_ret, sq_exc, as_E, ts_ok, ts_exc, as_next, as_ret, as_retN, as_do, as_set, as_if, as_ifS, as_for, as_forN, as_forC, fk_nx, fk_cnt, fk_brk, fk_ret, fk_exc, as_it, as_rng, as_asg, as_par, as_par2, as_setO, as_parO, as_parOK, as_ixSet, as_updK, as_fldSet, as_raise1, as_raise1', as_frzO, tf_nx, tf_ret, tf_exc, ti_exc, as_yes, xp_lcV, xp_lstO, xp_tupO, xp_lstCO, xp_lcRun, xp_lcEnd, xl_nil, xl_cons, xl_1, xl_1f, xl_2, ix_0, ix_1, ix_2, ix_3, to_addI, to_sub, to_le, to_gt, to_ge, to_lt, to_ixL, to_ixT, to_abs, to_int, to_intB, to_lenL, to_lenT, to_lenZ, to_isN, to_allL, to_eqI, to_neI, to_neInts, to_eqInts, to_put0, to_put1, to_put2, wipeT, putBack, tNm, tNo, tCn, tAny, Option.bind_some, startT, startI, List.map_cons, List.map_nil, List.length_cons, List.length_nil, List.cons_append, List.nil_append, List.append_nil, List.getElem?_cons_zero, List.getElem?_cons_succ, List.set_cons_zero, List.set_cons_succ, Nat.reduceAdd, Nat.reduceSub, Nat.reduceEqDiff, Nat.reduceLeDiff, Nat.reduceLT, List.length_append, List.replicate_zero, List.replicate_succ, cellD, blO, intO, itAny, ↓reduceIte, if_true, Bool.false_eq_true, if_false, as_new, as_newA, c, tList, intO]
  rw [List.length_replicate]
end Fl

set_option Elab.async false
set_option linter.all false
set_option maxRecDepth 100000
set_option maxHeartbeats 4000000
/-! E17: own in, ==, !=, & and |. -/
namespace PySem.W
open PySem PySem.Calls PyProof.Rows Builtin
section
variable {prog : Program} {w : World} {A : Around} {E : Value → Shared → Prop} {s : Shared} {K : Frag} {x C L f : Addr} {h₀ : Heap} {m : Str → Option Value} {ox : Obj} {od : Option Obj} {b tb : Value}
theorem one_slot : Slot "object" "__ne__" "object.__ne__" := Slot.of (T := "object") (name := "__ne__") (owner := "object") (n := "__ne__") (by rw [typeLookup_type, builtinLookup_eq_fast]; kernel_rfl) (by decide +kernel) (by decide +kernel) (by decide +kernel)
    (.inl (by decide +kernel)) (by rw [isSubtype_type]; kernel_rfl)
theorem one_bind (self : Value) : bindSpecial (.builtin "object.__ne__") self = pure (.builtin "object.__ne__", [self]) := one_slot.bind self
/-- the builtin __ne__ asks the own __eq__ -/
theorem objNe_K {Q : Fin → Shared → Prop} (hu : A.units < cLine) (X : K.In s.heap) (I : InstAt s.heap x ox C od) (hs : findIn K (.ref C) "__eq__" = some (some (.ref f))) (hf : isFn K (.ref f) = true)
    (h : wpAny (model prog w) A (call (.ref f) [.ref x, b]) (fun v s' => ∃ r, v = .bool r ∧ Q (.done (.ret (.bool (!r)))) s') E s) :
    wpAny (model prog w) A (Builtin.«object.__ne__» ⟨[.ref x, b], []⟩) Q E s := by
  unfold Builtin.«object.__ne__»
  repeat (first
    | with_reducible refine wpAny_cRoomFor hu ?_
    | (refine wpAny_bind (m := callSpecialIfBound? (.ref x) (Str.ofString "__eq__") [b])
        (ifBound_K X I hs hf (wpAny_mono h (fun r s' hr => by
          obtain ⟨r', rfl, hq⟩ := hr
          repeat (first | exact hq | exact wpAny_pure hq | exact wpAny_truthy_bool hq | (refine wpAny_bind (m := truthy (.bool _)) (wpAny_truthy_bool ?_)) | wp_step)) fun _ _ e => e)))
    | wp_step)
theorem ifNe_K {Q : Option Value → Shared → Prop} (hu : A.units + 1 < cLine) (X : K.In s.heap) (I : InstAt s.heap x ox C od) (hn : findIn K (.ref C) "__ne__" = some (some (.builtin "object.__ne__"))) (ho : subIn K (.ref C) (.type "object") = some true)
    (hs : findIn K (.ref C) "__eq__" = some (some (.ref f))) (hf : isFn K (.ref f) = true)
    (h : wpAny (model prog w) A.in1 (call (.ref f) [.ref x, b]) (fun v s' => ∃ r, v = .bool r ∧ Q (some (.bool (!r))) s') E s) : wpAny (model prog w) A (callSpecialIfBound? (.ref x) "__ne__" [b]) Q E s := by
  simp only [callSpecialIfBound?, bindSpecialIfBound?]
  refine wpAny_holding (wpAny_bind (wpAny_bind (wpAny_bind (I.type.here ((looks_findIn X hn).here ?_)))))
  refine wpAny_bind (wpAny_askSetting (wpAny_ite ?_))
  have fin : wpAny (model prog w) A (call (.builtin "object.__ne__") ([.ref x] ++ [b]) >>= fun v => pure (some v)) Q E s := by
    refine wpAny_bind (wpAny_call (codeAny_call_builtin one_slot.plain F.cmpEntry_ne (check_slot (M := model prog w) F.cmpKind_ne F.cmpSplit_ne (I.type.andThen (looks_subIn X ho)) (F.cmpArgs_ne _ _) (objNe_K (A := A.in1) (by simpa using hu) X I hs hf (wpAny_mono h (fun v s' hv => ?_) fun _ _ e => e)))))
    obtain ⟨r, rfl, q⟩ := hv
    first | exact ⟨r, rfl, wpAny_pure q⟩ | exact ⟨r, rfl, wpAny_pure (wpAny_pure q)⟩ | exact ⟨r, rfl, q⟩
  split
  · exact wpAny_bind ((Looks.of_pure (one_bind _)).here (wpAny_pure (by exact fin)))
  · exact wpAny_tryCatch (wpAny_bind ((Looks.of_pure (one_bind _)).here (wpAny_pure (by exact fin))))
theorem ne_K {Q : Value → Shared → Prop} (hu : A.units + 1 < cLine) (F : Fr h₀ L s.heap m) (X₀ : K.In h₀) (I : InstAt s.heap x ox C od) (hb : Looks (model prog w) s.heap (typeOf b) tb) (hn : notFirst K C tb = true)
    (hne : findIn K (.ref C) "__ne__" = some (some (.builtin "object.__ne__"))) (ho : subIn K (.ref C) (.type "object") = some true)
    (hs : findIn K (.ref C) "__eq__" = some (some (.ref f))) (hf : isFn K (.ref f) = true)
    (h : wpAny (model prog w) A.in1 (call (.ref f) [.ref x, b]) (fun v s' => ∃ r, v = .bool r ∧ Q (.bool (!r)) s') E s) : wpAny (model prog w) A (richCompare .NotEq (.ref x) b) Q E s := by
  have X := X₀.keeps F.keep
  have one : wpAny (model prog w) A (tryCompare (.ref x) (cmpInfo .NotEq).2.1 b) (fun r s' => ∃ v, r = some v ∧ Q v s') E s := by
    unfold tryCompare
    refine wpAny_bind (ifNe_K hu X I hne ho hs hf (wpAny_mono h (fun v s' hv => ?_) fun _ _ e => e))
    obtain ⟨r, rfl, hq⟩ := hv
    exact ⟨r, rfl, wpAny_pure ⟨_, rfl, hq⟩⟩
  unfold richCompare
  simp only [oneThing_ref]
  refine wpAny_holding (wpAny_bind (wpAny_cRoomFor (Nat.lt_of_succ_lt hu) ?_))
  refine wpAny_bind (I.type.here (wpAny_bind (hb.here ?_)))
  split
  · rename_i q
    have e : subIn K tb (.ref C) = some false := by
      rcases Bool.or_eq_true_iff.mp hn with e | e
      · rw [beq_iff_eq.mp e] at q; simp at q
      · exact beq_iff_eq.mp e
    refine wpAny_bind ((looks_subIn X e).here ?_)
    simp only [Bool.false_eq_true, if_false]
    refine wpAny_bind (wpAny_mono one (fun r s' z => ?_) fun _ _ e => e)
    obtain ⟨v, rfl, hq⟩ := z
    exact wpAny_pure hq
  · refine wpAny_bind (wpAny_pure ?_)
    simp only [Bool.false_eq_true, if_false]
    refine wpAny_bind (wpAny_mono one (fun r s' z => ?_) fun _ _ e => e)
    obtain ⟨v, rfl, hq⟩ := z
    exact wpAny_pure hq
end
end PySem.W
namespace Dl
open PySem PySem.Spec PyProof.Rows L2
section
variable {X : Cx} {k : Nat} {C f : Addr} {fd : FuncData} {ps : List Str} {sp : Sp} {pf : FN} {E : L2.St → XK} {a b : Expr} {pos : Pos} {fa fb : FE}
/-- a def of two places called, nothing raised -/
theorem own_call {A : Around} {pins : List (Addr × Obj)} {σ : L2.St} {H : Hp} {s : Shared} {Q : VK} {E' : Value → Shared → Prop} {x y : V} {u v : Value} (I : L2.Inv X pins σ H s) (hA : A = X.A ∨ A = X.A.in1)
    (F : FnG X.prog X.w X.K X.mg X.base CX0 k f fd ps sp) (hgd : X.A.guards = some []) (hr : Room (k + 1) X.A) (hb : Binds X.K fd ps []) (rx : RelV x u) (ry : RelV y v) (h : sp [x, y] H Q E0) :
    wpAny (model X.prog X.w) A (call (.ref f) [u, v]) (EP X pins σ Q) E' s := by
  have hl : ([u, v] ++ ([] : List Value)).length = ps.length := F.len _ _ _ _ h
  have run : ∀ A : Around, A.guards = some [] → Room k A → Env0 X.prog X.w X.K X.mg X.base A X.stack s H → wpAny (model X.prog X.w) A (call (.ref f) [u, v]) (EP X pins σ Q) E' s := fun A g r e => by
    refine wpAny_call (codeAny_mono (F.run A X.stack s H ⟨[u, v], []⟩ [u, v] [x, y] Q E0 g r e (hb _ [u, v] I.kIn hl) (show Vals [x, y] [u, v] from .cons rx (.cons ry .nil)) h) fun r s' hq => ?_)
    match r, hq with
    | .error er, hq => exact hq.elim
    | .ok (.ret u), hq =>
      obtain ⟨v, H', I3, rv, q3⟩ := I.after hq
      exact ⟨v, H', I3, rv, q3⟩
  rcases hA with rfl | rfl
  · exact run _ hgd (hr.mono (Nat.le_succ k)) I.env0
  · exact run _ (by first | exact hgd | simpa using hgd) hr.in1 I.env0.in1
def rInO (C : Addr) (sp : Sp) (neg : Bool) : R2 := fun x y H Q => ∃ a dx fs, y = .ref a ∧ H a = some (.ins C dx fs) ∧ sp [y, x] H (fun v H' => ∃ r, v = .bl r ∧ Q (.bl (if neg = true then !r else r)) H') E0
theorem op_inO (hm : Meth X.K C "__contains__" f) (F : FnG X.prog X.w X.K X.mg X.base CX0 k f fd ps sp) (hgd : X.A.guards = some []) (hr : Room (k + 1) X.A) (hb : Binds X.K fd ps []) : OpR X (compareOp .In) (rInO C sp false) := by
  intro pins s σ H x y v u Q I rx ry ⟨a, dx, fs, ey, ha, h⟩
  subst ey
  cases (show u = Value.ref a from ry)
  obtain ⟨mA, O, _⟩ := ins_get I.hok ha
  obtain ⟨od, J, _⟩ := O.look
  obtain ⟨m, hF⟩ := I.fr
  refine PySem.W.in_K hF I.ok.mod.kin J hm.at_ hm.fn (wpAny_mono (own_call I (.inl rfl) F hgd hr hb ry rx h) (fun r s' z => ?_) fun _ _ x => x)
  obtain ⟨vv, H', I', rv, b, rfl, q⟩ := z
  cases (show r = Value.bool b from rv)
  exact wpAny_truthy_bool ⟨.bl b, H', I', rfl, q⟩
theorem op_ninO (hm : Meth X.K C "__contains__" f) (F : FnG X.prog X.w X.K X.mg X.base CX0 k f fd ps sp) (hgd : X.A.guards = some []) (hr : Room (k + 1) X.A) (hb : Binds X.K fd ps []) : OpR X (compareOp .NotIn) (rInO C sp true) := by
  intro pins s σ H x y v u Q I rx ry ⟨a, dx, fs, ey, ha, h⟩
  subst ey
  cases (show u = Value.ref a from ry)
  obtain ⟨mA, O, _⟩ := ins_get I.hok ha
  obtain ⟨od, J, _⟩ := O.look
  obtain ⟨m, hF⟩ := I.fr
  refine PySem.W.notIn_K hF I.ok.mod.kin J hm.at_ hm.fn (wpAny_mono (own_call I (.inl rfl) F hgd hr hb ry rx h) (fun r s' z => ?_) fun _ _ x => x)
  obtain ⟨vv, H', I', rv, b, rfl, q⟩ := z
  cases (show r = Value.bool b from rv)
  exact wpAny_truthy_bool ⟨.bl (!b), H', I', rfl, q⟩
/-- what the class of the second one must be -/
def TyN (K : PySem.W.Frag) (H : Hp) (C : Addr) (y : V) : Prop := ∃ t, TyX K H y t ∧ PySem.W.notFirst K C t = true
def rEqO (K : PySem.W.Frag) (C : Addr) (sp : Sp) : R2 := fun x y H Q => ∃ a dx fs, x = .ref a ∧ H a = some (.ins C dx fs) ∧ TyN K H C y ∧ sp [x, y] H Q E0
theorem back_of {v : V} {r : Value} {Q : Value → Shared → Prop} {s : Shared} (rv : RelV v r) (q : Q r s) : PySem.W.CmpBack Q r s := by
  cases v with
  | non => cases (show r = Value.none from rv); exact q
  | bl b => cases (show r = Value.bool b from rv); exact q
  | int i => obtain ⟨t, e⟩ := (show ∃ t, r = Value.int i t from rv); cases e; exact q
  | str i => obtain ⟨t, e⟩ := (show ∃ t, r = Value.str i t from rv); cases e; exact q
  | byt i => obtain ⟨t, e⟩ := (show ∃ t, r = Value.bytes i t from rv); cases e; exact q
  | flt i => obtain ⟨t, e⟩ := (show ∃ t, r = Value.float i t from rv); cases e; exact q
  | ref a => cases (show r = Value.ref a from rv); exact q
  | ty n => cases (show r = Value.type n from rv); exact q
theorem op_eqO (hm : Meth X.K C "__eq__" f) (F : FnG X.prog X.w X.K X.mg X.base CX0 k f fd ps sp) (hgd : X.A.guards = some []) (hr : Room (k + 1) X.A) (hb : Binds X.K fd ps []) : OpR X (compareOp .Eq) (rEqO X.K C sp) := by
  intro pins s σ H x y v u Q I rx ry ⟨a, dx, fs, ex, ha, ⟨t, ty, hn⟩, h⟩
  subst ex
  cases (show v = Value.ref a from rx)
  obtain ⟨mA, O, _⟩ := ins_get I.hok ha
  obtain ⟨od, J, _⟩ := O.look
  obtain ⟨m, hF⟩ := I.fr
  obtain ⟨P, kt, hP, _⟩ := kit_of I ry ty
  show wpAny _ _ (richCompare .Eq (.ref a) u) _ _ _
  refine PySem.W.cmp_K (op := .Eq) hr.units0 hF I.ok.mod.kin J (kt.ty _ _ I.kIn hP) hn hm.at_ hm.fn (wpAny_mono (own_call I (.inl rfl) F hgd hr hb rx ry h) (fun r s' z => ?_) fun _ _ x => x)
  obtain ⟨vv, H', I', rv, q⟩ := z
  exact back_of rv ⟨vv, H', I', rv, q⟩
def rNeO (K : PySem.W.Frag) (C : Addr) (sp : Sp) : R2 := fun x y H Q => ∃ a dx fs, x = .ref a ∧ H a = some (.ins C dx fs) ∧ TyN K H C y ∧ sp [x, y] H (fun v H' => ∃ r, v = .bl r ∧ Q (.bl (!r)) H') E0
structure NeOk (K : PySem.W.Frag) (C : Addr) : Prop where
  ne : PySem.W.findIn K (.ref C) "__ne__" = some (some (.builtin "object.__ne__"))
  ob : PySem.W.subIn K (.ref C) (.type "object") = some true
theorem op_neO (hm : Meth X.K C "__eq__" f) (hn : NeOk X.K C) (F : FnG X.prog X.w X.K X.mg X.base CX0 k f fd ps sp) (hgd : X.A.guards = some []) (hr : Room (k + 1) X.A) (hb : Binds X.K fd ps []) : OpR X (compareOp .NotEq) (rNeO X.K C sp) := by
  intro pins s σ H x y v u Q I rx ry ⟨a, dx, fs, ex, ha, ⟨t, ty, hnf⟩, h⟩
  subst ex
  cases (show v = Value.ref a from rx)
  obtain ⟨mA, O, _⟩ := ins_get I.hok ha
  obtain ⟨od, J, _⟩ := O.look
  obtain ⟨m, hF⟩ := I.fr
  obtain ⟨P, kt, hP, _⟩ := kit_of I ry ty
  show wpAny _ _ (richCompare .NotEq (.ref a) u) _ _ _
  refine PySem.W.ne_K (by have h9 := hr.in1.units0; exact h9) hF I.ok.mod.kin J (kt.ty _ _ I.kIn hP) hnf hn.ne hn.ob hm.at_ hm.fn (wpAny_mono (own_call I (.inr rfl) F hgd hr hb rx ry h) (fun r s' z => ?_) fun _ _ x => x)
  obtain ⟨vv, H', I', rv, b, rfl, q⟩ := z
  cases (show r = Value.bool b from rv)
  exact ⟨b, rfl, .bl (!b), H', I', rfl, q⟩
def rBinO (C : Addr) (sp : Sp) : R2 := fun x y H Q => ∃ a dx fs c dy gs, x = .ref a ∧ H a = some (.ins C dx fs) ∧ y = .ref c ∧ H c = some (.ins C dy gs) ∧ sp [x, y] H Q E0
theorem op_binO {op : Operator} (hm : Meth X.K C (PySem.dunder op.info.2) f) (hc : PySem.W.selfFirst X.K C = true) (F : FnG X.prog X.w X.K X.mg X.base CX0 k f fd ps sp) (hgd : X.A.guards = some []) (hr : Room (k + 1) X.A) (hb : Binds X.K fd ps []) : OpR X (binaryOp op) (rBinO C sp) := by
  intro pins s σ H x y v u Q I rx ry ⟨a, dx, fs, c, dy, gs, ex, ha, ey, hc', h⟩
  subst ex; subst ey
  cases (show v = Value.ref a from rx)
  cases (show u = Value.ref c from ry)
  obtain ⟨mA, O, _⟩ := ins_get I.hok ha
  obtain ⟨od, J, _⟩ := O.look
  obtain ⟨mB, O', _⟩ := ins_get I.hok hc'
  obtain ⟨od', J', _⟩ := O'.look
  obtain ⟨m, hF⟩ := I.fr
  refine PySem.W.binop_K hF I.ok.mod.kin J J'.type hc hm.at_ hm.fn (wpAny_mono (own_call I (.inl rfl) F hgd hr hb rx ry h) (fun r s' z => ?_) fun _ _ x => x)
  obtain ⟨vv, H', I', rv, q⟩ := z
  exact back_of rv ⟨vv, H', I', rv, q⟩
end
end Dl

set_option Elab.async false
set_option linter.all false
set_option maxRecDepth 100000
set_option maxHeartbeats 4000000
/-! E18: own in, ==, !=, & and |, by data, as functions. -/
namespace Dl
open PySem PySem.Spec PyProof.Rows L2
section
variable {K : PySem.W.Frag} {C : Addr} {pf : FN}
def gInO (C : Addr) (pf : FN) (neg : Bool) : F2 := fun x y M k => ∃ fs, vw M y = .ins C fs ∧ pf [y, x] M (fun d M' => ∃ r, d = .bl r ∧ k (.bl (if neg = true then !r else r)) M')
theorem bl_V {P : Addr → Prop} {H : Hp} {v : V} {r : Bool} (h : IsV K P H v (.bl r)) : v = .bl r := by
  cases h
  rfl
theorem opd_inO {neg : Bool} : OpD K (rInO C (spD K pf) neg) (gInO C pf neg) := by
  intro F H M v w x y k Q R iv iw ⟨fs, ey, hp⟩ L
  have i2 := iw.rd R
  rw [ey] at i2
  cases i2 with
  | ins h1 h2 =>
    refine ⟨_, _, _, rfl, h1, F, [y, x], M, _, R, .cons iw (.cons iv .nil), hp, fun d M' v' H' hd g1 R1 i1 => ?_⟩
    obtain ⟨r, rfl, hk⟩ := hd
    exact ⟨r, bl_V i1, L _ _ _ _ hk g1 R1 (.bl _)⟩
def tyNames : List String := ["NoneType", "bool", "int", "str", "list", "tuple", "dict"]
structure EqOwn (K : PySem.W.Frag) (C : Addr) : Prop where
  nf : ∀ n ∈ tyNames, PySem.W.notFirst K C (.type n) = true
  ins : InsC K C
  ne : NeOk K C
theorem typeD_mem {d : D} {n : String} (h : typeD d = some n) : n ∈ tyNames := by
  cases d <;> cases h <;> decide
def gEqO (C : Addr) (pf : FN) : F2 := fun x y M k => (∃ fs, vw M x = .ins C fs) ∧ ((∃ n, typeD (vw M y) = some n) ∨ ∃ gs, vw M y = .ins C gs) ∧ pf [x, y] M k
theorem tyN_of (T : EqOwn K C) {F : Addr → Prop} {M : MS} {H : Hp} {w : V} {d : D} (hv : IsR K F M H w d) (h : (∃ n, typeD d = some n) ∨ ∃ gs, d = .ins C gs) : TyN K H C w := by
  rcases h with ⟨n, e⟩ | ⟨gs, rfl⟩
  · exact ⟨_, tyX_of hv e, T.nf n (typeD_mem e)⟩
  · cases hv with
    | ins h1 h2 => exact ⟨_, .base (.ins h1 T.ins.cl T.ins.ha T.ins.hn T.ins.ht T.ins.hm), by unfold PySem.W.notFirst; simp⟩
theorem opd_eqO (T : EqOwn K C) : OpD K (rEqO K C (spD K pf)) (gEqO C pf) := by
  intro F H M v w x y k Q R iv iw ⟨⟨fs, ex⟩, hy, hp⟩ L
  have i2 := iv.rd R
  rw [ex] at i2
  cases i2 with
  | ins h1 h2 => exact ⟨_, _, _, rfl, h1, tyN_of T (iw.rd R) hy, F, [x, y], M, _, R, .cons iv (.cons iw .nil), hp, L⟩
def gNeO (C : Addr) (pf : FN) : F2 := fun x y M k => (∃ fs, vw M x = .ins C fs) ∧ ((∃ n, typeD (vw M y) = some n) ∨ ∃ gs, vw M y = .ins C gs) ∧ pf [x, y] M (fun d M' => ∃ r, d = .bl r ∧ k (.bl (!r)) M')
theorem opd_neO (T : EqOwn K C) : OpD K (rNeO K C (spD K pf)) (gNeO C pf) := by
  intro F H M v w x y k Q R iv iw ⟨⟨fs, ex⟩, hy, hp⟩ L
  have i2 := iv.rd R
  rw [ex] at i2
  cases i2 with
  | ins h1 h2 =>
    refine ⟨_, _, _, rfl, h1, tyN_of T (iw.rd R) hy, F, [x, y], M, _, R, .cons iv (.cons iw .nil), hp, fun d M' v' H' hd g1 R1 i1 => ?_⟩
    obtain ⟨r, rfl, hk⟩ := hd
    exact ⟨r, bl_V i1, L _ _ _ _ hk g1 R1 (.bl _)⟩
def gBinO (C : Addr) (pf : FN) : F2 := fun x y M k => (∃ fs, vw M x = .ins C fs) ∧ (∃ gs, vw M y = .ins C gs) ∧ pf [x, y] M k
theorem opd_binO : OpD K (rBinO C (spD K pf)) (gBinO C pf) := by
  intro F H M v w x y k Q R iv iw ⟨⟨fs, ex⟩, ⟨gs, ey⟩, hp⟩ L
  have i2 := iv.rd R
  rw [ex] at i2
  have i3 := iw.rd R
  rw [ey] at i3
  cases i2 with
  | ins h1 h2 =>
    cases i3 with
    | ins h3 h4 => exact ⟨_, _, _, _, _, _, rfl, h1, rfl, h3, F, [x, y], M, _, R, .cons iv (.cons iw .nil), hp, L⟩
end
end Dl
namespace Fl
open PySem PySem.Spec PyProof.Rows L2 Dl
def blK (neg : Bool) (r : R D) : R D := match r with
  | .ok (.bl b) Γ A => .ok (.bl (if neg = true then !b else b)) Γ A
  | _ => .no
def mInO (neg : Bool) (c : Nat) (F : Fn) (a b : Mo D) : Mo D := mBind a fun x => mBind b fun y => mBind (isIns c none y) fun _ => fun Γ A => blK neg (callF F [y, x] Γ A)
def sameTy (c : Nat) (d : D) : Bool := match d with
  | .ins c' _ => decide (c' = c)
  | d => (typeD d).isSome
def isSame (c : Nat) (x : D) : Mo Unit := fun Γ A => match rdO (.v x) Γ A with
  | some d => if sameTy c d = true then .ok () Γ A else .no
  | none => .no
def mEqO (c : Nat) (F : Fn) (a b : Mo D) : Mo D := mBind a fun x => mBind b fun y => mBind (isIns c none x) fun _ => mBind (isSame c y) fun _ => fun Γ A => calmR (callF F [x, y] Γ A)
def mNeO (c : Nat) (F : Fn) (a b : Mo D) : Mo D := mBind a fun x => mBind b fun y => mBind (isIns c none x) fun _ => mBind (isSame c y) fun _ => fun Γ A => blK true (callF F [x, y] Γ A)
def mBinO (c : Nat) (F : Fn) (a b : Mo D) : Mo D := mBind a fun x => mBind b fun y => mBind (isIns c none x) fun _ => mBind (isIns c none y) fun _ => fun Γ A => calmR (callF F [x, y] Γ A)
section
variable {κ : Kc} {ρ : List Addr} {Γ : GE}
theorem sat_calm {r : R D} {Γt : SG} {A : AH} {M : MS} {k : KD} {kx : KX} (h : Sat κ rD (calmR r) ρ Γt A Γ M k kx) : Sat κ rD r ρ Γt A Γ M k noX := by
  unfold calmR at h
  cases r with
  | ok d Γ' A' => exact h
  | exc C fs Γ' A' => exact h.elim
  | no => exact h
theorem sat_blK {neg : Bool} {r : R D} {Γt : SG} {A : AH} {M : MS} {k : KD} {kx : KX} (h : Sat κ rD (blK neg r) ρ Γt A Γ M k kx) : Sat κ rD r ρ Γt A Γ M (fun d M' => ∃ r, d = .bl r ∧ k (.bl (if neg = true then !r else r)) M') noX := by
  unfold blK at h
  cases r with
  | ok d Γ' A' =>
    cases d with
    | bl b =>
      intro ρ' M' z w s q
      cases q
      exact ⟨b, rfl, h ρ' M' _ w s (.bl _)⟩
    | _ => exact h.elim
  | exc C fs Γ' A' => exact h.elim
  | no => exact h
theorem sim_isSame {c C : Nat} {x d : D} {fb : FX D} {g : Mo D} (hc : κ.cls[c]? = some C) (r : RT ρ x d) (h : SimAt κ rD ρ Γ fb g) :
    SimAt κ rD ρ Γ (fun Γ M k kx => ((∃ n, typeD (vw M d) = some n) ∨ ∃ gs, vw M d = .ins C gs) ∧ fb Γ M k kx) (mBind (isSame c x) fun _ => g) := fun Γt A M k kx w hh => by
  unfold mBind isSame at hh
  cases e : rdO (.v x) Γt A with
  | none => rw [e] at hh; exact hh.elim
  | some t =>
    simp only [e] at hh
    split at hh
    · rename_i hi
      refine ⟨?_, h Γt A M k kx w hh⟩
      have q := rd_rel w (o := .v x) r e
      generalize hv : vw M d = z at q
      cases q with
      | @ins c' C' xs ys ei rf =>
        simp only [sameTy, decide_eq_true_eq] at hi
        subst hi
        obtain rfl := at_cls w.hm.pre hc ei
        exact .inr ⟨_, rfl⟩
      | ty n => cases hi
      | ref _ => cases hi
      | exv _ _ => cases hi
      | _ => exact .inl ⟨_, rfl⟩
    · exact hh.elim
end
section
variable {κ : Kc} {X : Cx} {E : L2.St → XK} {k c C : Nat} {f : Addr} {fd : FuncData} {ps : List Str} {F : Fn} {a b : Expr} {pos : Pos} {ma mb : Mo D}
theorem sim_inO {neg : Bool} {fa fb : FE} (hc : κ.cls[c]? = some C) (ha : Sim κ rD fa ma) (hb : Sim κ rD fb mb) : Sim κ rD (fOp (gInO C (fun ds M k => pfT κ.cls F ds M k noX) neg) fa fb) (mInO neg c F ma mb) := fun ρ Γ =>
  sim_bind (fb := fun x Γ M k kx => fb Γ M (fun y M2 => gInO C (fun ds M k => pfT κ.cls F ds M k noX) neg x y M2 k) kx) (ha ρ Γ) fun ρ1 x dx _ rx => sim_bind (fb := fun y Γ M k kx => gInO C (fun ds M k => pfT κ.cls F ds M k noX) neg dx y M k) (hb ρ1 Γ) fun ρ2 y dy p ry Γt A M k kx w h => by
    obtain ⟨fs, h1, _, h3⟩ := sim_isIns (fb := fun Γ M k kx => pfT κ.cls F [dy, dx] M (fun d M' => ∃ r, d = .bl r ∧ k (.bl (if neg = true then !r else r)) M') noX) (nm := none) hc ry (fun Γt A M k kx w h => sim_callF (F := F) (.cons ry (.cons (RT.mono p _ rx) .nil)) Γt A M _ noX w (sat_blK h)) Γt A M k kx w h
    exact ⟨fs, h1, h3⟩
theorem sim_eqO {fa fb : FE} (hc : κ.cls[c]? = some C) (ha : Sim κ rD fa ma) (hb : Sim κ rD fb mb) : Sim κ rD (fOp (gEqO C (fun ds M k => pfT κ.cls F ds M k noX)) fa fb) (mEqO c F ma mb) := fun ρ Γ =>
  sim_bind (fb := fun x Γ M k kx => fb Γ M (fun y M2 => gEqO C (fun ds M k => pfT κ.cls F ds M k noX) x y M2 k) kx) (ha ρ Γ) fun ρ1 x dx _ rx => sim_bind (fb := fun y Γ M k kx => gEqO C (fun ds M k => pfT κ.cls F ds M k noX) dx y M k) (hb ρ1 Γ) fun ρ2 y dy p ry Γt A M k kx w h => by
    obtain ⟨fs, h1, _, h3⟩ := sim_isIns (fb := fun Γ M k kx => ((∃ n, typeD (vw M dy) = some n) ∨ ∃ gs, vw M dy = .ins C gs) ∧ pfT κ.cls F [dx, dy] M k noX) (nm := none) hc (RT.mono p _ rx) (sim_isSame (fb := fun Γ M k kx => pfT κ.cls F [dx, dy] M k noX) hc ry (fun Γt A M k kx w h => sim_callF (F := F) (.cons (RT.mono p _ rx) (.cons ry .nil)) Γt A M k noX w (sat_calm h))) Γt A M k kx w h
    exact ⟨⟨fs, h1⟩, h3⟩
theorem sim_neO {fa fb : FE} (hc : κ.cls[c]? = some C) (ha : Sim κ rD fa ma) (hb : Sim κ rD fb mb) : Sim κ rD (fOp (gNeO C (fun ds M k => pfT κ.cls F ds M k noX)) fa fb) (mNeO c F ma mb) := fun ρ Γ =>
  sim_bind (fb := fun x Γ M k kx => fb Γ M (fun y M2 => gNeO C (fun ds M k => pfT κ.cls F ds M k noX) x y M2 k) kx) (ha ρ Γ) fun ρ1 x dx _ rx => sim_bind (fb := fun y Γ M k kx => gNeO C (fun ds M k => pfT κ.cls F ds M k noX) dx y M k) (hb ρ1 Γ) fun ρ2 y dy p ry Γt A M k kx w h => by
    obtain ⟨fs, h1, _, h3⟩ := sim_isIns (fb := fun Γ M k kx => ((∃ n, typeD (vw M dy) = some n) ∨ ∃ gs, vw M dy = .ins C gs) ∧ pfT κ.cls F [dx, dy] M (fun d M' => ∃ r, d = .bl r ∧ k (.bl (!r)) M') noX) (nm := none) hc (RT.mono p _ rx) (sim_isSame (fb := fun Γ M k kx => pfT κ.cls F [dx, dy] M (fun d M' => ∃ r, d = .bl r ∧ k (.bl (!r)) M') noX) hc ry (fun Γt A M k kx w h => sim_callF (F := F) (.cons (RT.mono p _ rx) (.cons ry .nil)) Γt A M _ noX w (sat_blK (neg := true) h))) Γt A M k kx w h
    exact ⟨⟨fs, h1⟩, h3⟩
theorem sim_binO {fa fb : FE} (hc : κ.cls[c]? = some C) (ha : Sim κ rD fa ma) (hb : Sim κ rD fb mb) : Sim κ rD (fOp (gBinO C (fun ds M k => pfT κ.cls F ds M k noX)) fa fb) (mBinO c F ma mb) := fun ρ Γ =>
  sim_bind (fb := fun x Γ M k kx => fb Γ M (fun y M2 => gBinO C (fun ds M k => pfT κ.cls F ds M k noX) x y M2 k) kx) (ha ρ Γ) fun ρ1 x dx _ rx => sim_bind (fb := fun y Γ M k kx => gBinO C (fun ds M k => pfT κ.cls F ds M k noX) dx y M k) (hb ρ1 Γ) fun ρ2 y dy p ry Γt A M k kx w h => by
    obtain ⟨fs, h1, _, gs, h2, _, h3⟩ := sim_isIns (fb := fun Γ M k kx => ∃ gs, vw M dy = .ins C gs ∧ (∀ f, (none : Option Str) = some f → gs.lookup f = none) ∧ pfT κ.cls F [dx, dy] M k noX) (nm := none) hc (RT.mono p _ rx) (sim_isIns (fb := fun Γ M k kx => pfT κ.cls F [dx, dy] M k noX) (nm := none) hc ry (fun Γt A M k kx w h => sim_callF (F := F) (.cons (RT.mono p _ rx) (.cons ry .nil)) Γt A M k noX w (sat_calm h))) Γt A M k kx w h
    exact ⟨⟨fs, h1⟩, ⟨gs, h2⟩, h3⟩
theorem me_inO (G : FnG X.prog X.w X.K X.mg X.base (L2.CX X.prog X.w) k f fd ps (spX X.K (pfT κ.cls F))) (hc : κ.cls[c]? = some C) (hm : Meth X.K C "__contains__" f) (hgd : X.A.guards = some []) (hr : Room (k + 1) X.A) (hb : Binds X.K fd ps [])
    (h1 : ME κ X E a ma) (h2 : ME κ X E b mb) (hmk : behindInMarks .In b = false := by rfl) : ME κ X E (.Compare a [.In] [b] pos) (mInO false c F ma mb) := let ⟨_, d1, s1⟩ := h1.ex; let ⟨_, d2, s2⟩ := h2.ex
  ⟨_, de_cmp (op_inO hm (fng_calm G) hgd hr hb) opd_inO d1 d2 hmk, sim_inO hc s1 s2⟩
theorem me_ninO (G : FnG X.prog X.w X.K X.mg X.base (L2.CX X.prog X.w) k f fd ps (spX X.K (pfT κ.cls F))) (hc : κ.cls[c]? = some C) (hm : Meth X.K C "__contains__" f) (hgd : X.A.guards = some []) (hr : Room (k + 1) X.A) (hb : Binds X.K fd ps [])
    (h1 : ME κ X E a ma) (h2 : ME κ X E b mb) (hmk : behindInMarks .NotIn b = false := by rfl) : ME κ X E (.Compare a [.NotIn] [b] pos) (mInO true c F ma mb) := let ⟨_, d1, s1⟩ := h1.ex; let ⟨_, d2, s2⟩ := h2.ex
  ⟨_, de_cmp (op_ninO hm (fng_calm G) hgd hr hb) opd_inO d1 d2 hmk, sim_inO hc s1 s2⟩
theorem mt_inO (G : FnG X.prog X.w X.K X.mg X.base (L2.CX X.prog X.w) k f fd ps (spX X.K (pfT κ.cls F))) (hc : κ.cls[c]? = some C) (hm : Meth X.K C "__contains__" f) (hgd : X.A.guards = some []) (hr : Room (k + 1) X.A) (hb : Binds X.K fd ps [])
    (h1 : ME κ X E a ma) (h2 : ME κ X E b mb) (hmk : behindInMarks .In b = false := by rfl) : MT κ X E (.Compare a [.In] [b] pos) (mTest (mInO false c F ma mb)) := let ⟨_, d1, s1⟩ := h1.ex; let ⟨_, d2, s2⟩ := h2.ex
  ⟨_, dt_cmp (op_inO hm (fng_calm G) hgd hr hb) opd_inO d1 d2 hmk, sim_test (sim_inO hc s1 s2)⟩
theorem mt_ninO (G : FnG X.prog X.w X.K X.mg X.base (L2.CX X.prog X.w) k f fd ps (spX X.K (pfT κ.cls F))) (hc : κ.cls[c]? = some C) (hm : Meth X.K C "__contains__" f) (hgd : X.A.guards = some []) (hr : Room (k + 1) X.A) (hb : Binds X.K fd ps [])
    (h1 : ME κ X E a ma) (h2 : ME κ X E b mb) (hmk : behindInMarks .NotIn b = false := by rfl) : MT κ X E (.Compare a [.NotIn] [b] pos) (mTest (mInO true c F ma mb)) := let ⟨_, d1, s1⟩ := h1.ex; let ⟨_, d2, s2⟩ := h2.ex
  ⟨_, dt_cmp (op_ninO hm (fng_calm G) hgd hr hb) opd_inO d1 d2 hmk, sim_test (sim_inO hc s1 s2)⟩
theorem me_eqO (T : EqOwn X.K C) (G : FnG X.prog X.w X.K X.mg X.base (L2.CX X.prog X.w) k f fd ps (spX X.K (pfT κ.cls F))) (hc : κ.cls[c]? = some C) (hm : Meth X.K C "__eq__" f) (hgd : X.A.guards = some []) (hr : Room (k + 1) X.A) (hb : Binds X.K fd ps [])
    (h1 : ME κ X E a ma) (h2 : ME κ X E b mb) : ME κ X E (.Compare a [.Eq] [b] pos) (mEqO c F ma mb) := let ⟨_, d1, s1⟩ := h1.ex; let ⟨_, d2, s2⟩ := h2.ex
  ⟨_, de_cmp (op_eqO hm (fng_calm G) hgd hr hb) (opd_eqO T) d1 d2 (nomark _), sim_eqO hc s1 s2⟩
theorem me_neO (T : EqOwn X.K C) (G : FnG X.prog X.w X.K X.mg X.base (L2.CX X.prog X.w) k f fd ps (spX X.K (pfT κ.cls F))) (hc : κ.cls[c]? = some C) (hm : Meth X.K C "__eq__" f) (hgd : X.A.guards = some []) (hr : Room (k + 1) X.A) (hb : Binds X.K fd ps [])
    (h1 : ME κ X E a ma) (h2 : ME κ X E b mb) : ME κ X E (.Compare a [.NotEq] [b] pos) (mNeO c F ma mb) := let ⟨_, d1, s1⟩ := h1.ex; let ⟨_, d2, s2⟩ := h2.ex
  ⟨_, de_cmp (op_neO hm T.ne (fng_calm G) hgd hr hb) (opd_neO T) d1 d2 (nomark _), sim_neO hc s1 s2⟩
theorem mt_eqO (T : EqOwn X.K C) (G : FnG X.prog X.w X.K X.mg X.base (L2.CX X.prog X.w) k f fd ps (spX X.K (pfT κ.cls F))) (hc : κ.cls[c]? = some C) (hm : Meth X.K C "__eq__" f) (hgd : X.A.guards = some []) (hr : Room (k + 1) X.A) (hb : Binds X.K fd ps [])
    (h1 : ME κ X E a ma) (h2 : ME κ X E b mb) : MT κ X E (.Compare a [.Eq] [b] pos) (mTest (mEqO c F ma mb)) := let ⟨_, d1, s1⟩ := h1.ex; let ⟨_, d2, s2⟩ := h2.ex
  ⟨_, dt_cmp (op_eqO hm (fng_calm G) hgd hr hb) (opd_eqO T) d1 d2 (nomark _), sim_test (sim_eqO hc s1 s2)⟩
theorem mt_neO (T : EqOwn X.K C) (G : FnG X.prog X.w X.K X.mg X.base (L2.CX X.prog X.w) k f fd ps (spX X.K (pfT κ.cls F))) (hc : κ.cls[c]? = some C) (hm : Meth X.K C "__eq__" f) (hgd : X.A.guards = some []) (hr : Room (k + 1) X.A) (hb : Binds X.K fd ps [])
    (h1 : ME κ X E a ma) (h2 : ME κ X E b mb) : MT κ X E (.Compare a [.NotEq] [b] pos) (mTest (mNeO c F ma mb)) := let ⟨_, d1, s1⟩ := h1.ex; let ⟨_, d2, s2⟩ := h2.ex
  ⟨_, dt_cmp (op_neO hm T.ne (fng_calm G) hgd hr hb) (opd_neO T) d1 d2 (nomark _), sim_test (sim_neO hc s1 s2)⟩
theorem me_binO {op : Operator} (G : FnG X.prog X.w X.K X.mg X.base (L2.CX X.prog X.w) k f fd ps (spX X.K (pfT κ.cls F))) (hc : κ.cls[c]? = some C) (hm : Meth X.K C (PySem.dunder op.info.2) f) (hs : PySem.W.selfFirst X.K C = true) (hgd : X.A.guards = some []) (hr : Room (k + 1) X.A) (hb : Binds X.K fd ps [])
    (h1 : ME κ X E a ma) (h2 : ME κ X E b mb) : ME κ X E (.BinOp a op b pos) (mBinO c F ma mb) := let ⟨_, d1, s1⟩ := h1.ex; let ⟨_, d2, s2⟩ := h2.ex
  ⟨_, de_op (op_binO hm hs (fng_calm G) hgd hr hb) opd_binO d1 d2, sim_binO hc s1 s2⟩
end
/-! ### the facts of the head -/
open He
def eqOB (x : Str) (K : PySem.W.Frag) : Bool := (tyNames.all fun n => PySem.W.notFirst K (ga K x) (.type n)) && (insB K (ga K x) && (decide (PySem.W.findIn K (.ref (ga K x)) "__ne__" = some (some (.builtin "object.__ne__"))) && decide (PySem.W.subIn K (.ref (ga K x)) (.type "object") = some true)))
theorem eqOB_ok {x : Str} {K : PySem.W.Frag} (h : eqOB x K = true) : EqOwn K (ga K x) := by
  unfold eqOB at h
  simp only [Bool.and_eq_true, decide_eq_true_eq] at h
  exact ⟨fun n m => List.all_eq_true.mp h.1 n m, insB_ok h.2.1, h.2.2.1, h.2.2.2⟩
end Fl

set_option Elab.async false
set_option linter.all false
set_option maxRecDepth 100000
set_option maxHeartbeats 4000000
/-! E19: str of an own one, str, join, texts of several parts, zip, a list times an int. -/
namespace PySem.W
open PySem PySem.Calls PyProof.Rows Builtin Builtin.Str
section
variable {prog : Program} {w : World} {A : Around} {E : Value → Shared → Prop} {s : Shared} {K : Frag} {x C L f : Addr} {h₀ : Heap} {m : Str → Option Value} {ox : Obj} {od : Option Obj}
theorem str_K {Q : Value → Shared → Prop} (hu : A.in1.in1.units < cLine) (X : K.In s.heap) (I : InstAt s.heap x ox C od) (hs : findIn K (.ref C) "__str__" = some (some (.ref f))) (hf : isFn K (.ref f) = true)
    (h : wpAny (model prog w) A.in1.in1 (call (.ref f) [.ref x]) (fun v s' => ∃ y t, v = .str y t ∧ Q (.str y t) s') E s) : wpAny (model prog w) A (call (.type "str") [.ref x]) Q E s :=
  callType_newIn F.called_str (by decide) (F.typeCall_str_1 _) (F.newCall_str_1 _) (fun obj => F.args_object_init_2 obj _) F.entry_str_new
    (S := fun A R s' => wpAny (model prog w) A.in1 (Builtin.Str.strOf (.ref x)) (fun r s' => R (.ok (.ret r)) s') (fun e s' => R (.error e) s') s')
    (MeetsIn.of_wp fun A R s h => by
      rw [str_new_tree]
      refine wpAny_bind (wpAny_pure ?_)
      refine wpAny_bind (wpAny_of_eq isSubtype_str_str ?_)
      exact wpAny_bind (wpAny_mono h (fun r s' h' => wpAny_pure ⟨_, rfl, h'⟩) fun _ _ e => e)) (by
      unfold Builtin.Str.strOf
      rw [show isExactStr (Value.ref x) = false from rfl]
      simp only [Bool.false_eq_true, if_false]
      refine wpAny_bind (wpAny_cRoomFor hu ?_)
      refine wpAny_bind (m := callSpecial? (.ref x) (PySem.Str.ofString "__str__")) (special_fn X I hs (beq_iff_eq.mp hf) (wpAny_mono h (fun v s' hv => ?_) fun _ _ e => e))
      obtain ⟨y, t, rfl, q⟩ := hv
      exact wpAny_pure ⟨typeIs_str _ _ _, q⟩)
end
end PySem.W

set_option Elab.async false
set_option linter.all false
set_option maxRecDepth 100000
set_option maxHeartbeats 4000000
/-! E20: str, join, texts of several parts, zip, a list times an int, by data and as functions. -/
namespace Dl
open PySem PySem.Spec PyProof.Rows L2
section
variable {X : Cx} {E : L2.St → XK} {k : Nat} {C f : Addr} {fd : FuncData} {ps : List Str} {sp : Sp} {pf : FN} {e a b : Expr} {es : List Expr} {pos p : Pos} {fe fa fb : FE}
/-! ### str -/
def gStr : FN := fun ds M k => match ds with
  | [.int i] => i.natAbs.log2 < 1920 ∧ k (.str (toString i)) M
  | [.str s] => k (.str s) M
  | _ => False
theorem cd_str {K : PySem.W.Frag} : CallD K (fun xs H Q => (∃ i, xs = [.int i] ∧ i.natAbs.log2 < 1920 ∧ Q (.str (toString i)) H) ∨ ∃ a, xs = [.str a] ∧ Q (.str a) H) gStr := by
  intro F H M vs ds k Q R hv hg L
  cases hv with
  | nil => exact hg.elim
  | cons v1 v2 =>
    cases v2 with
    | cons _ _ => cases v1 <;> exact hg.elim
    | nil =>
      cases v1 with
      | int i => exact .inl ⟨i, rfl, hg.1, L.now R hg.2 (.str _)⟩
      | str s => exact .inr ⟨s, rfl, L.now R hg (.str _)⟩
      | _ => exact hg.elim
theorem c_str (hg : Gl X "str") (hm : X.mg "str" = none) {g : FA} (ha : DA X E [e] g) (he : starEach [e] X.env = (false, eval e X.env) :: starEach [] X.env := by rfl) : DE X E (.Call (.Name "str" p) [e] [] pos) (fCB gStr g) := de_callTy (CallR.or call_str_int SkE.call_str_str) cd_str hg hm (by decide +kernel) ha (by decide) (by decide) he
theorem own_call1 {A : Around} {pins : List (Addr × Obj)} {σ : L2.St} {H : Hp} {s : Shared} {Q : VK} {E' : Value → Shared → Prop} {x : V} {u : Value} (I : L2.Inv X pins σ H s)
    (F : FnG X.prog X.w X.K X.mg X.base CX0 k f fd ps sp) (hgd : A.guards = some []) (hr : Room k A) (he : Env0 X.prog X.w X.K X.mg X.base A X.stack s H) (hb : Binds X.K fd ps []) (rx : RelV x u) (h : sp [x] H Q E0) :
    wpAny (model X.prog X.w) A (call (.ref f) [u]) (EP X pins σ Q) E' s := by
  have hl : ([u] ++ ([] : List Value)).length = ps.length := F.len _ _ _ _ h
  refine wpAny_call (codeAny_mono (F.run A X.stack s H ⟨[u], []⟩ [u] [x] Q E0 hgd hr he (hb _ [u] I.kIn hl) (show Vals [x] [u] from .cons rx .nil) h) fun r s' hq => ?_)
  match r, hq with
  | .error er, hq => exact hq.elim
  | .ok (.ret u), hq =>
    obtain ⟨v, H', I3, rv, q3⟩ := I.after hq
    exact ⟨v, H', I3, rv, q3⟩
def rStrO (C : Addr) (sp : Sp) : List V → Hp → VK → Prop := fun xs H Q => ∃ a dx fs, xs = [.ref a] ∧ H a = some (.ins C dx fs) ∧ sp [.ref a] H (fun v H' => ∃ y, v = .str y ∧ Q (.str y) H') E0
theorem cr_strO (hm : Meth X.K C "__str__" f) (F : FnG X.prog X.w X.K X.mg X.base CX0 k f fd ps sp) (hgd : X.A.guards = some []) (hr : Room (k + 2) X.A) (hb : Binds X.K fd ps []) : CallR X (.type "str") (rStrO C sp) := by
  intro pins s σ H xs us Q I r ⟨a, dx, fs, ex, ha, h⟩
  subst ex
  obtain ⟨u, rfl, r1⟩ := vals1 r
  cases (show u = Value.ref a from r1)
  obtain ⟨mA, O, _⟩ := ins_get I.hok ha
  obtain ⟨od, J, _⟩ := O.look
  refine PySem.W.str_K (hr.in1.in1).units0 I.kIn J hm.at_ hm.fn (wpAny_mono (own_call1 I F (by first | exact hgd | simpa using hgd) hr.in1.in1 I.env0.in1.in1 hb (show RelV (.ref a) (Value.ref a) from rfl) h) (fun r s' z => ?_) fun _ _ x => x)
  obtain ⟨vv, H', I', rv, y, rfl, q⟩ := z
  obtain ⟨t, rfl⟩ := (show ∃ t, r = Value.str y t from rv)
  exact ⟨y, t, rfl, .str y, H', I', ⟨t, rfl⟩, q⟩
def gStrO (C : Addr) (pf : FN) : FN := fun ds M k => match ds with
  | [x] => (∃ fs, vw M x = .ins C fs) ∧ pf [x] M (fun d M' => ∃ y, d = .str y ∧ k (.str y) M')
  | _ => False
theorem str_V {K : PySem.W.Frag} {P : Addr → Prop} {H : Hp} {v : V} {r : Str} (h : IsV K P H v (.str r)) : v = .str r := by
  cases h
  rfl
theorem cd_strO {K : PySem.W.Frag} : CallD K (rStrO C (spD K pf)) (gStrO C pf) := by
  intro F H M vs ds k Q R hv hg L
  cases hv with
  | nil => exact hg.elim
  | @cons v d vs ds v1 v2 =>
    cases v2 with
    | cons _ _ => exact hg.elim
    | nil =>
      obtain ⟨⟨fs, ex⟩, hp⟩ := hg
      have i2 := v1.rd R
      rw [ex] at i2
      cases i2 with
      | ins h1 h2 =>
        refine ⟨_, _, _, rfl, h1, F, [d], M, _, R, .cons v1 .nil, hp, fun d M' v' H' hd g1 R1 i1 => ?_⟩
        obtain ⟨r, rfl, hk⟩ := hd
        exact ⟨r, str_V i1, L _ _ _ _ hk g1 R1 (.str _)⟩
theorem c_strO (hm : Meth X.K C "__str__" f) (F : FnG X.prog X.w X.K X.mg X.base CX0 k f fd ps (spD X.K pf)) (hgd : X.A.guards = some []) (hr : Room (k + 2) X.A) (hb : Binds X.K fd ps []) (hg : Gl X "str") (hmg : X.mg "str" = none) {g : FA} (ha : DA X E [e] g) (he : starEach [e] X.env = (false, eval e X.env) :: starEach [] X.env := by rfl) : DE X E (.Call (.Name "str" p) [e] [] pos) (fCB (gStrO C pf) g) := de_callTy (cr_strO hm F hgd hr hb) cd_strO hg hmg (by decide +kernel) ha (by decide) (by decide) he
/-! ### f'..' -/
def fFmt (fe : FE) : FE := fun Γ M k kx => fe Γ M (fun x M1 => (∃ y : Str, x = .str y ∧ y.length ≤ sizeLine ∧ k (.str y) M1) ∨ ∃ i : Int, x = .int i ∧ i.natAbs.log2 < 1920 ∧ k (.str (toString i)) M1) kx
theorem de_fmt (he : DE X E e fe) : DE X E (.FormattedValue e (-1) none pos) (fFmt fe) := pe_w (pe_fmt he) fun σ H Q h => by
  obtain ⟨F, Γ, M, k, kx, R, q, LX, L⟩ := h
  refine ⟨F, Γ, M, _, kx, R, q, LX, fun x M1 v H1 hx g1 R1 i1 => ?_⟩
  rcases hx with ⟨y, rfl, hz, hk⟩ | ⟨i, rfl, hz, hk⟩
  · cases i1
    exact .inl ⟨y, rfl, hz, L _ _ _ _ hk g1 R1 (.str _)⟩
  · cases i1
    exact .inr ⟨i, rfl, hz, L _ _ _ _ hk g1 R1 (.str _)⟩
abbrev FJ := Str → GE → MS → (Str → MS → Prop) → KX → Prop
def liJ (K : PySem.W.Frag) (E : L2.St → XK) (f : GE → MS → (Str → MS → Prop) → KX → Prop) : L2.St → Hp → (Str → Hp → Prop) → Prop := fun σ H Q => ∃ F Γ M k kx, Rep K F σ H Γ M ∧ f Γ M k kx ∧ LinkX K F H M (E σ) kx ∧ ∀ o M' H', k o M' → Go H M H' M' → RepM K F H' M' → Q o H'
def fJn : FJ := fun acc _ M k _ => k acc M
def fJc (fe : FE) (g : FJ) : FJ := fun acc Γ M k kx => fe Γ M (fun x M1 => ∃ y : Str, x = .str y ∧ (acc ++ y).length ≤ sizeLine ∧ g (acc ++ y) Γ M1 k kx) kx
structure DJ (X : Cx) (E : L2.St → XK) (es : List Expr) (g : FJ) : Prop where ex : ∃ ts, PJ X es ts ∧ ∀ acc σ H Q, liJ X.K E (g acc) σ H Q → tJs ts acc σ H Q
theorem dj_nil : DJ X E [] fJn := ⟨[], .nil, fun acc σ H Q ⟨F, Γ, M, k, kx, R, q, LX, L⟩ => L acc M H q (Go.refl _ _) R.mem⟩
theorem dj_cons {g : FJ} (he : DE X E e fe) (hr : DJ X E es g) : DJ X E (e :: es) (fJc fe g) := let ⟨ts, h, w⟩ := hr.ex
  ⟨_ :: ts, .cons he h, fun acc σ H Q ⟨F, Γ, M, k, kx, R, q, LX, L⟩ => ⟨F, Γ, M, _, kx, R, q, LX, fun x M1 v H1 hx g1 R1 i1 => by
    obtain ⟨y, rfl, hz, hx⟩ := hx
    cases i1
    exact ⟨y, rfl, hz, w _ _ _ _ ⟨F, Γ, M1, k, kx, R.go g1 R1, hx, LX.go g1, fun o M' H' ho g2 R2 => L o M' H' ho (g1.trans g2) R2⟩⟩⟩⟩
def fJs (g : FJ) : FE := fun Γ M k kx => g Str.empty Γ M (fun o M1 => k (.str o) M1) kx
theorem de_js {v1 v2 : Expr} {rest : List Expr} {g : FJ} (h : DJ X E (v1 :: v2 :: rest) g) : DE X E (.JoinedStr (v1 :: v2 :: rest) pos) (fJs g) := let ⟨ts, h, w⟩ := h.ex
  pe_w (pe_joined h) fun σ H Q ⟨F, Γ, M, k, kx, R, q, LX, L⟩ => w _ _ _ _ ⟨F, Γ, M, _, kx, R, q, LX, fun o M' H' ho g R' => L _ _ _ _ ho g R' (.str _)⟩
theorem de_js1 {v1 : Expr} (he : DE X E v1 fe) : DE X E (.JoinedStr [v1] pos) fe := pe_joined1 he
/-! ### a list times an int -/
def oRep : F2 := fun x y M k => match x, y with
  | .lst xs, .int i => (-(2 ^ 63) ≤ i ∧ i < 2 ^ 63 ∧ xs.length * i.toNat ≤ sizeLine) ∧ k (.lst (List.replicate i.toNat xs).flatten) M
  | _, _ => False
theorem IsVs.rep {K : PySem.W.Frag} {P : Addr → Prop} {H : Hp} {vs : List V} {ds : List D} (h : IsVs K P H vs ds) : ∀ n, IsVs K P H (List.replicate n vs).flatten (List.replicate n ds).flatten
  | 0 => .nil
  | n + 1 => by
    rw [List.replicate_succ, List.replicate_succ, List.flatten_cons, List.flatten_cons]
    exact h.append (IsVs.rep h n)
theorem opw_rep {K : PySem.W.Frag} : OpW K rRep oRep := fun F H M v w x y k Q R hv hw hg L => by
  cases hv with
  | lst h1 h2 =>
    cases hw with
    | int i =>
      obtain ⟨⟨b1, b2, b3⟩, hg⟩ := hg
      exact ⟨_, i, _, rfl, rfl, h1, b1, b2, by rw [h2.length]; exact b3, new_lst L R hg (h2.rep _)⟩
    | _ => exact hg.elim
  | _ => exact hg.elim
theorem d_rep (ha : DE X E a fa) (hb : DE X E b fb) : DE X E (.BinOp a .Mult b pos) (fOp (wOp oRep) fa fb) := de_op op_rep (opd_w opw_rep) ha hb
/-! ### never reached -/
theorem ds_never {s : Stmt} {E : XK} : DS X E s (fun _ _ _ => False) := ⟨fun pins st σ H D I ⟨F, Γ, M, N, R, q, L⟩ => q.elim⟩
end
end Dl

set_option Elab.async false
set_option linter.all false
set_option maxRecDepth 100000
set_option maxHeartbeats 4000000
/-! E21: str, join, texts of several parts, zip, a list times an int, as functions. -/
namespace Fl
open PySem PySem.Spec PyProof.Rows L2 Dl
def tStr : D → Option D
  | .int i => if i.natAbs.log2 < 1920 then some (.str (toString i)) else none
  | .str s => some (.str s)
  | _ => none
theorem op1_str : Op1 gStr tStr := by
  intro ρ x dx M k t r e q
  cases r with
  | int i =>
    simp only [tStr] at e
    split at e
    · rename_i h; cases e; exact ⟨h, q _ (.str _)⟩
    · cases e
  | str s => cases e; exact q _ (.str _)
  | _ => cases e
def strK (r : R D) : R D := match r with
  | .ok (.str y) Γ A => .ok (.str y) Γ A
  | _ => .no
def mStrO (c : Nat) (F : Fn) (o : Mo D) : Mo D := mBind o fun x => mBind (isIns c none x) fun _ => fun Γ A => strK (callF F [x] Γ A)
def tFmt1 : D → Option D
  | .str y => if y.length ≤ sizeLine then some (.str y) else none
  | .int i => if i.natAbs.log2 < 1920 then some (.str (toString i)) else none
  | _ => none
def mFmt (m : Mo D) : Mo D := m1 tFmt1 m
def strO : D → Option Str
  | .str y => some y
  | _ => none
def addO (acc y : Str) : Option Str := if (acc ++ y).length ≤ sizeLine then some (acc ++ y) else none
def mJn : Str → Mo Str := fun acc => mRet acc
def mJc (m : Mo D) (g : Str → Mo Str) : Str → Mo Str := fun acc => mBind m fun x => mBind (mO (strO x)) fun y => mBind (mO (addO acc y)) g
def mJs (g : Str → Mo Str) : Mo D := mBind (g Str.empty) fun o => mRet (.str o)
def rS : Rl Str Str := fun _ _ x y => y = x
def allStr : List D → Option (List Str)
  | [] => some []
  | .str y :: xs => (allStr xs).map (y :: ·)
  | _ :: _ => none
def strsO : D → Option (List Str)
  | .lst xs => allStr xs
  | .tup xs => allStr xs
  | _ => none
def tJoin (a : Str) (d : D) : Option D := (strsO d).bind fun ys => if (ys.map (·.length)).sum + ys.length * a.length ≤ 16777216 then some (.str (Txt.join a ys)) else none
def mJoin (o : Mo D) (e : Mo Opd) : Mo D := mBind o fun x => mBind (mO (strO x)) fun a => mBind e fun y => mRd1 (tJoin a) y
def zipO : List D → Option (List D)
  | [.lst xs, .lst ys] => some ((xs.zip ys).map fun p => .tup [p.1, p.2])
  | _ => none
def tRep (x y : D) : Option D := match x, y with
  | .lst xs, .int i => if -(2 ^ 63) ≤ i ∧ i < 2 ^ 63 ∧ xs.length * i.toNat ≤ sizeLine then some (.lst (List.replicate i.toNat xs).flatten) else none
  | _, _ => none
def mNever : Ms := fun _ _ => .no
section
variable {κ : Kc} {ρ : List Addr} {Γ : GE}
theorem sat_strK {r : R D} {Γt : SG} {A : AH} {M : MS} {k : KD} {kx : KX} (h : Sat κ rD (strK r) ρ Γt A Γ M k kx) : Sat κ rD r ρ Γt A Γ M (fun d M' => ∃ y, d = .str y ∧ k (.str y) M') noX := by
  unfold strK at h
  cases r with
  | ok d Γ' A' =>
    cases d with
    | str b =>
      intro ρ' M' z w s q
      cases q
      exact ⟨b, rfl, h ρ' M' _ w s (.str _)⟩
    | _ => exact h.elim
  | exc C fs Γ' A' => exact h.elim
  | no => exact h
theorem allStr_ok : ∀ {xs ds : List D} {ys : List Str}, allStr xs = some ys → RTs ρ xs ds → ds = ys.map .str
  | [], _, _, e, .nil => by cases e; rfl
  | x :: xs, _, ys, e, .cons r t => by
    cases r with
    | str y =>
      simp only [allStr, Option.map_eq_some_iff] at e
      obtain ⟨zs, e, rfl⟩ := e
      rw [allStr_ok e t]
      rfl
    | _ => cases e
end
section
variable {κ : Kc} {X : Cx} {E : L2.St → XK} {k c C : Nat} {f : Addr} {fd : FuncData} {ps : List Str} {F : Fn} {a b e : Expr} {es : List Expr} {p pos apos : Pos} {ma mb : Mo D} {pa pb : Mo Opd} {as : Mo (List D)}
theorem me_strc (hg : Gl X "str") (hm : X.mg "str" = none) (ha : ME κ X E a ma) (he : starEach [a] X.env = (false, eval a X.env) :: starEach [] X.env := by rfl) : ME κ X E (.Call (.Name "str" p) [a] [] pos) (m1 tStr ma) := let ⟨_, d, s⟩ := ha.ex; ⟨_, c_str hg hm (da_cons d da_nil he) he, sim_1 op1_str s⟩
theorem me_strO (G : FnG X.prog X.w X.K X.mg X.base (L2.CX X.prog X.w) k f fd ps (spX X.K (pfT κ.cls F))) (hc : κ.cls[c]? = some C) (hm : Meth X.K C "__str__" f) (hgd : X.A.guards = some []) (hr : Room (k + 2) X.A) (hb : Binds X.K fd ps []) (hg : Gl X "str") (hmg : X.mg "str" = none)
    (ha : ME κ X E a ma) (he : starEach [a] X.env = (false, eval a X.env) :: starEach [] X.env := by rfl) : ME κ X E (.Call (.Name "str" p) [a] [] pos) (mStrO c F ma) := let ⟨fa, d, s⟩ := ha.ex
  ⟨_, c_strO (pf := fun ds M k => pfT κ.cls F ds M k noX) hm (fng_calm G) hgd hr hb hg hmg (da_cons d da_nil he) he, fun ρ Γ => sim_bind (fb := fun x Γ M k kx => gStrO C (fun ds M k => pfT κ.cls F ds M k noX) [x] M k) (s ρ Γ) fun ρ1 x dx _ rx Γt A M k kx w h => by
    obtain ⟨fs, h1, _, h3⟩ := sim_isIns (fb := fun Γ M k kx => pfT κ.cls F [dx] M (fun d M' => ∃ y, d = .str y ∧ k (.str y) M') noX) (nm := none) hc rx (fun Γt A M k kx w h => sim_callF (F := F) (.cons rx .nil) Γt A M _ noX w (sat_strK h)) Γt A M k kx w h
    exact ⟨⟨fs, h1⟩, h3⟩⟩
theorem me_join (ho : ME κ X E a ma) (he : MP κ X E e pa) (hs : starEach [e] X.env = [(false, eval e X.env)] := by rfl) (hbase : attributeBase a "join" X.env (eval a X.env) = eval a X.env := by rfl) (hline : (apos.endLine == pos.line) = true := by rfl) :
    ME κ X E (.Call (.Attribute a "join" apos) [e] [] pos) (mJoin ma pa) := let ⟨fo, d1, s1⟩ := ho.ex; let ⟨fe, d2, s2⟩ := he.ex
  ⟨_, d_join d1 d2 hs hbase hline, fun ρ Γ => sim_bind (rel := rD) (fb := fun (x : D) Γ M k kx => ∃ a, x = .str a ∧ fe Γ M (fun y M2 => ∃ ys : List Str, (vw M2 y = .lst (ys.map .str) ∨ vw M2 y = .tup (ys.map .str)) ∧ (ys.map (·.length)).sum + ys.length * a.length ≤ 16777216 ∧ k (.str (Txt.join a ys)) M2) kx) (s1 ρ Γ) fun ρ1 x dx _ rx Γt A M k kx w h => by
    cases rx with
    | str a =>
      refine ⟨a, rfl, sim_bind (rel := rD) (fb := fun y Γ M k kx => ∃ ys : List Str, (vw M y = .lst (ys.map .str) ∨ vw M y = .tup (ys.map .str)) ∧ (ys.map (·.length)).sum + ys.length * a.length ≤ 16777216 ∧ k (.str (Txt.join a ys)) M) (mb := fun y => mRd1 (tJoin a) y) (s2 ρ1 Γ) (fun ρ2 y dy _ ry Γt A M k kx w h => ?_) Γt A M k kx w h⟩
      unfold mRd1 at h
      cases e3 : rdO y Γt A with
      | none => rw [e3] at h; exact h.elim
      | some t =>
        rw [e3] at h
        obtain ⟨z, e4, q⟩ := sat_o w h
        have r := rd_rel w ry e3
        unfold tJoin at e4
        rw [Option.bind_eq_some_iff] at e4
        obtain ⟨ys, e5, e6⟩ := e4
        split at e6
        · rename_i hz
          cases e6
          generalize hv : vw M dy = v at r ⊢
          cases r with
          | lst r1 => exact ⟨ys, .inl (by rw [allStr_ok e5 r1]), hz, q _ (.str _)⟩
          | tup r1 => exact ⟨ys, .inr (by rw [allStr_ok e5 r1]), hz, q _ (.str _)⟩
          | _ => cases e5
        · cases e6
    | _ => exact (show False from h).elim⟩
/-! ### f'..' -/
theorem me_fmt (ha : ME κ X E a ma) : ME κ X E (.FormattedValue a (-1) none pos) (mFmt ma) := let ⟨fa, d, s⟩ := ha.ex
  ⟨_, de_fmt d, fun ρ Γ => sim_bind (rel := rD) (fb := fun (x : D) Γ M k kx => (∃ y : Str, x = .str y ∧ y.length ≤ sizeLine ∧ k (.str y) M) ∨ ∃ i : Int, x = .int i ∧ i.natAbs.log2 < 1920 ∧ k (.str (toString i)) M) (s ρ Γ) fun ρ1 x dx _ rx => sim_o fun M k kx t e q => by
    cases rx with
    | str y =>
      simp only [tFmt1] at e
      split at e
      · rename_i h; cases e; exact .inl ⟨y, rfl, h, q _ (.str _)⟩
      · cases e
    | int i =>
      simp only [tFmt1] at e
      split at e
      · rename_i h; cases e; exact .inr ⟨i, rfl, h, q _ (.str _)⟩
      · cases e
    | _ => cases e⟩
structure MJ (κ : Kc) (X : Cx) (E : L2.St → XK) (es : List Expr) (g : Str → Mo Str) : Prop where ex : ∃ f, DJ X E es f ∧ ∀ acc, Sim κ rS (f acc) (g acc)
theorem mj_nil : MJ κ X E [] mJn := ⟨fJn, dj_nil, fun acc ρ Γ => sim_ret fun M k kx q => q _ rfl⟩
theorem mj_cons {g : Str → Mo Str} (ha : ME κ X E a ma) (hr : MJ κ X E es g) : MJ κ X E (a :: es) (mJc ma g) := let ⟨fa, d, s⟩ := ha.ex; let ⟨fg, d2, s2⟩ := hr.ex
  ⟨_, dj_cons d d2, fun acc ρ Γ => sim_bind (rel := rS) (fb := fun (x : D) Γ M k kx => ∃ y : Str, x = .str y ∧ (acc ++ y).length ≤ sizeLine ∧ fg (acc ++ y) Γ M k kx) (s ρ Γ) fun ρ1 x dx _ rx Γt A M k kx w h => by
    cases rx with
    | str y =>
      by_cases hz : (acc ++ y).length ≤ sizeLine
      · have h2 : Sat κ rS (mBind (mO (addO acc y)) g Γt A) ρ1 Γt A Γ M k kx := h
        unfold addO at h2
        rw [if_pos hz] at h2
        exact ⟨y, rfl, hz, s2 _ ρ1 Γ Γt A M k kx w h2⟩
      · have h2 : Sat κ rS (mBind (mO (addO acc y)) g Γt A) ρ1 Γt A Γ M k kx := h
        unfold addO at h2
        rw [if_neg hz] at h2
        exact (show False from h2).elim
    | _ => exact (show False from h).elim⟩
theorem me_js {v1 v2 : Expr} {rest : List Expr} {g : Str → Mo Str} (h : MJ κ X E (v1 :: v2 :: rest) g) : ME κ X E (.JoinedStr (v1 :: v2 :: rest) pos) (mJs g) := let ⟨f, d, s⟩ := h.ex
  ⟨_, de_js d, fun ρ Γ => sim_bind (rel := rD) (fb := fun o Γ M k kx => k (.str o) M) (s _ ρ Γ) fun ρ1 x dx _ rx => by
    cases (show dx = x from rx)
    exact sim_ret fun M k kx q => q _ (.str _)⟩
theorem me_js1 {v1 : Expr} (h : ME κ X E v1 ma) : ME κ X E (.JoinedStr [v1] pos) ma := let ⟨_, d, s⟩ := h.ex; ⟨_, de_js1 d, s⟩
/-! ### zip -/
theorem RTs.zip {ρ : List Addr} : ∀ {xs ys ds es : List D}, RTs ρ xs ds → RTs ρ ys es → RTs ρ ((xs.zip ys).map fun p => D.tup [p.1, p.2]) ((ds.zip es).map fun p => D.tup [p.1, p.2])
  | _, _, _, _, .nil, _ => by simp only [List.zip_nil_left, List.map_nil]; exact .nil
  | _, _, _, _, .cons _ _, .nil => by simp only [List.zip_nil_right, List.map_nil]; exact .nil
  | _, _, _, _, .cons r t, .cons r2 t2 => by
    simp only [List.zip_cons_cons, List.map_cons]
    exact .cons (.tup (.cons r (.cons r2 .nil))) (RTs.zip t t2)
theorem mi_zip {elts : List Expr} {kk : Nat} {tpos : Pos} {e2 : Expr} (hg : Gl X "zip") (hm : X.mg "zip" = none) (ha : MA κ X E [e, e2] as)
    (hs : starEach [e, e2] X.env = (false, eval e X.env) :: starEach [e2] X.env := by rfl) (hpl : (backTo pos (starEach [e2] X.env)).any (·.1) = false := by rfl) :
    MI κ X E (.Tuple elts kk tpos) (.Call (.Name "zip" p) [e, e2] [] pos) (mRng zipO as) := let ⟨f, d, s⟩ := ha.ex
  ⟨_, di_zip hg hm d hs hpl, fun ρ Γ => sim_bind (rel := rA) (fb := fun (ds : List D) Γ M k kx => ∃ xs ys : List D, ds = [D.lst xs, D.lst ys] ∧ k ((xs.zip ys).map fun (p : D × D) => D.tup [p.1, p.2]) M) (s ρ Γ) fun ρ1 x dx _ r => sim_o (o := zipO x) fun M k kx t e q => by
    cases r with
    | nil => cases e
    | cons r1 r2 =>
      cases r2 with
      | nil => cases r1 <;> cases e
      | cons r2 r3 =>
        cases r3 with
        | cons _ _ => cases r1 <;> cases r2 <;> cases e
        | nil =>
          cases r1 with
          | lst t1 =>
            cases r2 with
            | lst t2 => cases e; exact ⟨_, _, rfl, q _ (RTs.zip t1 t2)⟩
            | _ => cases e
          | _ => cases r2 <;> cases e⟩
/-! ### a list times an int -/
theorem RTs.rep {ρ : List Addr} {xs ds : List D} (h : RTs ρ xs ds) : ∀ n, RTs ρ (List.replicate n xs).flatten (List.replicate n ds).flatten
  | 0 => .nil
  | n + 1 => by
    rw [List.replicate_succ, List.replicate_succ, List.flatten_cons, List.flatten_cons]
    exact h.append (RTs.rep h n)
theorem opt_rep : OpT oRep tRep := by
  intro ρ x y dx dy M k t rx ry e q
  cases rx with
  | lst r =>
    cases ry with
    | int i =>
      simp only [tRep] at e
      split at e
      · rename_i h
        cases e
        exact ⟨by rw [r.length]; exact h, q _ (.lst (r.rep _))⟩
      · cases e
    | _ => cases e
  | _ => cases ry <;> cases e
theorem me_rep (ha : MP κ X E a pa) (hb : MP κ X E b pb) : ME κ X E (.BinOp a .Mult b pos) (mOpW tRep pa pb) := me_opWG opt_rep (fun h1 h2 => d_rep h1 h2) ha hb
/-! ### never reached -/
theorem ms_never {s : Stmt} {E : XK} : MS1 κ X E s mNever := ⟨_, ds_never, fun ρ Γ Γt A M N w h => h.elim⟩
end
end Fl

set_option Elab.async false
set_option linter.all false
set_option maxRecDepth 100000
set_option maxHeartbeats 4000000
/-! E22: in, of nested data; list(x) as a changing object; a, b = x, (new). -/
namespace Dl
open PySem PySem.Spec PyProof.Rows L2
section
variable {X : Cx} {E : L2.St → XK} {e a b : Expr} {pos p : Pos} {fa fb : FE} {g : FA}
/-! ### in -/
def rInP (K : PySem.W.Frag) (neg : Bool) : R2 := fun v w H Q => ∃ F M x ys, IsR K F M H v x ∧ IsR K F M H w (.lst ys) ∧ eqOk x = true ∧ eqOk (.lst ys) = true ∧ Q (.bl (if neg = true then !ys.any (fun z => eqD z x) else ys.any fun z => eqD z x)) H
theorem any_py {x : D} : ∀ {ys : List D}, (toPys ys).any (fun z => PyData.eqv z (toPy x)) = ys.any fun z => eqD z x
  | [] => by simp [toPys]
  | y :: ys => by
    rw [toPys, List.any_cons, List.any_cons, any_py]
    rfl
theorem toPy_lst {ys : List D} : toPy (.lst ys) = .list (toPys ys) := by rw [toPy]
theorem op_inP (hu : X.A.units + 65 < cLine) : OpR X (compareOp .In) (rInP X.K false) := by
  intro pins s σ H v w u t Q I rv rw' h
  obtain ⟨F, M, x, ys, hx, hy, ox, oy, q⟩ := h
  obtain ⟨px, sx⟩ := Bool.and_eq_true_iff.mp ox
  obtain ⟨py, sy⟩ := Bool.and_eq_true_iff.mp oy
  obtain ⟨as, r1⟩ := IsR.reads I px hx rv
  obtain ⟨bs, r2⟩ := IsR.reads I py hy rw'
  rw [toPy_lst] at r2 sy
  refine SeqAt.in_list_reads r2 r1 (SeqAt.canLay_of_shaped sy) (SeqAt.canLay_of_shaped sx) (room_in_shaped sx hu) ⟨.bl _, H, I, rfl, ?_⟩
  rw [any_py]
  exact q
theorem op_ninP (hu : X.A.units + 65 < cLine) : OpR X (compareOp .NotIn) (rInP X.K true) := by
  intro pins s σ H v w u t Q I rv rw' h
  obtain ⟨F, M, x, ys, hx, hy, ox, oy, q⟩ := h
  obtain ⟨px, sx⟩ := Bool.and_eq_true_iff.mp ox
  obtain ⟨py, sy⟩ := Bool.and_eq_true_iff.mp oy
  obtain ⟨as, r1⟩ := IsR.reads I px hx rv
  obtain ⟨bs, r2⟩ := IsR.reads I py hy rw'
  rw [toPy_lst] at r2 sy
  refine SeqAt.notIn_list_reads r2 r1 (SeqAt.canLay_of_shaped sy) (SeqAt.canLay_of_shaped sx) (room_in_shaped sx hu) ⟨.bl _, H, I, rfl, ?_⟩
  rw [any_py]
  exact q
def oInP (neg : Bool) : F2 := fun x y M k => match y with
  | .lst ys => (eqOk x = true ∧ eqOk (.lst ys) = true) ∧ k (.bl (if neg = true then !ys.any (fun z => eqD z x) else ys.any fun z => eqD z x)) M
  | _ => False
theorem opd_inP {K : PySem.W.Frag} {neg : Bool} : OpD K (rInP K neg) (wOp (oInP neg)) := opd_w fun F H M v w x y k Q R hv hw hg L => by
  cases y with
  | lst ys => exact ⟨_, _, x, ys, hv, hw, hg.1.1, hg.1.2, L.now R hg.2 (.bl _)⟩
  | _ => exact hg.elim
theorem d_inP (hu : X.A.units + 65 < cLine) (ha : DE X E a fa) (hb : DE X E b fb) (hm : behindInMarks .In b = false := by rfl) : DE X E (.Compare a [.In] [b] pos) (fOp (wOp (oInP false)) fa fb) := de_cmp (op_inP hu) opd_inP ha hb hm
theorem d_ninP (hu : X.A.units + 65 < cLine) (ha : DE X E a fa) (hb : DE X E b fb) (hm : behindInMarks .NotIn b = false := by rfl) : DE X E (.Compare a [.NotIn] [b] pos) (fOp (wOp (oInP true)) fa fb) := de_cmp (op_ninP hu) opd_inP ha hb hm
theorem t_inP (hu : X.A.units + 65 < cLine) (ha : DE X E a fa) (hb : DE X E b fb) (hm : behindInMarks .In b = false := by rfl) : DT X E (.Compare a [.In] [b] pos) (fTest (fOp (wOp (oInP false)) fa fb)) := dt_cmp (op_inP hu) opd_inP ha hb hm
theorem t_ninP (hu : X.A.units + 65 < cLine) (ha : DE X E a fa) (hb : DE X E b fb) (hm : behindInMarks .NotIn b = false := by rfl) : DT X E (.Compare a [.NotIn] [b] pos) (fTest (fOp (wOp (oInP true)) fa fb)) := dt_cmp (op_ninP hu) opd_inP ha hb hm
/-! ### list(x), a changing object -/
def lstOf : D → Option (List D)
  | .lst xs => some xs
  | .tup xs => some xs
  | .scr ns => some (ns.map .int)
  | _ => none
def fLstC (fe : FE) : GE → MS → (Cell → MS → Prop) → KX → Prop := fun Γ M k kx => fe Γ M (fun d M1 => ∃ xs, lstOf (vw M1 d) = some xs ∧ k (.lst xs) M1) kx
def gListM : FN := fun ds M k => match ds with
  | [d] => ∃ xs, lstOf d = some xs ∧ ∀ p, M p = none → k (.ref p) (upM M p (.lst xs))
  | _ => False
theorem cd_listM {K : PySem.W.Frag} : CallD K (fun xs H Q => (∃ p ys, xs = [.ref p] ∧ (SqL K H p ys ∨ SqT K H p ys) ∧ ∀ l, H l = none → Q (.ref l) (upd H l (.lst ys))) ∨
    ∃ z : Str, xs = [.str z] ∧ z.length ≤ sizeLine ∧ ∀ l, H l = none → Q (.ref l) (upd H l (.lst (z.cps.toList.map fun c => V.str ⟨#[c]⟩)))) (wCB gListM) := cd_w fun F H M vs ds k Q R hv hg L => by
  cases hv with
  | nil => exact hg.elim
  | cons v1 v2 =>
    cases v2 with
    | cons _ _ => exact hg.elim
    | nil =>
      obtain ⟨xs, e, hg⟩ := hg
      cases v1 with
      | lst h1 h2 => cases e; exact .inl ⟨_, _, rfl, .inl (SqL.of h1), new_lstM L R hg h2⟩
      | scr h1 => cases e; exact .inl ⟨_, _, rfl, .inl h1.sq, new_lstM L R hg (IsVs.ints _)⟩
      | tup h1 h2 => cases e; exact .inl ⟨_, _, rfl, .inr h1.sq, new_lstM L R hg h2⟩
      | _ => cases e
theorem c_listM (hc : X.calm = true) (hg : Gl X "list") (hm : X.mg "list" = none) (ha : DA X E [e] g) (he : starEach [e] X.env = (false, eval e X.env) :: starEach [] X.env := by rfl) : DE X E (.Call (.Name "list" p) [e] [] pos) (fCB (wCB gListM) g) := de_callTy (CallR.or call_list_of (call_listS hc)) cd_listM hg hm (by decide +kernel) ha (by decide) (by decide) he
end
end Dl
namespace Fl
open PySem PySem.Spec PyProof.Rows L2 Dl
def tInP (neg : Bool) (x y : D) : Option D := match y with
  | .lst ys => if eqOk x = true ∧ eqOk (.lst ys) = true then some (.bl (if neg = true then !ys.any (fun z => eqD z x) else ys.any fun z => eqD z x)) else none
  | _ => none
theorem opt_inP {neg : Bool} : OpT (oInP neg) (tInP neg) := by
  intro ρ x y dx dy M k t rx ry e q
  cases ry with
  | lst r =>
    simp only [tInP] at e
    split at e
    · rename_i h
      cases e
      have e1 := RT.plain x (eqOk_plain h.1) rx
      have e2 := RT.plain _ (eqOk_plain h.2) (RT.lst r)
      rw [e1]
      injection e2 with e2
      subst e2
      exact ⟨h, q _ (.bl _)⟩
    · cases e
  | _ => cases e
def cellL (d : D) : Option Cell := (lstOf d).map .lst
def mListC (m : Mo Opd) : Mo Cell := mBind m fun x => fun Γ A => match rdO x Γ A with
  | some d => mO (cellL d) Γ A
  | none => .no
def mParS (i j : Nat) (ma : Mo D) (mc : Mo Cell) : Ms := mE ma fun x => mE mc fun c => fun Γ A => if j = 0 then .no else .nx ((Γ.set i (.val x)).set j (.own c)) A
section
variable {κ : Kc} {X : Cx} {E : L2.St → XK} {a b e : Expr} {es : List Expr} {p pos : Pos} {ma mb : Mo D} {pa pb : Mo Opd} {mc : Mo Cell}
theorem me_inP (hu : X.A.units + 65 < cLine) (ha : MP κ X E a pa) (hb : MP κ X E b pb) (hm : behindInMarks .In b = false := by rfl) : ME κ X E (.Compare a [.In] [b] pos) (mOpW (tInP false) pa pb) := me_opWG opt_inP (fun h1 h2 => d_inP hu h1 h2 hm) ha hb
theorem me_ninP (hu : X.A.units + 65 < cLine) (ha : MP κ X E a pa) (hb : MP κ X E b pb) (hm : behindInMarks .NotIn b = false := by rfl) : ME κ X E (.Compare a [.NotIn] [b] pos) (mOpW (tInP true) pa pb) := me_opWG opt_inP (fun h1 h2 => d_ninP hu h1 h2 hm) ha hb
theorem mt_inP (hu : X.A.units + 65 < cLine) (ha : MP κ X E a pa) (hb : MP κ X E b pb) (hm : behindInMarks .In b = false := by rfl) : MT κ X E (.Compare a [.In] [b] pos) (mTest (mOpW (tInP false) pa pb)) := mt_opWG opt_inP (fun h1 h2 => t_inP hu h1 h2 hm) ha hb
theorem mt_ninP (hu : X.A.units + 65 < cLine) (ha : MP κ X E a pa) (hb : MP κ X E b pb) (hm : behindInMarks .NotIn b = false := by rfl) : MT κ X E (.Compare a [.NotIn] [b] pos) (mTest (mOpW (tInP true) pa pb)) := mt_opWG opt_inP (fun h1 h2 => t_ninP hu h1 h2 hm) ha hb
theorem lstOf_rt {ρ : List Addr} {x d : D} {xs : List D} (r : RT ρ x d) (e : lstOf x = some xs) : ∃ ys, lstOf d = some ys ∧ RTs ρ xs ys := by
  cases r with
  | lst t => cases e; exact ⟨_, rfl, t⟩
  | tup t => cases e; exact ⟨_, rfl, t⟩
  | scr ns => cases e; exact ⟨_, rfl, RTs.self (by induction ns with | nil => rfl | cons n ns ih => exact ih)⟩
  | _ => cases e
theorem mn_list (hc : X.calm = true) (hg : Gl X "list") (hm : X.mg "list" = none) (ha : MP κ X E a pa) (he : starEach [a] X.env = (false, eval a X.env) :: starEach [] X.env := by rfl) : MN κ X E (.Call (.Name "list" p) [a] [] pos) (mListC pa) := let ⟨f, d, s⟩ := ha.ex
  ⟨fLstC f, pe_w (c_listM hc hg hm (da_cons d da_nil he) he) fun σ H Q ⟨F', Γ, M, k, kx, R, q, LX, L⟩ => ⟨F', Γ, M, k, kx, R, q, LX, L⟩, fun ρ Γ => sim_bind (rel := rC) (fb := fun (x : D) Γ M k kx => ∃ xs, lstOf (vw M x) = some xs ∧ k (Cell.lst xs) M) (s ρ Γ) fun ρ1 x dx _ rx Γt A M k kx w h => by
    cases e3 : rdO x Γt A with
    | none => rw [e3] at h; exact h.elim
    | some t =>
      rw [e3] at h
      have r := rd_rel w rx e3
      have h : Sat κ rC (mO (cellL t) Γt A) ρ1 Γt A Γ M k kx := h
      unfold cellL at h
      cases e4 : lstOf t with
      | none => rw [e4] at h; exact (show False from h).elim
      | some xs =>
        rw [e4] at h
        obtain ⟨ys, e5, r5⟩ := lstOf_rt r e4
        exact ⟨ys, e5, h ρ1 M (.lst ys) w Stp.refl (.lst r5)⟩⟩
theorem ms_parS {E : XK} (i j : Nat) {x y : Str} {px py pt pos : Pos} {kt k2 pt2} (hc : X.calm = true) (hN : X.N.Nodup) (hi : X.N[i]? = some x) (hj : X.N[j]? = some y) (hij : i ≠ j)
    (hx : X.env.scope.names.lookup x = some .local) (hy : X.env.scope.names.lookup y = some .local) (ha : ME κ X (fun _ => E) a ma) (hb : MN κ X (fun _ => E) b mc)
    (hw : swappedStores [.Tuple [.Name x px, .Name y py] kt pt] (.Tuple [a, b] k2 pt2) X.env = pure (some [x, y]))
    (hs1 : starEach [a, b] X.env = (false, eval a X.env) :: starEach [b] X.env := by rfl) (hs2 : starEach [b] X.env = (false, eval b X.env) :: starEach [] X.env := by rfl)
    (hs : swapsWithSole [.Tuple [.Name x px, .Name y py] kt pt] (.Tuple [a, b] k2 pt2) pos.line X.env = pure false := by rfl) :
    MS1 κ X E (.Assign [.Tuple [.Name x px, .Name y py] kt pt] (.Tuple [a, b] k2 pt2) pos) (mParS i j ma mc) := let ⟨f, d, s⟩ := ha.ex; let ⟨g, d', s'⟩ := hb.ex
  ⟨_, ds_par i j hc hN hi hj hij hx hy (da_cons d (da_cons d' da_nil hs2) hs1) hw hs, fun ρ Γ => sims_bind (fb := fun (x : D) N Γ M => g Γ M (fun c M1 => ∀ p, M1 p = none → ∃ c' d', [x, D.ref p] = [c', d'] ∧ N.nx ((Γ.set i (some c')).set j (some d')) (upM M1 p c)) N.ex) (s ρ Γ) fun ρ1 x dx _ rx =>
    sims_bind (fb := fun c N Γ M1 => ∀ p, M1 p = none → ∃ c' d', [dx, D.ref p] = [c', d'] ∧ N.nx ((Γ.set i (some c')).set j (some d')) (upM M1 p c)) (s' ρ1 Γ) fun ρ2 c dc p2 r Γt A M N w h p hp => by
      split at h
      · exact h.elim
      · rename_i h0
        obtain ⟨w', st⟩ := (w.set i (RT.mono p2 _ rx)).setO j h0 hp r
        exact ⟨_, _, rfl, h _ _ _ w' (Stp.trans (Stp.refl.lessO fun _ z => own_set z) st)⟩⟩
end
end Fl

set_option Elab.async false
set_option linter.all false
set_option maxRecDepth 100000
set_option maxHeartbeats 4000000
/-! E23: C(e, .., k = v, ..). -/
namespace Dl
open PySem PySem.Spec PyProof.Rows L2
section
variable {X : Cx} {CX : CXT} {k n : Nat} {f C : Addr} {fd : FuncData} {ps ks : List Str} {sp : Sp} {pf : FNx} {x : Str} {p pos : Pos} {e : Expr} {es : List Expr} {kws : List Keyword} {t tk : TA} {E : L2.St → XK} {g gk : FA} {gg : List Value → List Value → List Value} {gV : List V → List V → List V} {gD : List D → List D → List D}
theorem run_makeGN {pins : List (Addr × Obj)} {σ : L2.St} {H : Hp} {s : Shared} {Q : VK} {E : XK} {us ws : List Value} {vs zs : List V} (M : Mk X.K C f) (F : FnG X.prog X.w X.K X.mg X.base CX k f fd ps sp) (hgd : X.A.guards = some []) (hr : Room (k + 1) X.A) (hb : KBn X.K fd ps (n + 1) ks gg gV)
    (hx : PassesAt CX X σ E) (I : L2.Inv X pins σ H s) (r : Vals vs us) (rz : Vals zs ws) (l1 : vs.length = n) (l2 : zs.length = ks.length)
    (h : ∀ x dx, H x = none → H dx = none → dx ≠ x → sp (gV (.ref x :: vs) zs) (upd (upd H dx (.own x)) x (.ins C dx [])) (fun v H2 => v = .non ∧ Q (.ref x) H2) E) :
    wpAny (model X.prog X.w) X.A (call (.ref C) us (ks.zip ws)) (EP X pins σ Q) X.xe s := by
  have n1 : H s.heap.objs.size = none := I.hok.fresh (Nat.le_refl _)
  have n2 : H (s.heap.objs.size + 1) = none := I.hok.fresh (Nat.le_succ _)
  have hq := h (s.heap.objs.size + 1) s.heap.objs.size n2 n1 (Nat.ne_of_lt (Nat.lt_succ_self _))
  have I2 := L2.Inv.made (C := C) I
  have r1 : Vals (V.ref (s.heap.objs.size + 1) :: vs) (Value.ref (s.heap.objs.size + 1) :: us) := .cons rfl r
  have r2 := hb.rel r1 rz
  have e1 : (Value.ref (s.heap.objs.size + 1) :: us).length = n + 1 := r1.length.symm.trans (congrArg Nat.succ l1)
  have e2 : ws.length = ks.length := rz.length.symm.trans l2
  refine wpAny_call (make_map (f := f) I.kIn M.makes M.init (beq_iff_eq.mp M.fn) (codeAny_mono (F.run _ X.stack _ _ ⟨Value.ref (s.heap.objs.size + 1) :: us, ks.zip ws⟩ (gg (Value.ref (s.heap.objs.size + 1) :: us) ws) _ _ E (by first | exact hgd | simpa using hgd) (hr.make C us (ks.zip ws))
    (I2.env0.make C us (ks.zip ws)) (hb.to _ (Value.ref (s.heap.objs.size + 1) :: us) ws I2.kIn e1 e2) r2 hq) fun r s' hq' => ?_))
  match r, hq' with
  | .error e, hq' => exact hx pins _ _ e s' I2 hq'
  | .ok (.ret u), hq' =>
    obtain ⟨v, H', I3, rv, ev, q3⟩ := I2.after hq'
    subst ev
    exact ⟨rv, ⟨V.ref (s.heap.objs.size + 1), H', I3, rfl, q3⟩⟩
def tMakeGN (C : Addr) (n m : Nat) (sp : Sp) (gV : List V → List V → List V) (E : L2.St → XK) (t tk : TA) : TE := fun σ H Q => t σ H fun vs H1 => tk σ H1 fun zs H2 => vs.length = n ∧ zs.length = m ∧
  ∀ x dx, H2 x = none → H2 dx = none → dx ≠ x → sp (gV (.ref x :: vs) zs) (upd (upd H2 dx (.own x)) x (.ins C dx [])) (fun v H3 => v = .non ∧ Q (.ref x) H3) (E σ)
theorem pe_makeEN {W : WX} (tw : Takes X W) (M : Mk X.K C f) (F : FnG X.prog X.w X.K X.mg X.base (L2.CX X.prog X.w) k f fd ps sp) (hgd : X.A.guards = some []) (hr : Room (k + 1) X.A) (hg : Gl X x) (hm : X.mg x = some (.ref C)) (hb : KBn X.K fd ps (n + 1) ks gg gV)
    (ha : PA X (e :: es) t) (hkw : PK X kws tk) (hall : (backToKw pos (keywordEach kws X.env)).all (·.1.isSome) = true := by rfl) (hks : (backToKw pos (keywordEach kws X.env)).filterMap (·.1) = ks := by rfl)
    (hdb : (x == ("__debug__" : Str)) = false := by decide) (he : starEach (e :: es) X.env = (false, eval e X.env) :: starEach es X.env := by rfl)
    (hpl : ((backTo pos (starEach (e :: es) X.env)).any (·.1) || (backToKw pos (keywordEach kws X.env)).any (·.1.isNone)) = false := by rfl) :
    PE X (.Call (.Name x p) (e :: es) kws pos) (tMakeGN C n ks.length sp gV (WE W) t tk) := by
  refine ⟨fun pins s σ H Q I h => ?_⟩
  refine wpAny_Call_Name_kw (ld_glob I hg hm ?_ hdb)
  refine PySem.W.callWith_KW (h₀ := X.base) I.ok.mod.kin M.kp hall (thn (ha.run pos pins s σ H _ I h) fun us s1 ⟨vs, H1, I1, r, q⟩ => ?_) hpl he
  refine thn (hkw.run pos pins s1 σ H1 _ I1 q) fun ws s2 ⟨zs, H2, I2, rz, l1, l2, q2⟩ => ⟨I2.kIn, ?_⟩
  rw [hks]
  exact run_makeGN M F hgd hr hb (passAt tw σ) I2 r rz l1 l2 q2
theorem pe_makeEN0 {W : WX} (tw : Takes X W) (M : Mk X.K C f) (F : FnG X.prog X.w X.K X.mg X.base (L2.CX X.prog X.w) k f fd ps sp) (hgd : X.A.guards = some []) (hr : Room (k + 1) X.A) (hg : Gl X x) (hm : X.mg x = some (.ref C)) (hb : KBn X.K fd ps (0 + 1) ks gg gV)
    (hkw : PK X kws tk) (hall : (backToKw pos (keywordEach kws X.env)).all (·.1.isSome) = true := by rfl) (hks : (backToKw pos (keywordEach kws X.env)).filterMap (·.1) = ks := by rfl)
    (hdb : (x == ("__debug__" : Str)) = false := by decide)
    (hpl : ((backTo pos (starEach [] X.env)).any (·.1) || (backToKw pos (keywordEach kws X.env)).any (·.1.isNone)) = false := by rfl) :
    PE X (.Call (.Name x p) [] kws pos) (tMakeGN C 0 ks.length sp gV (WE W) tNil tk) := by
  refine ⟨fun pins s σ H Q I h => ?_⟩
  refine wpAny_Call_Name_kw (ld_glob I hg hm (PySem.W.callWith_KW0 (h₀ := X.base) I.ok.mod.kin M.kp hall (thn (hkw.run pos pins s σ H _ I h) ?_) hpl) hdb)
  rintro ws s2 ⟨zs, H2, I2, rz, l1, l2, q2⟩
  refine ⟨I2.kIn, ?_⟩
  rw [hks]
  exact run_makeGN M F hgd hr hb (passAt tw σ) I2 (vs := []) (us := []) .nil rz l1 l2 q2
def fMakeN (C : Addr) (n m : Nat) (pf : FNx) (gD : List D → List D → List D) (g gk : FA) : FE := fun Γ M k kx => g Γ M (fun ds M1 => gk Γ M1 (fun es M2 => (ds.length = n ∧ es.length = m) ∧ ∀ p, M2 p = none → pf (.ref p :: gD ds es) (upM M2 p (.ins C [])) (fun v M3 => v = .non ∧ ∃ fs, M3 p = some (.ins C fs) ∧ k (.ins C fs) (delM M3 p)) kx) kx) kx
theorem li_makeN {K : PySem.W.Frag} {m : Nat} {σ : L2.St} {H : Hp} {Q : VK} (hD : ∀ P H p vs ds zs es, IsVs K P H vs ds → IsVs K P H zs es → ds.length = n → es.length = m → IsVs K P H (gV (.ref p :: vs) zs) (.ref p :: gD ds es)) (h : liE K E (fMakeN C n m pf gD g gk) σ H Q) : tMakeGN C n m (spX K pf) gV E (liA K E g) (liA K E gk) σ H Q := by
  obtain ⟨F, Γ, M, k, kx, R, q, LX, L⟩ := h
  refine ⟨F, Γ, M, _, kx, R, q, LX, fun xs M0 vs H0 h0 g0 R0 i0 => ?_⟩
  refine ⟨F, Γ, M0, _, kx, R.go g0 R0, h0, LX.go g0, fun ys M1 zs H1 h1 g1' R1 i1 => ?_⟩
  obtain ⟨⟨l1, l2⟩, h1⟩ := h1
  have g1 := g0.trans g1'
  have i0 := IsVs.kp g1'.to_kp _ _ i0
  refine ⟨by rw [i0.length]; exact l1, by rw [i1.length]; exact l2, fun p dx hp hdx ne => ?_⟩
  have R2 : RepM K F (upd H1 dx (.own p)) M1 := R1.new hdx
  have g2 : Go H1 M1 (upd H1 dx (.own p)) M1 := Go.new (K := K) (F := F) hdx
  have hp2 : upd H1 dx (.own p) p = none := by rw [upd_ne (Ne.symm ne)]; exact hp
  have g3 : Go (upd H1 dx (.own p)) M1 (upd (upd H1 dx (.own p)) p (.ins C dx [])) (upM M1 p (.ins C [])) := Go.newM R2 hp2
  have R3 : RepM K F (upd (upd H1 dx (.own p)) p (.ins C dx [])) (upM M1 p (.ins C [])) := R2.newM hp2 ⟨dx, [], upd_same, .nil⟩
  have G := (g1.trans g2).trans g3
  refine ⟨F, .ref p :: gD xs ys, _, _, kx, R3, hD _ _ _ _ _ _ _ (IsVs.kp (g2.trans g3).to_kp _ _ i0) (IsVs.kp (g2.trans g3).to_kp _ _ i1) l1 l2, h1 p (R1.freshM hp), LX.go G, fun d M' v H' hk g' R' i => ?_⟩
  obtain ⟨rfl, fs, hp', hk⟩ := hk
  cases i
  exact ⟨rfl, L _ (delM M' p) _ H' hk ((G.trans g').trans Go.del) (R'.del p) (frozen R' hp' rfl)⟩
end
end Dl
namespace Fl
open PySem PySem.Spec PyProof.Rows L2 Dl
def callN (n m : Nat) (F : Fn) (gD : List D → List D → List D) (xs ys : List D) : Mo D := if xs.length = n ∧ ys.length = m then callF F (gD xs ys) else fun _ _ => .no
def mCallN (n m : Nat) (F : Fn) (gD : List D → List D → List D) (as ks : Mo (List D)) : Mo D := mBind as fun xs => mBind ks fun ys => callN n m F gD xs ys
/-- positions, defaults, keywords -/
def argG {α : Type} (n m : Nat) (is : List Nat) (us ds ws : List α) : List α := if us.length = n ∧ ws.length = m then pick is (us ++ ds ++ ws) else []
def selfG {α : Type} (h : List α → List α → List α) (us ws : List α) : List α := match us with
  | u :: us => u :: h us ws
  | [] => []
section
variable {κ : Kc} {X : Cx} {k n c : Nat} {f C : Addr} {fd : FuncData} {ps ks : List Str} {F : Fn} {x : Str} {p pos : Pos} {e : Expr} {es : List Expr} {kws : List Keyword} {as ms : Mo (List D)} {gg : List Value → List Value → List Value} {gV : List V → List V → List V} {gD : List D → List D → List D}
theorem sim_makeN {m : Nat} {g gk : FA} (hc : κ.cls[c]? = some C) (hT : ∀ ρ xs ds ys es, RTs ρ xs ds → RTs ρ ys es → RTs ρ (gD xs ys) (gD ds es)) (s : Sim κ rA g as) (s' : Sim κ rA gk ms) : Sim κ rD (fMakeN C n m (pfI κ.cls c F) gD g gk) (mCallN n m F gD as ms) := fun ρ Γ =>
  sim_bind (rel := rD) (mb := fun xs => mBind ms fun ys => callN n m F gD xs ys) (fb := fun (ds : List D) Γ M k kx => gk Γ M (fun es M2 => (ds.length = n ∧ es.length = m) ∧ ∀ p, M2 p = none → pfI κ.cls c F (.ref p :: gD ds es) (upM M2 p (.ins C [])) (fun v M3 => v = .non ∧ ∃ fs, M3 p = some (.ins C fs) ∧ k (.ins C fs) (delM M3 p)) kx) kx) (s ρ Γ) fun ρ1 xs ds _ r =>
    sim_bind (rel := rD) (mb := fun ys => callN n m F gD xs ys) (fb := fun (es : List D) Γ M k kx => (ds.length = n ∧ es.length = m) ∧ ∀ p, M p = none → pfI κ.cls c F (.ref p :: gD ds es) (upM M p (.ins C [])) (fun v M3 => v = .non ∧ ∃ fs, M3 p = some (.ins C fs) ∧ k (.ins C fs) (delM M3 p)) kx) (s' ρ1 Γ) fun ρ2 ys es p2 r2 Γt A M k kx w h => by
      unfold callN at h
      split at h
      · rename_i hl
        have r' := RTs.mono p2 _ r
        refine ⟨⟨by rw [r'.length]; exact hl.1, by rw [r2.length]; exact hl.2⟩, ?_⟩
        exact sim_mk hc (hT _ _ _ _ _ r' r2) Γt A M k kx w h
      · exact (show False from h).elim
theorem me_makeN {W : WX} {m : Nat} (G : FnG X.prog X.w X.K X.mg X.base (L2.CX X.prog X.w) k f fd ps (spX X.K (pfI κ.cls c F))) (tw : Takes X W) (Mc : Mk X.K C f) (hc : κ.cls[c]? = some C) (hgd : X.A.guards = some []) (hr : Room (k + 1) X.A) (hg : Gl X x) (hm : X.mg x = some (.ref C)) (hb : KBn X.K fd ps (n + 1) ks gg gV)
    (hD : ∀ P H p vs ds zs es, IsVs X.K P H vs ds → IsVs X.K P H zs es → ds.length = n → es.length = ks.length → IsVs X.K P H (gV (.ref p :: vs) zs) (.ref p :: gD ds es))
    (hT : ∀ ρ xs ds ys es, RTs ρ xs ds → RTs ρ ys es → RTs ρ (gD xs ys) (gD ds es))
    (ha : MA κ X (WE W) (e :: es) as) (hkw : MK κ X (WE W) kws ms) (hall : (backToKw pos (keywordEach kws X.env)).all (·.1.isSome) = true := by rfl) (hks : (backToKw pos (keywordEach kws X.env)).filterMap (·.1) = ks := by rfl)
    (hdb : (x == ("__debug__" : Str)) = false := by decide) (he : starEach (e :: es) X.env = (false, eval e X.env) :: starEach es X.env := by rfl)
    (hpl : ((backTo pos (starEach (e :: es) X.env)).any (·.1) || (backToKw pos (keywordEach kws X.env)).any (·.1.isNone)) = false := by rfl)
    (hl : ks.length = m := by rfl) : ME κ X (WE W) (.Call (.Name x p) (e :: es) kws pos) (mCallN n m F gD as ms) := by
  subst hl
  obtain ⟨g, d, s⟩ := ha.ex
  obtain ⟨gk, d', s'⟩ := hkw.ex
  exact ⟨_, pe_w (pe_makeEN tw Mc G hgd hr hg hm hb d d'.pk hall hks hdb he hpl) fun _ _ _ => li_makeN hD, sim_makeN hc hT s s'⟩
theorem me_makeN0 {W : WX} {m : Nat} (G : FnG X.prog X.w X.K X.mg X.base (L2.CX X.prog X.w) k f fd ps (spX X.K (pfI κ.cls c F))) (tw : Takes X W) (Mc : Mk X.K C f) (hc : κ.cls[c]? = some C) (hgd : X.A.guards = some []) (hr : Room (k + 1) X.A) (hg : Gl X x) (hm : X.mg x = some (.ref C)) (hb : KBn X.K fd ps (0 + 1) ks gg gV)
    (hD : ∀ P H p vs ds zs es, IsVs X.K P H vs ds → IsVs X.K P H zs es → ds.length = 0 → es.length = ks.length → IsVs X.K P H (gV (.ref p :: vs) zs) (.ref p :: gD ds es))
    (hT : ∀ ρ xs ds ys es, RTs ρ xs ds → RTs ρ ys es → RTs ρ (gD xs ys) (gD ds es))
    (hkw : MK κ X (WE W) kws ms) (hall : (backToKw pos (keywordEach kws X.env)).all (·.1.isSome) = true := by rfl) (hks : (backToKw pos (keywordEach kws X.env)).filterMap (·.1) = ks := by rfl)
    (hdb : (x == ("__debug__" : Str)) = false := by decide)
    (hpl : ((backTo pos (starEach [] X.env)).any (·.1) || (backToKw pos (keywordEach kws X.env)).any (·.1.isNone)) = false := by rfl)
    (hl : ks.length = m := by rfl) : ME κ X (WE W) (.Call (.Name x p) [] kws pos) (mCallN 0 m F gD mNil ms) := by
  subst hl
  obtain ⟨gk, d', s'⟩ := hkw.ex
  exact ⟨_, pe_w (pe_makeEN0 tw Mc G hgd hr hg hm hb d'.pk hall hks hdb hpl) fun σ H Q h => by
    obtain ⟨F', Γ, M, k, kx, R, q, LX, L⟩ := li_makeN (g := fNil) hD h
    exact L [] M [] H q (Go.refl _ _) R.mem .nil, sim_makeN (g := fNil) hc hT (fun ρ Γ => sim_ret fun M k kx q => q _ .nil) s'⟩
theorem argG_is {m : Nat} {is : List Nat} {K : PySem.W.Frag} {P : Addr → Prop} {H : Hp} {vs zs dv : List V} {ds es dd : List D} (h : IsVs K P H vs ds) (hd : IsVs K P H dv dd) (h2 : IsVs K P H zs es) : IsVs K P H (argG n m is vs dv zs) (argG n m is ds dd es) := by
  unfold argG
  rw [h.length, h2.length]
  split
  · exact pick_is ((h.append hd).append h2)
  · exact .nil
theorem argG_rt {m : Nat} {is : List Nat} {ρ : List Addr} {xs ys ds es dd : List D} (h : RTs ρ xs ds) (hd : plains dd = true) (h2 : RTs ρ ys es) : RTs ρ (argG n m is xs dd ys) (argG n m is ds dd es) := by
  unfold argG
  rw [h.length, h2.length]
  split
  · exact pick_rt ((h.append (RTs.self hd)).append h2)
  · exact .nil
theorem argG_vals {m : Nat} {is : List Nat} {vs zs dv : List V} {us ws du : List Value} (h : Vals vs us) (hd : Vals dv du) (h2 : Vals zs ws) : Vals (argG n m is vs dv zs) (argG n m is us du ws) := by
  unfold argG
  rw [h.length, h2.length]
  split
  · exact pick_vals ((h.append hd).append h2)
  · exact .nil
theorem selfG_vals {hV : List V → List V → List V} {hU : List Value → List Value → List Value} (h : ∀ {vs us zs ws}, Vals vs us → Vals zs ws → Vals (hV vs zs) (hU us ws)) {vs zs : List V} {us ws : List Value} (r : Vals vs us) (r2 : Vals zs ws) : Vals (selfG hV vs zs) (selfG hU us ws) := by
  cases r with
  | nil => exact .nil
  | cons r1 r3 => exact .cons r1 (h r3 r2)
end
end Fl

set_option Elab.async false
set_option linter.all false
set_option maxRecDepth 100000
set_option maxHeartbeats 4000000
/-! E24: None == an own one. -/
namespace PySem.W
open PySem PySem.Calls PyProof.Rows Builtin
section
variable {prog : Program} {w : World} {A : Around} {E : Value → Shared → Prop} {s : Shared} {K : Frag} {x C L f : Addr} {h₀ : Heap} {m : Str → Option Value} {ox : Obj} {od : Option Obj}
theorem NN (l : Addr) : Gives (Builtin.«NoneType.__eq__» ⟨[.none, .ref l], []⟩) (.val (Value.notImplemented)) :=
  .of_wp fun M A E s Q h => by obtain ⟨hp, g, d, tk, os⟩ := s; wp_walk; exact ⟨_, rfl, h⟩
theorem noneEq_K {Q : Value → Shared → Prop} (hu : A.units < cLine) (hF : Fr h₀ L s.heap m) (X₀ : K.In h₀) (I : InstAt s.heap x ox C od) (hsub : subIn K (.ref C) (.type "NoneType") = some false)
    (hs : findIn K (.ref C) "__eq__" = some (some (.ref f))) (hf : isFn K (.ref f) = true)
    (h : wpAny (model prog w) A (call (.ref f) [.ref x, .none]) (CmpBack Q) E s) : wpAny (model prog w) A (richCompare .Eq .none (.ref x)) Q E s := by
  have X := X₀.keeps hF.keep
  have hn : s.TypeIs .none "NoneType" := rfl
  have one : wpAny (model prog w) A (tryCompare (.ref x) (cmpInfo .Eq).2.2 .none) (fun r s' => ∃ v, r = some v ∧ Q v s') E s := by
    unfold tryCompare
    refine wpAny_bind (ifBound_K X I hs hf (wpAny_mono h (fun v s' hv => ?_) fun _ _ e => e))
    cases v <;> first | exact hv.elim | exact wpAny_pure ⟨_, rfl, hv⟩
  have no : wpAny (model prog w) A (tryCompare .none (cmpInfo .Eq).2.1 (.ref x)) (fun r s' => r = none ∧ s' = s) E s :=
    wpAny_tryCompare_declines hn F.slot_NoneType_eq (call_gives F.slot_NoneType_eq hn F.entry_NoneType_eq (F.args_NoneType_eq_2 _ _) (NN x) (show _ ∧ _ from ⟨rfl, rfl, rfl⟩))
  simp only [richCompare, hn.oneThing_none]
  refine wpAny_holding (wpAny_bind (wpAny_cRoomFor hu ?_))
  refine wpAny_bind (wpAny_typeOf hn (wpAny_bind (I.type.here ?_)))
  rw [show (Value.type "NoneType" != Value.ref C) = true from rfl]
  simp only [if_true]
  refine wpAny_bind ((looks_subIn X hsub).here ?_)
  simp only [Bool.false_eq_true, if_false, Bool.not_false, if_true]
  refine wpAny_bind (wpAny_mono no (fun r s' z => ?_) fun _ _ e => e)
  obtain ⟨rfl, rfl⟩ := z
  refine wpAny_bind (wpAny_mono one (fun r s' z => ?_) fun _ _ e => e)
  obtain ⟨v, rfl, hq⟩ := z
  exact wpAny_pure hq
end
end PySem.W
namespace L2
theorem Room.u65 {k : Nat} {A : PySem.Around} (r : Room k A) : A.units + 65 < PySem.cLine := by
  have := r.un
  omega
end L2
namespace Dl
open PySem PySem.Spec PyProof.Rows L2
section
variable {X : Cx} {k : Nat} {C f : Addr} {fd : FuncData} {ps : List Str} {sp : Sp} {pf : FN}
def rEqNO (C : Addr) (sp : Sp) : R2 := fun x y H Q => ∃ a dx fs, x = .non ∧ y = .ref a ∧ H a = some (.ins C dx fs) ∧ sp [y, x] H Q E0
theorem op_eqNO (hs : PySem.W.subIn X.K (.ref C) (.type "NoneType") = some false) (hm : Meth X.K C "__eq__" f) (F : FnG X.prog X.w X.K X.mg X.base CX0 k f fd ps sp) (hgd : X.A.guards = some []) (hr : Room (k + 1) X.A) (hb : Binds X.K fd ps []) : OpR X (compareOp .Eq) (rEqNO C sp) := by
  intro pins s σ H x y v u Q I rx ry ⟨a, dx, fs, ex, ey, ha, h⟩
  subst ex; subst ey
  cases (show v = Value.none from rx)
  cases (show u = Value.ref a from ry)
  obtain ⟨mA, O, _⟩ := ins_get I.hok ha
  obtain ⟨od, J, _⟩ := O.look
  obtain ⟨m, hF⟩ := I.fr
  show wpAny _ _ (richCompare .Eq .none (.ref a)) _ _ _
  refine PySem.W.noneEq_K hr.units0 hF I.ok.mod.kin J hs hm.at_ hm.fn (wpAny_mono (own_call I (.inl rfl) F hgd hr hb ry rx h) (fun r s' z => ?_) fun _ _ x => x)
  obtain ⟨vv, H', I', rv, q⟩ := z
  exact back_of rv ⟨vv, H', I', rv, q⟩
def gEqNO (C : Addr) (pf : FN) : F2 := fun x y M k => (x = .non ∧ (∃ fs, vw M y = .ins C fs) ∧ pf [y, x] M k) ∨ gEqO C pf x y M k
theorem opd_eqNO {K : PySem.W.Frag} (T : EqOwn K C) : OpD K (fun x y H Q => rEqNO C (spD K pf) x y H Q ∨ rEqO K C (spD K pf) x y H Q) (gEqNO C pf) := by
  intro F H M v w x y k Q R iv iw hg L
  rcases hg with ⟨ex, ⟨fs, ey⟩, hp⟩ | hg
  · subst ex
    have i2 := iw.rd R
    rw [ey] at i2
    cases i2 with
    | ins h1 h2 =>
      cases iv
      exact .inl ⟨_, _, _, rfl, rfl, h1, F, [y, .non], M, _, R, .cons iw (.cons .non .nil), hp, L⟩
  · exact .inr (opd_eqO T F H M v w x y k Q R iv iw hg L)
end
end Dl
namespace Fl
open PySem PySem.Spec PyProof.Rows L2 Dl
def eqN (c : Nat) (F : Fn) (x y : D) : Mo D := match x with
  | .non => mBind (isIns c none y) fun _ => fun Γ A => calmR (callF F [y, .non] Γ A)
  | x => mBind (isIns c none x) fun _ => mBind (isSame c y) fun _ => fun Γ A => calmR (callF F [x, y] Γ A)
def mEqNO (c : Nat) (F : Fn) (a b : Mo D) : Mo D := mBind a fun x => mBind b fun y => eqN c F x y
section
variable {κ : Kc} {X : Cx} {E : L2.St → XK} {k c C : Nat} {f : Addr} {fd : FuncData} {ps : List Str} {F : Fn} {a b : Expr} {pos : Pos} {ma mb : Mo D}
theorem sim_eqNO {fa fb : FE} (hc : κ.cls[c]? = some C) (ha : Sim κ rD fa ma) (hb : Sim κ rD fb mb) : Sim κ rD (fOp (gEqNO C (fun ds M k => pfT κ.cls F ds M k noX)) fa fb) (mEqNO c F ma mb) := fun ρ Γ =>
  sim_bind (fb := fun x Γ M k kx => fb Γ M (fun y M2 => gEqNO C (fun ds M k => pfT κ.cls F ds M k noX) x y M2 k) kx) (ha ρ Γ) fun ρ1 x dx _ rx => sim_bind (fb := fun y Γ M k kx => gEqNO C (fun ds M k => pfT κ.cls F ds M k noX) dx y M k) (hb ρ1 Γ) fun ρ2 y dy p ry Γt A M k kx w h => by
    have other : Sat κ rD (mBind (isIns c none x) (fun _ => mBind (isSame c y) fun _ => fun Γ A => calmR (callF F [x, y] Γ A)) Γt A) ρ2 Γt A Γ M k kx → gEqNO C (fun ds M k => pfT κ.cls F ds M k noX) dx dy M k := fun h => by
      obtain ⟨fs, h1, _, h3⟩ := sim_isIns (fb := fun Γ M k kx => ((∃ n, typeD (vw M dy) = some n) ∨ ∃ gs, vw M dy = .ins C gs) ∧ pfT κ.cls F [dx, dy] M k noX) (nm := none) hc (RT.mono p _ rx) (sim_isSame (fb := fun Γ M k kx => pfT κ.cls F [dx, dy] M k noX) hc ry (fun Γt A M k kx w h => sim_callF (F := F) (.cons (RT.mono p _ rx) (.cons ry .nil)) Γt A M k noX w (sat_calm h))) Γt A M k kx w h
      exact .inr ⟨⟨fs, h1⟩, h3⟩
    cases rx with
    | non =>
      obtain ⟨fs, h1, _, h3⟩ := sim_isIns (fb := fun Γ M k kx => pfT κ.cls F [dy, .non] M k noX) (nm := none) hc ry (fun Γt A M k kx w h => sim_callF (F := F) (.cons ry (.cons .non .nil)) Γt A M k noX w (sat_calm h)) Γt A M k kx w h
      exact .inl ⟨rfl, ⟨fs, h1⟩, h3⟩
    | _ => exact other h
theorem me_eqNO (hN : PySem.W.subIn X.K (.ref C) (.type "NoneType") = some false) (T : EqOwn X.K C) (G : FnG X.prog X.w X.K X.mg X.base (L2.CX X.prog X.w) k f fd ps (spX X.K (pfT κ.cls F))) (hc : κ.cls[c]? = some C) (hm : Meth X.K C "__eq__" f) (hgd : X.A.guards = some []) (hr : Room (k + 1) X.A) (hb : Binds X.K fd ps [])
    (h1 : ME κ X E a ma) (h2 : ME κ X E b mb) : ME κ X E (.Compare a [.Eq] [b] pos) (mEqNO c F ma mb) := let ⟨_, d1, s1⟩ := h1.ex; let ⟨_, d2, s2⟩ := h2.ex
  ⟨_, de_cmp (Dl.OpR.or (op_eqNO hN hm (fng_calm G) hgd hr hb) (op_eqO hm (fng_calm G) hgd hr hb)) (opd_eqNO T) d1 d2 (nomark _), sim_eqNO hc s1 s2⟩
end
end Fl

set_option Elab.async false
set_option linter.all false
set_option maxRecDepth 100000
set_option maxHeartbeats 4000000
/-! E25: what is shown, and how long it is; texts of ints. -/
namespace Fl
open PySem PySem.Spec PyProof.Rows L2 Dl
def ShOk (d : D) (e n : Nat) : Prop := plain d = true ∧ (toPy d).showable = true ∧ (toPy d).hasDict = false ∧ (toPy d).depth ≤ e ∧ (toPy d).shown.length ≤ n
def ShOks (ds : List D) (e n : Nat) : Prop := plains ds = true ∧ PyData.showableAll (toPys ds) = true ∧ PyData.hasDictAll (toPys ds) = false ∧ PyData.depthAll (toPys ds) ≤ e ∧ ((PyData.shownAll (toPys ds)).map fun t => t.length + 2).sum ≤ n
theorem sh_non {e : Nat} : ShOk .non e 4 := by
  refine ⟨rfl, by simp [toPy, PyData.showable], by simp [toPy, PyData.hasDict], by simp [toPy, PyData.depth], ?_⟩
  simp only [toPy, PyData.shown]
  decide
theorem sh_bl {b : Bool} {e : Nat} : ShOk (.bl b) e 5 := by
  refine ⟨rfl, by simp [toPy, PyData.showable], by simp [toPy, PyData.hasDict], by simp [toPy, PyData.depth], ?_⟩
  simp only [toPy, PyData.shown]
  cases b <;> decide
theorem sh_int {i : Int} {e : Nat} (h : i.natAbs.log2 < 1920) : ShOk (.int i) e 1921 := by
  refine ⟨rfl, by simp [toPy, PyData.showable, h], by simp [toPy, PyData.hasDict], by simp [toPy, PyData.depth], ?_⟩
  simp only [toPy, PyData.shown]
  exact int_text_len_1921 h
theorem sh_str {x : Str} {e n : Nat} (hx : ∀ c ∈ x.cps.toList, c < 16 ^ 8) (hn : x.length ≤ n) : ShOk (.str x) e (10 * n + 2) := by
  refine ⟨rfl, by simp [toPy, PyData.showable], by simp [toPy, PyData.hasDict], by simp [toPy, PyData.depth], ?_⟩
  simp only [toPy, PyData.shown]
  have := StrLaws.reprText_len x hx
  omega
theorem shs_nil {e : Nat} : ShOks [] e 0 := ⟨rfl, by simp [toPys, PyData.showableAll], by simp [toPys, PyData.hasDictAll], by simp [toPys, PyData.depthAll], by simp [toPys, PyData.shownAll]⟩
theorem shs_cons {d : D} {ds : List D} {e n m : Nat} (h : ShOk d e n) (t : ShOks ds e m) : ShOks (d :: ds) e (n + 2 + m) := by
  obtain ⟨h1, h2, h3, h4, h5⟩ := h
  obtain ⟨t1, t2, t3, t4, t5⟩ := t
  refine ⟨?_, ?_, ?_, ?_, ?_⟩
  · show (plain d && plains ds) = true
    rw [h1, t1]
    rfl
  · rw [toPys, PyData.showableAll, h2, t2]
    rfl
  · rw [toPys, PyData.hasDictAll, h3, t3]
    rfl
  · rw [toPys, PyData.depthAll]
    exact Nat.max_le.mpr ⟨h4, t4⟩
  · rw [toPys, PyData.shownAll, List.map_cons, List.sum_cons]
    omega
theorem textFrom_le : ∀ (ts : List Str) (k : Nat) (acc : Str), (textFrom k acc ts).length ≤ acc.length + (ts.map fun t => t.length + 2).sum
  | [], k, acc => by simp [textFrom]
  | t :: r, k, acc => by
    have h := textFrom_le r (k + 1) (acc ++ (if k > 0 then ", " else "" : String) ++ t)
    have e : (acc ++ (if k > 0 then ", " else "" : String) ++ t).length ≤ acc.length + 2 + t.length := by
      rw [strLen_append, strLen_append]
      split
      · show acc.length + 2 + t.length ≤ _
        omega
      · show acc.length + 0 + t.length ≤ _
        omega
    rw [List.map_cons, List.sum_cons]
    show (textFrom (k + 1) _ r).length ≤ _
    omega
theorem sh_lst {ds : List D} {e n : Nat} (h : ShOks ds e n) : ShOk (.lst ds) (e + 1) (n + 2) := by
  obtain ⟨h1, h2, h3, h4, h5⟩ := h
  refine ⟨h1, by simp only [toPy, PyData.showable, h2], by simp only [toPy, PyData.hasDict, h3], by simp only [toPy, PyData.depth]; omega, ?_⟩
  simp only [toPy, PyData.shown]
  unfold listText
  rw [strLen_append]
  have := textFrom_le (PyData.shownAll (toPys ds)) 0 "["
  have e1 : ((("[" : String) : Str)).length = 1 := rfl
  have e2 : ((("]" : String) : Str)).length = 1 := rfl
  rw [e1] at this
  rw [e2]
  omega
theorem sh_repr {d : D} {e n : Nat} (h : ShOk d e n) (he : e ≤ 60) (hn : n ≤ 16777216) : tRepr d = some (.str (toPy d).shown) := by
  obtain ⟨h1, h2, h3, h4, h5⟩ := h
  unfold tRepr
  rw [if_pos ⟨h1, h2, h3, by omega, by rw [sz_eq]; omega⟩]
/-! ### texts that are equal -/
def oEqS (neg : Bool) : F2 := fun x y M k => ∃ a b, x = .str a ∧ y = .str b ∧ k (.bl (if neg = true then !decide (a = b) else decide (a = b))) M
def tEqS (neg : Bool) (x y : D) : Option D := match x, y with
  | .str a, .str b => some (.bl (if neg = true then !decide (a = b) else decide (a = b)))
  | _, _ => none
theorem opt_eqS {neg : Bool} : OpT (oEqS neg) (tEqS neg) := by
  intro ρ x y dx dy M k t rx ry e q
  cases rx with
  | str a =>
    cases ry with
    | str b => cases e; exact ⟨a, b, rfl, rfl, q _ (.bl _)⟩
    | _ => cases e
  | _ => cases ry <;> cases e
theorem dec_strV {a b : Str} : decide (V.str a = V.str b) = decide (a = b) := by
  rw [Bool.eq_iff_iff]
  simp
theorem opd_eqS {K : PySem.W.Frag} : OpD K rEq (oEqS false) := by
  rintro F H M v w x y k Q R iv iw ⟨a, b, rfl, rfl, hk⟩ L
  cases iv
  cases iw
  exact ⟨rfl, by rw [dec_strV]; exact L.now R hk (.bl _)⟩
theorem opd_neS {K : PySem.W.Frag} : OpD K rNe (oEqS true) := by
  rintro F H M v w x y k Q R iv iw ⟨a, b, rfl, rfl, hk⟩ L
  cases iv
  cases iw
  exact ⟨rfl, by rw [dec_strV]; exact L.now R hk (.bl _)⟩
section
variable {κ : Kc} {X : Cx} {E : L2.St → XK} {a b : Expr} {pos : Pos} {ma mb : Mo D}
theorem me_eqS (ha : ME κ X E a ma) (hb : ME κ X E b mb) : ME κ X E (.Compare a [.Eq] [b] pos) (mOp (tEqS false) ma mb) := me_opG opt_eqS (fun h1 h2 => de_cmp op_eq opd_eqS h1 h2 (nomark _)) ha hb
theorem me_neS (ha : ME κ X E a ma) (hb : ME κ X E b mb) : ME κ X E (.Compare a [.NotEq] [b] pos) (mOp (tEqS true) ma mb) := me_opG opt_eqS (fun h1 h2 => de_cmp op_ne opd_neS h1 h2 (nomark _)) ha hb
theorem mt_eqS (ha : ME κ X E a ma) (hb : ME κ X E b mb) : MT κ X E (.Compare a [.Eq] [b] pos) (mTest (mOp (tEqS false) ma mb)) := mt_opG opt_eqS (fun h1 h2 => dt_cmp op_eq opd_eqS h1 h2 (nomark _)) ha hb
theorem mt_neS (ha : ME κ X E a ma) (hb : ME κ X E b mb) : MT κ X E (.Compare a [.NotEq] [b] pos) (mTest (mOp (tEqS true) ma mb)) := mt_opG opt_eqS (fun h1 h2 => dt_cmp op_ne opd_neS h1 h2 (nomark _)) ha hb
end
/-! ### texts of ints, joined -/
theorem str_assoc (a b c : Str) : a ++ b ++ c = a ++ (b ++ c) := Str.append_assoc a b c
theorem str_nil (a : Str) : Str.empty ++ a = a := Str.append_left_empty rfl
theorem join4 (s a b c d : Str) : Txt.join s [a, b, c, d] = a ++ (s ++ (b ++ (s ++ (c ++ (s ++ d))))) := by
  rw [TL.join_eq]
  show a ++ s ++ (b ++ s ++ (c ++ s ++ d)) = _
  simp only [str_assoc]
end Fl

set_option Elab.async false
set_option linter.all false
set_option maxRecDepth 100000
set_option maxHeartbeats 4000000
/-! E26: the later functions, by simp. -/
namespace Fl
open PySem
open Dl (D Cell)
section
variable {Γ : SG} {A : AH}
theorem xq_inO {neg : Bool} {c : Nat} {F : Fn} {a b : Mo D} : mInO neg c F a b Γ A = (a Γ A).bind fun x => mBind b fun y => mBind (isIns c none y) fun _ => fun Γ A => blK neg ((F [y, x] A).back Γ) := by
  unfold mInO mBind
  simp only [xp_callF]
theorem xq_eqO {c : Nat} {F : Fn} {a b : Mo D} : mEqO c F a b Γ A = (a Γ A).bind fun x => mBind b fun y => mBind (isIns c none x) fun _ => mBind (isSame c y) fun _ => fun Γ A => calmR ((F [x, y] A).back Γ) := by
  unfold mEqO mBind
  simp only [xp_callF]
theorem xq_neO {c : Nat} {F : Fn} {a b : Mo D} : mNeO c F a b Γ A = (a Γ A).bind fun x => mBind b fun y => mBind (isIns c none x) fun _ => mBind (isSame c y) fun _ => fun Γ A => blK true ((F [x, y] A).back Γ) := by
  unfold mNeO mBind
  simp only [xp_callF]
theorem xq_binO {c : Nat} {F : Fn} {a b : Mo D} : mBinO c F a b Γ A = (a Γ A).bind fun x => mBind b fun y => mBind (isIns c none x) fun _ => mBind (isIns c none y) fun _ => fun Γ A => calmR ((F [x, y] A).back Γ) := by
  unfold mBinO mBind
  simp only [xp_callF]
theorem xq_eqNO {c : Nat} {F : Fn} {a b : Mo D} : mEqNO c F a b Γ A = (a Γ A).bind fun x => mBind b fun y => eqN c F x y := id rfl
theorem xq_eqN0 {c : Nat} {F : Fn} {y : D} : eqN c F .non y Γ A = (isIns c none y Γ A).bind fun _ => fun Γ A => calmR ((F [y, .non] A).back Γ) := by
  unfold eqN mBind
  simp only [xp_callF]
theorem xq_eqN1 {c c' : Nat} {fs : List (Str × D)} {F : Fn} {y : D} : eqN c F (.ins c' fs) y Γ A = (isIns c none (.ins c' fs) Γ A).bind fun _ => mBind (isSame c y) fun _ => fun Γ A => calmR ((F [.ins c' fs, y] A).back Γ) := by
  unfold eqN mBind
  simp only [xp_callF]
theorem xq_strO {c : Nat} {F : Fn} {o : Mo D} : mStrO c F o Γ A = (o Γ A).bind fun x => mBind (isIns c none x) fun _ => fun Γ A => strK ((F [x] A).back Γ) := by
  unfold mStrO mBind
  simp only [xp_callF]
theorem xq_isSame {c : Nat} {x : D} : isSame c x Γ A = (match rdO (.v x) Γ A with | some d => if sameTy c d = true then .ok () Γ A else .no | none => .no) := id rfl
theorem xq_blK {neg b : Bool} : blK neg (.ok (.bl b) Γ A) = .ok (.bl (if neg = true then !b else b)) Γ A := id rfl
theorem xq_strK {y : Str} : strK (.ok (.str y) Γ A) = .ok (.str y) Γ A := id rfl
theorem xq_join {o : Mo D} {e : Mo Opd} : mJoin o e Γ A = (o Γ A).bind fun x => mBind (mO (strO x)) fun a => mBind e fun y => mRd1 (tJoin a) y := id rfl
theorem xq_strOv {y : Str} : strO (.str y) = some y := id rfl
theorem xq_js {g : Str → Mo Str} : mJs g Γ A = (g Str.empty Γ A).bind fun o => mRet (.str o) := id rfl
theorem xq_jn {acc : Str} : mJn acc Γ A = .ok acc Γ A := id rfl
theorem xq_jc {m : Mo D} {g : Str → Mo Str} {acc : Str} : mJc m g acc Γ A = (m Γ A).bind fun x => mBind (mO (strO x)) fun y => mBind (mO (addO acc y)) g := id rfl
theorem xq_fmt {m : Mo D} : mFmt m Γ A = (m Γ A).bind fun x => mO (tFmt1 x) := id rfl
theorem xq_callN {n m : Nat} {F : Fn} {gD : List D → List D → List D} {as ks : Mo (List D)} : mCallN n m F gD as ks Γ A = (as Γ A).bind fun xs => mBind ks fun ys => callN n m F gD xs ys := id rfl
theorem xq_callN1 {n m : Nat} {F : Fn} {gD : List D → List D → List D} {xs ys : List D} : callN n m F gD xs ys Γ A = if xs.length = n ∧ ys.length = m then (F (gD xs ys) A).back Γ else .no := by
  unfold callN
  split
  · exact xp_callF
  · exact id rfl
theorem xq_listC {m : Mo Opd} : mListC m Γ A = (m Γ A).bind fun x => fun Γ A => match rdO x Γ A with | some d => mO (cellL d) Γ A | none => .no := id rfl
theorem xq_parS {i j : Nat} {ma : Mo D} {mc : Mo Cell} : mParS i (j + 1) ma mc Γ A = (ma Γ A).toS fun x => mE mc fun c => fun Γ A => .nx ((Γ.set i (.val x)).set (j + 1) (.own c)) A := id rfl
theorem xq_calm {d : D} : calmR (.ok d Γ A) = .ok d Γ A := id rfl
theorem xq_cellT {xs : List D} : cellL (.tup xs) = some (.lst xs) := id rfl
theorem xq_cellL {xs : List D} : cellL (.lst xs) = some (.lst xs) := id rfl
theorem xq_strT {i : Int} (h : i.natAbs.log2 < 1920) : tStr (.int i) = some (.str (toString i)) := if_pos h
theorem xq_fmtI {i : Int} (h : i.natAbs.log2 < 1920) : tFmt1 (.int i) = some (.str (toString i)) := if_pos h
end
end Fl

set_option Elab.async false
set_option linter.all false
set_option maxRecDepth 100000
set_option maxHeartbeats 4000000
/-! k48: the text's defs as functions. -/
namespace Loneboard_k48_boxes
open PySem PySem.Spec PyProof.Rows L2 Dl He Fl
abbrev nmL : List Str := ["BoardError", "BadName", "BadNumber", "BadStamp", "Nothing", "Box"]
def tabD : TabD where
  names := nmL
  cc := [(0, 1, false), (0, 3, false), (0, 4, false), (0, 2, false), (0, 5, false), (1, 1, true), (1, 3, false), (1, 4, false), (1, 2, false), (1, 5, false), (2, 1, false), (2, 3, false), (2, 4, false), (2, 2, true), (2, 5, false), (3, 1, false), (3, 3, true), (3, 4, false), (3, 2, false), (3, 5, false), (4, 1, false), (4, 3, false), (4, 4, true), (4, 2, false), (4, 5, false), (5, 1, false), (5, 3, false), (5, 4, false), (5, 2, false), (5, 5, true)]
  ct := [(0, "bool", false), (0, "int", false), (0, "tuple", false), (1, "bool", false), (1, "int", false), (1, "tuple", false), (2, "bool", false), (2, "int", false), (2, "tuple", false), (3, "bool", false), (3, "int", false), (3, "tuple", false), (4, "bool", false), (4, "int", false), (4, "tuple", false), (5, "bool", false), (5, "int", false), (5, "tuple", false)]
  tc := [("NoneType", 1, false), ("NoneType", 3, false), ("NoneType", 4, false), ("NoneType", 2, false), ("NoneType", 5, false), ("bool", 1, false), ("bool", 3, false), ("bool", 4, false), ("bool", 2, false), ("bool", 5, false), ("int", 1, false), ("int", 3, false), ("int", 4, false), ("int", 2, false), ("int", 5, false), ("str", 1, false), ("str", 3, false), ("str", 4, false), ("str", 2, false), ("str", 5, false), ("list", 1, false), ("list", 3, false), ("list", 4, false), ("list", 2, false), ("list", 5, false), ("tuple", 1, false), ("tuple", 3, false), ("tuple", 4, false), ("tuple", 2, false), ("tuple", 5, false), ("dict", 1, false), ("dict", 3, false), ("dict", 4, false), ("dict", 2, false), ("dict", 5, false)]
  ins := [5]
  exc := [0, 1, 2, 3, 4]
def em_BoardError : List (Nat × Bool) := [(0, true), (1, true), (2, true), (3, true), (4, true)]
def B__law_pen : Ms :=
  (mRetV (mNew (mLstC (mCons (m1W tList (mVal (mSl (mB 0) mNoP (mPart (mC (.int 63)))))) (mCons (mC (.int 0)) (mCons (mC (.int 0)) mNil))))))
def F__law_pen : Fn := runF 1 1 B__law_pen
def B_is_integer : Ms :=
  (mRetV (mAndV (mIs tabD.tab (.ty "int") (mB 0)) (mNotV (mIs tabD.tab (.ty "bool") (mB 0)))))
def F_is_integer : Fn := runF 1 1 B_is_integer
def B_Box_init : Ms :=
  (mSeq (mFor (mIt itAny (mTup (mCons (mTup (mCons (mC (.str "left")) (mCons (mV 1) mNil))) (mCons (mTup (mCons (mC (.str "low")) (mCons (mV 2) mNil))) (mCons (mTup (mCons (mC (.str "right")) (mCons (mV 3) mNil))) (mCons (mTup (mCons (mC (.str "high")) (mCons (mV 4) mNil))) mNil)))))) (tAny 2 (tCn (tNm 5) (tCn (tNm 6) tNo)))
  (mIfS (mNot (mTest (mCall F_is_integer [] (mCons (mV 6) mNil))))
  (mRaise1 2 "part" (mCons (mV 5) mNil))
  mNext))
  (mSeq (mIfS (mTest (mOp tLt (mV 3) (mV 1)))
  (mRaise1 2 "part" (mCons (mC (.str "right")) mNil))
  mNext)
  (mSeq (mIfS (mTest (mOp tLt (mV 4) (mV 2)))
  (mRaise1 2 "part" (mCons (mC (.str "high")) mNil))
  mNext)
  (mSeq (mFldSet [5] "left" (mV 1) (mB 0))
  (mSeq (mFldSet [5] "low" (mV 2) (mB 0))
  (mSeq (mFldSet [5] "right" (mV 3) (mB 0))
  (mFldSet [5] "high" (mV 4) (mB 0))))))))
def F_Box_init : Fn := runI 5 5 7 B_Box_init
def B_is_cell : Ms :=
  (mRetV (mAndV (mIs tabD.tab (.ty "tuple") (mB 0)) (mAndV (mOpW (tEq false) (mVal (m1W tLen (mB 0))) (mVal (mC (.int 2)))) (mAndV (mCall F_is_integer [] (mCons (mOpW tIx (mB 0) (mVal (mC (.int 0)))) mNil)) (mCall F_is_integer [] (mCons (mOpW tIx (mB 0) (mVal (mC (.int 1)))) mNil))))))
def F_is_cell : Fn := runF 1 1 B_is_cell
def B_Box_contains : Ms :=
  (mSeq (mIfS (mNot (mTest (mCall F_is_cell [] (mCons (mV 1) mNil))))
  (mRetV (mC (.bl false)))
  mNext)
  (mRetV (mAndV (mChain tLe tLt (mFld [5] "left" (mB 0)) (mOpW tIx (mB 1) (mVal (mC (.int 0)))) (mFld [5] "right" (mB 0))) (mChain tLe tLt (mFld [5] "low" (mB 0)) (mOpW tIx (mB 1) (mVal (mC (.int 1)))) (mFld [5] "high" (mB 0))))))
def F_Box_contains : Fn := runF 2 2 B_Box_contains
def B__law_odd_cells : Ms :=
  (mSeq (mSet 1 (mCall F_Box_init [] (mCons (mUn (t1I fun i => .int (-i)) (mC (.int 1))) (mCons (mUn (t1I fun i => .int (-i)) (mC (.int 1))) (mCons (mC (.int 4)) (mCons (mC (.int 4)) mNil))))))
  (mSeq (mSet 2 (mLst (mCons (mC .non) (mCons (mC (.int 0)) (mCons (mC (.str "1")) (mCons (mTup (mCons (mC (.int 1)) mNil)) (mCons (mTup (mCons (mC (.int 1)) (mCons (mC (.int 1)) (mCons (mC (.int 1)) mNil)))) (mCons (mLst (mCons (mC (.int 1)) (mCons (mC (.int 1)) mNil))) (mCons (mTup (mCons (mC (.bl true)) (mCons (mC (.int 1)) mNil))) (mCons (mTup (mCons (mC (.int 1)) (mCons (mC (.bl false)) mNil))) (mCons (mTup (mCons (mC (.str "1")) (mCons (mC (.int 1)) mNil))) (mCons (mC (.dct [])) (mCons (mTup (mCons (mTup (mCons (mC (.int 1)) (mCons (mC (.int 1)) mNil))) mNil)) (mCons (mTup (mCons (mC .non) (mCons (mC (.int 1)) mNil))) (mCons (mC (.str "ab")) (mCons (mV 1) mNil))))))))))))))))
  (mRetV (mAndV (mOpW (tEq false) (mVal (mLcV (mIt itAny (mV 2)) (tNm 3) (mTest (mInO false 5 F_Box_contains (mV 3) (mV 1))) (mV 3) [3])) (mVal (mLst mNil))) (mAndV (mInO false 5 F_Box_contains (mTup (mCons (mC (.int 1)) (mCons (mC (.int 1)) mNil))) (mV 1)) (mNotV (mInO false 5 F_Box_contains (mTup (mCons (mC (.int 4)) (mCons (mC (.int 1)) mNil))) (mV 1))))))))
def F__law_odd_cells : Fn := runF 1 4 B__law_odd_cells
def B__law_cells : Ms :=
  (mSeq (mAsg (tAny 4 (tCn (tNm 1) (tCn (tNm 2) (tCn (tNm 3) (tCn (tNm 4) tNo))))) (mV 0))
  (mSeq (mSet 5 (mLst mNil))
  (mSeq (mFor (mRng rng2 (mCons (mV 1) (mCons (mV 3) mNil))) (tNm 6)
  (mSet 5 (mOpW tAdd (mB 5) (mVal (mLcV (mRng rng2 (mCons (mV 2) (mCons (mV 4) mNil))) (tNm 7) mYes (mTup (mCons (mV 6) (mCons (mV 7) mNil))) [7])))))
  (mRetV (mV 5)))))
def F__law_cells : Fn := runF 1 8 B__law_cells
def B__law_draw : Ms :=
  (mSeq (mIfS (mTest (mOp tGt (mOpW tIx (mB 0) (mVal (mC (.int 2)))) (mC (.int 0))))
  (mSeq (mSet 2 (mOp tMod (m1 tInt (mOpW tIx (mB 0) (mVal (mC (.int 2))))) (mV 1)))
  (mSeq (mIxSet (mOp tDiv (m1 tInt (mOpW tIx (mB 0) (mVal (mC (.int 2))))) (mV 1)) (mB 0) (mC (.int 2)))
  (mRetV (mV 2))))
  mNext)
  (mSeq (mSet 3 (mOpW tIx (mB 0) (mVal (mC (.int 1)))))
  (mSeq (mIxSet (mOpW tAdd (mB 3) (mVal (mC (.int 1)))) (mB 0) (mC (.int 1)))
  (mSeq (mSet 4 (mOpW tAdd (mVal (mOp tMul (mC (.int 9601)) (mV 3))) (mVal (mC (.int 541)))))
  (mSeq (mIfS (mTest (mOpW (tEq true) (mVal (mOpW tIx (mB 0) (mVal (mC (.int 0))))) (mVal (mLst mNil))))
  (mSet 4 (mOpW tIx (mVal (mOpW tIx (mB 0) (mVal (mC (.int 0))))) (mVal (mOp tMod (m1 tInt (mV 3)) (m1W tLen (mVal (mOpW tIx (mB 0) (mVal (mC (.int 0))))))))))
  mNext)
  (mSeq (mIfS (mAnd (mTest (mOp tLt (mV 3) (m1W tLen (mVal (mOpW tIx (mB 0) (mVal (mC (.int 0)))))))) (mTest (mOp tGe (m1 tAbs (mV 4)) (mOp tPow (mC (.int 10)) (mC (.int 18))))))
  (mSeq (mSet 5 (mOpW tAdd (mVal (mOp tMul (mC (.int 2)) (mOp tSub (m1 tAbs (mV 4)) (mOp tPow (mC (.int 10)) (mC (.int 18)))))) (mVal (m1 tInt (mOp tLt (mV 4) (mC (.int 0)))))))
  (mSeq (mIxSet (mOp tDiv (m1 tInt (mV 5)) (mV 1)) (mB 0) (mC (.int 2)))
  (mRetV (mOp tMod (m1 tInt (mV 5)) (mV 1)))))
  mNext)
  (mSeq (mSet 6 (mOp tMod (m1 tInt (mOp tPow (mOpW tAdd (mVal (mOpW tAdd (mVal (mOp tMod (m1 tInt (mV 4)) (mC (.int 2147483549)))) (mVal (mOp tMul (mC (.int 53611)) (mV 3))))) (mVal (mC (.int 59)))) (mC (.int 3)))) (mC (.int 2147483629))))
  (mSeq (mSet 6 (mOp tMod (m1 tInt (mOp tPow (mOpW tAdd (mVal (mOpW tAdd (mVal (mOp tMul (mV 6) (mOpW tAdd (mVal (mOp tMul (mC (.int 2)) (mV 3))) (mVal (mC (.int 97)))))) (mVal (mOp tMul (mOp tMul (mC (.int 50909)) (mV 3)) (mV 3))))) (mVal (mC (.int 71)))) (mC (.int 5)))) (mC (.int 2147483563))))
  (mRetV (mOp tMod (m1 tInt (mOp tDiv (mV 6) (mC (.int 16)))) (mV 1)))))))))))
def F__law_draw : Fn := runF 2 7 B__law_draw
def B__law_corners : Ms :=
  (mSeq (mPar 1 2 (mCons (mOp tSub (mCall F__law_draw [] (mCons (mV 0) (mCons (mC (.int 7)) mNil))) (mC (.int 3))) (mCons (mOp tSub (mCall F__law_draw [] (mCons (mV 0) (mCons (mC (.int 7)) mNil))) (mC (.int 3))) mNil)))
  (mRetV (mTup (mCons (mV 1) (mCons (mV 2) (mCons (mOpW tAdd (mB 1) (mVal (mCall F__law_draw [] (mCons (mV 0) (mCons (mC (.int 4)) mNil))))) (mCons (mOpW tAdd (mB 2) (mVal (mCall F__law_draw [] (mCons (mV 0) (mCons (mC (.int 4)) mNil))))) mNil)))))))
def F__law_corners : Fn := runF 1 3 B__law_corners
def B__law_box : Ms :=
  (mRetV (mCall F_Box_init [] (mCons (mOpW tIx (mB 0) (mVal (mC (.int 0)))) (mCons (mOpW tIx (mB 0) (mVal (mC (.int 1)))) (mCons (mOpW tIx (mB 0) (mVal (mC (.int 2)))) (mCons (mOpW tIx (mB 0) (mVal (mC (.int 3)))) mNil))))))
def F__law_box : Fn := runF 1 1 B__law_box
def B__law_meet : Ms :=
  (mSeq (mSet 2 (mLcV (mIt itAny (mCall F__law_cells [] (mCons (mV 0) mNil))) (tNm 5) (mTest (mOpW (tInP false) (mB 5) (mVal (mCallC F__law_cells [] (mCons (mV 1) mNil))))) (mV 5) [5]))
  (mSeq (mIfS (mTest (mOpW (tEq false) (mB 2) (mVal (mLst mNil))))
  (mRetV (mC .non))
  mNext)
  (mSeq (mPar 3 4 (mCons (mLcV (mIt itAny (mV 2)) (tAny 2 (tCn (tNm 6) (tCn (tNm 7) tNo))) mYes (mV 6) [6, 7]) (mCons (mLcV (mIt itAny (mV 2)) (tAny 2 (tCn (tNm 6) (tCn (tNm 7) tNo))) mYes (mV 7) [6, 7]) mNil)))
  (mRetV (mTup (mCons (m1W tMinL (mB 3)) (mCons (m1W tMinL (mB 4)) (mCons (mOpW tAdd (mVal (m1W tMaxL (mB 3))) (mVal (mC (.int 1)))) (mCons (mOpW tAdd (mVal (m1W tMaxL (mB 4))) (mVal (mC (.int 1)))) mNil)))))))))
def F__law_meet : Fn := runF 2 8 B__law_meet
def B__law_around : Ms :=
  (mRetV (m1W tTuple (mVal (mOpW tAdd (mVal (mLcV (mIt itAny (mTup (mCons (mC (.int 0)) (mCons (mC (.int 1)) mNil)))) (tNm 2) mYes (mCBn tMin2 (mCons (mOpW tIx (mB 0) (mB 2)) (mCons (mOpW tIx (mB 1) (mB 2)) mNil))) [2])) (mVal (mLcV (mIt itAny (mTup (mCons (mC (.int 2)) (mCons (mC (.int 3)) mNil)))) (tNm 2) mYes (mCBn tMax2 (mCons (mOpW tIx (mB 0) (mB 2)) (mCons (mOpW tIx (mB 1) (mB 2)) mNil))) [2]))))))
def F__law_around : Fn := runF 2 3 B__law_around
def B_Box_eq : Ms :=
  (mSeq (mIfS (mOr (mNot (mTest (mIs tabD.tab (.ref 5) (mB 1)))) (mOr (mTest (mOpW (tEq true) (mVal (mFld [5] "left" (mB 0))) (mVal (mFld [5] "left" (mB 1))))) (mTest (mOpW (tEq true) (mVal (mFld [5] "low" (mB 0))) (mVal (mFld [5] "low" (mB 1)))))))
  (mRetV (mC (.bl false)))
  mNext)
  (mRetV (mAndV (mOpW (tEq false) (mVal (mFld [5] "right" (mB 0))) (mVal (mFld [5] "right" (mB 1)))) (mOpW (tEq false) (mVal (mFld [5] "high" (mB 0))) (mVal (mFld [5] "high" (mB 1)))))))
def F_Box_eq : Fn := runF 2 2 B_Box_eq
def B_Box_str : Ms :=
  (mRetV (mJs (mJc (mFmt (mFld [5] "left" (mB 0))) (mJc (mC (.str " ")) (mJc (mFmt (mFld [5] "low" (mB 0))) (mJc (mC (.str " ")) (mJc (mFmt (mFld [5] "right" (mB 0))) (mJc (mC (.str " ")) (mJc (mFmt (mFld [5] "high" (mB 0))) mJn)))))))))
def F_Box_str : Fn := runF 1 1 B_Box_str
def B_Box_or : Ms :=
  (mSeq (mIfS (mNot (mTest (mIs tabD.tab (.ref 5) (mB 1))))
  mNever
  mNext)
  (mSeq (mPar 2 3 (mCons (mCBn tMin2 (mCons (mFld [5] "left" (mB 0)) (mCons (mFld [5] "left" (mB 1)) mNil))) (mCons (mCBn tMin2 (mCons (mFld [5] "low" (mB 0)) (mCons (mFld [5] "low" (mB 1)) mNil))) mNil)))
  (mRetV (mCall F_Box_init [] (mCons (mV 2) (mCons (mV 3) (mCons (mCBn tMax2 (mCons (mFld [5] "right" (mB 0)) (mCons (mFld [5] "right" (mB 1)) mNil))) (mCons (mCBn tMax2 (mCons (mFld [5] "high" (mB 0)) (mCons (mFld [5] "high" (mB 1)) mNil))) mNil))))))))
def F_Box_or : Fn := runF 2 4 B_Box_or
def B_Box_and : Ms :=
  (mSeq (mIfS (mNot (mTest (mIs tabD.tab (.ref 5) (mB 1))))
  mNever
  mNext)
  (mSeq (mPar 2 3 (mCons (mCBn tMax2 (mCons (mFld [5] "left" (mB 0)) (mCons (mFld [5] "left" (mB 1)) mNil))) (mCons (mCBn tMax2 (mCons (mFld [5] "low" (mB 0)) (mCons (mFld [5] "low" (mB 1)) mNil))) mNil)))
  (mSeq (mPar 4 5 (mCons (mCBn tMin2 (mCons (mFld [5] "right" (mB 0)) (mCons (mFld [5] "right" (mB 1)) mNil))) (mCons (mCBn tMin2 (mCons (mFld [5] "high" (mB 0)) (mCons (mFld [5] "high" (mB 1)) mNil))) mNil)))
  (mRetV (mIf (mAnd (mTest (mOp tLt (mV 2) (mV 4))) (mTest (mOp tLt (mV 3) (mV 5)))) (mCall F_Box_init [] (mCons (mV 2) (mCons (mV 3) (mCons (mV 4) (mCons (mV 5) mNil))))) (mC .non))))))
def F_Box_and : Fn := runF 2 6 B_Box_and
def B_Box_size : Ms :=
  (mRetV (mOp tMul (mOp tSub (mFld [5] "right" (mB 0)) (mFld [5] "left" (mB 0))) (mOp tSub (mFld [5] "high" (mB 0)) (mFld [5] "low" (mB 0)))))
def F_Box_size : Fn := runF 1 1 B_Box_size
def B__law_told : Ms :=
  (mRetV (mIf (mTest (mOp (tIsN false) (mV 0) (mC .non))) (mC .non) (mLst (mCons (mFld [5] "left" (mB 0)) (mCons (mFld [5] "low" (mB 0)) (mCons (mFld [5] "right" (mB 0)) (mCons (mFld [5] "high" (mB 0)) (mCons (mProp 5 F_Box_size (mV 0)) (mCons (mStrO 5 F_Box_str (mV 0)) mNil)))))))))
def F__law_told : Fn := runF 1 1 B__law_told
def B__law_due : Ms :=
  (mSeq (mAsg (tAny 4 (tCn (tNm 1) (tCn (tNm 2) (tCn (tNm 3) (tCn (tNm 4) tNo))))) (mV 0))
  (mRetV (mLst (mCons (mV 1) (mCons (mV 2) (mCons (mV 3) (mCons (mV 4) (mCons (mOp tMul (mOp tSub (mV 3) (mV 1)) (mOp tSub (mV 4) (mV 2))) (mCons (mJoin (mC (.str " ")) (mVal (mLcV (mIt itAny (mV 0)) (tNm 5) mYes (m1 tStr (mV 5)) [5]))) mNil)))))))))
def F__law_due : Fn := runF 1 6 B__law_due
def B__law_small_right : Ms :=
  (mSeq (mPar 1 2 (mCons (mCall F__law_corners [] (mCons (mV 0) mNil)) (mCons (mCall F__law_corners [] (mCons (mV 0) mNil)) mNil)))
  (mSeq (mPar 3 4 (mCons (mCall F__law_box [] (mCons (mV 1) mNil)) (mCons (mCallN 0 4 F_Box_init (fun ds es => argG 0 4 [3, 2, 1, 0] ds [] es) mNil (mCons (mOpW tIx (mB 2) (mVal (mC (.int 3)))) (mCons (mOpW tIx (mB 2) (mVal (mC (.int 2)))) (mCons (mOpW tIx (mB 2) (mVal (mC (.int 1)))) (mCons (mOpW tIx (mB 2) (mVal (mC (.int 0)))) mNil))))) mNil)))
  (mSeq (mIfS (mTest (mOp (tEqS true) (m1W tRepr (mVal (mLst (mCons (mCall F__law_told [] (mCons (mV 3) mNil)) (mCons (mCall F__law_told [] (mCons (mV 4) mNil)) mNil))))) (m1W tRepr (mVal (mLst (mCons (mCall F__law_due [] (mCons (mV 1) mNil)) (mCons (mCall F__law_due [] (mCons (mV 2) mNil)) mNil)))))))
  (mRetV (mC (.bl false)))
  mNext)
  (mSeq (mSet 5 (mCall F__law_cells [] (mCons (mV 1) mNil)))
  (mSeq (mFor (mRng rng2 (mCons (mUn (t1I fun i => .int (-i)) (mC (.int 4))) (mCons (mC (.int 9)) mNil))) (tNm 6)
  (mFor (mRng rng2 (mCons (mUn (t1I fun i => .int (-i)) (mC (.int 4))) (mCons (mC (.int 9)) mNil))) (tNm 7)
  (mIfS (mTest (mOpW (tEq true) (mVal (mInO false 5 F_Box_contains (mTup (mCons (mV 6) (mCons (mV 7) mNil))) (mV 3))) (mVal (mOpW (tInP false) (mVal (mTup (mCons (mV 6) (mCons (mV 7) mNil)))) (mB 5)))))
  (mRetV (mC (.bl false)))
  mNext)))
  (mSeq (mPar 8 9 (mCons (mCall F__law_meet [] (mCons (mV 1) (mCons (mV 2) mNil))) (mCons (mCall F__law_around [] (mCons (mV 1) (mCons (mV 2) mNil))) mNil)))
  (mSeq (mSet 10 (mOpW tAdd (mVal (mOpW tRep (mVal (mLst (mCons (mIf (mTest (mOp (tIsN false) (mV 8) (mC .non))) (mC .non) (mCall F__law_due [] (mCons (mV 8) mNil))) mNil))) (mVal (mC (.int 2))))) (mVal (mOpW tRep (mVal (mLst (mCons (mCall F__law_due [] (mCons (mV 9) mNil)) mNil))) (mVal (mC (.int 2)))))))
  (mSeq (mIfS (mTest (mOp (tEqS true) (m1W tRepr (mVal (mLst (mCons (mCall F__law_told [] (mCons (mBinO 5 F_Box_and (mV 3) (mV 4)) mNil)) (mCons (mCall F__law_told [] (mCons (mBinO 5 F_Box_and (mV 4) (mV 3)) mNil)) (mCons (mCall F__law_told [] (mCons (mBinO 5 F_Box_or (mV 3) (mV 4)) mNil)) (mCons (mCall F__law_told [] (mCons (mBinO 5 F_Box_or (mV 4) (mV 3)) mNil)) mNil))))))) (m1W tRepr (mB 10))))
  (mRetV (mC (.bl false)))
  mNext)
  (mSeq (mIfS (mTest (mOp (tEqS true) (m1W tRepr (mVal (mLst (mCons (mCall F__law_told [] (mCons (mV 3) mNil)) (mCons (mCall F__law_told [] (mCons (mV 4) mNil)) mNil))))) (m1W tRepr (mVal (mLst (mCons (mCall F__law_due [] (mCons (mV 1) mNil)) (mCons (mCall F__law_due [] (mCons (mV 2) mNil)) mNil)))))))
  (mRetV (mC (.bl false)))
  mNext)
  (mSeq (mSetO 11 (mLstC (mCons (mEqO 5 F_Box_eq (mV 3) (mV 4)) (mCons (mNeO 5 F_Box_eq (mV 3) (mV 4)) (mCons (mEqO 5 F_Box_eq (mV 3) (mCall F__law_box [] (mCons (mV 1) mNil))) (mCons (mEqO 5 F_Box_eq (mV 3) (mV 1)) (mCons (mEqO 5 F_Box_eq (mV 3) (mStrO 5 F_Box_str (mV 3))) (mCons (mEqO 5 F_Box_eq (mBinO 5 F_Box_or (mV 3) (mV 3)) (mV 3)) mNil))))))))
  (mSeq (mDo (mApp (mB 11) (mEqNO 5 F_Box_eq (mBinO 5 F_Box_and (mV 3) (mV 3)) (mV 3))))
  (mRetV (mOp (tEqS false) (m1W tRepr (mB 11)) (m1W tRepr (mVal (mLst (mCons (mOpW (tEq false) (mB 1) (mB 2)) (mCons (mOpW (tEq true) (mB 1) (mB 2)) (mCons (mC (.bl true)) (mCons (mC (.bl false)) (mCons (mC (.bl false)) (mCons (mC (.bl true)) (mCons (mOpW (tEq true) (mB 5) (mVal (mLst mNil))) mNil)))))))))))))))))))))))
def F__law_small_right : Fn := runF 1 12 B__law_small_right
def B__law_near : Ms :=
  (mSeq (mParS 2 3 (mCall F__law_draw [] (mCons (mV 0) (mCons (mC (.int 4)) mNil))) (mListC (mB 1)))
  (mSeq (mIxSet (mOpW tAdd (mVal (mOpW tIx (mB 3) (mB 2))) (mVal (mIf (mTest (mOp tGt (mV 2) (mC (.int 1)))) (mC (.int 1)) (mUn (t1I fun i => .int (-i)) (mC (.int 1)))))) (mB 3) (mV 2))
  (mRetV (m1W tTuple (mB 3)))))
def F__law_near : Fn := runF 2 4 B__law_near
def B__law_far_right : Ms :=
  (mSeq (mPar 1 2 (mCons (mOp tSub (mOp tPow (mC (.int 10)) (mC (.int 40))) (mCall F__law_draw [] (mCons (mV 0) (mCons (mOp tPow (mC (.int 10)) (mC (.int 20))) mNil)))) (mCons (mOpW tAdd (mVal (mOp tSub (mC (.int 5)) (mOp tPow (mC (.int 10)) (mC (.int 39))))) (mVal (mCall F__law_draw [] (mCons (mV 0) (mCons (mOp tPow (mC (.int 10)) (mC (.int 30))) mNil))))) mNil)))
  (mSeq (mSet 3 (mTup (mCons (mV 1) (mCons (mV 2) (mCons (mOpW tAdd (mB 1) (mVal (mCall F__law_draw [] (mCons (mV 0) (mCons (mOp tPow (mC (.int 10)) (mC (.int 12))) mNil))))) (mCons (mOpW tAdd (mB 2) (mVal (mOp tMul (mCall F__law_draw [] (mCons (mV 0) (mCons (mOp tPow (mC (.int 10)) (mC (.int 6))) mNil))) (mOp tPow (mC (.int 10)) (mC (.int 30)))))) mNil))))))
  (mSeq (mSet 4 (mCall F__law_near [] (mCons (mV 0) (mCons (mV 3) mNil))))
  (mSeq (mAsg (tAny 2 (tCn (tNm 5) (tCn (tNm 6) tNo))) (mTup (mCons (mCall F__law_box [] (mCons (mV 3) mNil)) (mCons (mCall F__law_box [] (mCons (mV 4) mNil)) mNil))))
  (mSeq (mSet 7 (mLst (mCons (mCall F__law_told [] (mCons (mV 5) mNil)) (mCons (mCall F__law_told [] (mCons (mBinO 5 F_Box_or (mV 5) (mV 6)) mNil)) (mCons (mCall F__law_told [] (mCons (mV 6) mNil)) (mCons (mEqO 5 F_Box_eq (mV 5) (mV 6)) (mCons (mNeO 5 F_Box_eq (mV 6) (mV 5)) (mCons (mEqO 5 F_Box_eq (mV 5) (mCall F__law_box [] (mCons (mV 3) mNil))) mNil))))))))
  (mSeq (mIfS (mTest (mOp (tEqS true) (m1W tRepr (mB 7)) (m1W tRepr (mVal (mLst (mCons (mCall F__law_due [] (mCons (mV 3) mNil)) (mCons (mCall F__law_due [] (mCons (mV 4) mNil)) (mCons (mCall F__law_due [] (mCons (mV 4) mNil)) (mCons (mC (.bl false)) (mCons (mC (.bl true)) (mCons (mC (.bl true)) mNil)))))))))))
  (mRetV (mC (.bl false)))
  mNext)
  (mSeq (mSet 8 (mLst (mCons (mTup (mCons (mOpW tIx (mB 3) (mVal (mC (.int 0)))) (mCons (mOpW tIx (mB 3) (mVal (mC (.int 1)))) mNil))) (mCons (mTup (mCons (mOp tSub (mOpW tIx (mB 3) (mVal (mC (.int 2)))) (mC (.int 1))) (mCons (mOp tSub (mOpW tIx (mB 3) (mVal (mC (.int 3)))) (mC (.int 1))) mNil))) (mCons (mTup (mCons (mOpW tIx (mB 3) (mVal (mC (.int 2)))) (mCons (mOpW tIx (mB 3) (mVal (mC (.int 1)))) mNil))) (mCons (mTup (mCons (mOpW tIx (mB 3) (mVal (mC (.int 0)))) (mCons (mOpW tIx (mB 3) (mVal (mC (.int 3)))) mNil))) mNil))))))
  (mSeq (mSet 8 (mOpW tAdd (mB 8) (mVal (mLst (mCons (mTup (mCons (mOp tSub (mOpW tIx (mB 3) (mVal (mC (.int 0)))) (mC (.int 1))) (mCons (mOpW tIx (mB 3) (mVal (mC (.int 1)))) mNil))) (mCons (mTup (mCons (mOpW tIx (mB 3) (mVal (mC (.int 0)))) (mCons (mOp tSub (mOpW tIx (mB 3) (mVal (mC (.int 1)))) (mC (.int 1))) mNil))) mNil))))))
  (mSeq (mSet 9 (mAndV (mOp tLt (mOpW tIx (mB 3) (mVal (mC (.int 0)))) (mOpW tIx (mB 3) (mVal (mC (.int 2))))) (mOp tLt (mOpW tIx (mB 3) (mVal (mC (.int 1)))) (mOpW tIx (mB 3) (mVal (mC (.int 3)))))))
  (mRetV (mOpW (tEq false) (mVal (mLcV (mIt itAny (mV 8)) (tNm 10) mYes (mInO false 5 F_Box_contains (mV 10) (mV 5)) [10])) (mVal (mLst (mCons (mV 9) (mCons (mV 9) (mCons (mC (.bl false)) (mCons (mC (.bl false)) (mCons (mC (.bl false)) (mCons (mC (.bl false)) mNil)))))))))))))))))))
def F__law_far_right : Fn := runF 1 11 B__law_far_right
def B__law_pick : Ms :=
  (mRetV (mOpW tIx (mB 1) (mVal (mCall F__law_draw [] (mCons (mV 0) (mCons (m1W tLen (mB 1)) mNil))))))
def F__law_pick : Fn := runF 2 2 B__law_pick
def B__law_refused : Ms :=
  (mSeq (mSetO 1 (mListC (mVal (mCall F__law_corners [] (mCons (mV 0) mNil)))))
  (mSeq (mSet 2 (mLst (mCons (mC .non) (mCons (mC (.bl true)) (mCons (mC (.bl false)) (mCons (mC (.str "1")) (mCons (mTup mNil) (mCons (mTup (mCons (mC (.int 1)) mNil)) (mCons (mLst (mCons (mC (.int 1)) mNil)) (mCons (mC (.dct [])) mNil))))))))))
  (mSeq (mSet 3 (mLst (mCons (mC (.str "left")) (mCons (mC (.str "low")) (mCons (mC (.str "right")) (mCons (mC (.str "high")) mNil))))))
  (mSeq (mFor (mRng rng1 (mCons (mOpW tAdd (mVal (mC (.int 1))) (mVal (mCall F__law_draw [] (mCons (mV 0) (mCons (mC (.int 2)) mNil))))) mNil)) (tNm 4)
  (mIxSet (mCall F__law_pick [] (mCons (mV 0) (mCons (mV 2) mNil))) (mB 1) (mCall F__law_draw [] (mCons (mV 0) (mCons (mC (.int 4)) mNil)))))
  (mSeq (mSet 5 (mC .non))
  (mSeq (mFrz 1 (mTryE (emOf em_BoardError) 6 5 (mCall F__law_box [] (mCons (mV 1) mNil))))
  (mSeq (mFrz 1 (mSet 7 (mLcV (mRng zipO (mCons (mV 3) (mCons (mV 1) mNil))) (tAny 2 (tCn (tNm 14) (tCn (tNm 15) tNo))) (mOr (mTest (mIs tabD.tab (.ty "bool") (mB 15))) (mNot (mTest (mIs tabD.tab (.ty "int") (mB 15))))) (mV 14) [14, 15])))
  (mSeq (mIfS (mOr (mNot (mTest (mIs tabD.tab (.ref 2) (mB 5)))) (mOr (mTest (mIs tabD.tab (.tup [(.ref 1), (.ref 3), (.ref 4)]) (mB 5))) (mTest (mOpW (tEq true) (mVal (mXf [2] "part" (mB 5))) (mVal (mOpW tIx (mB 7) (mVal (mC (.int 0)))))))))
  (mRetV (mC (.bl false)))
  mNext)
  (mSeq (mAsg (tAny 4 (tCn (tNm 8) (tCn (tNm 9) (tCn (tNm 10) (tCn (tNm 11) tNo))))) (mCall F__law_corners [] (mCons (mV 0) mNil)))
  (mSeq (mPar 12 13 (mCons (mCall F__law_draw [] (mCons (mV 0) (mCons (mC (.int 2)) mNil))) (mCons (mCall F__law_draw [] (mCons (mV 0) (mCons (mC (.int 2)) mNil))) mNil)))
  (mSeq (mSet 5 (mC .non))
  (mSeq (mTryE (emOf em_BoardError) 6 5 (mCall F_Box_init [] (mCons (mV 8) (mCons (mV 9) (mCons (mIf (mTest (mOpW (tEq false) (mB 12) (mVal (mC (.int 0))))) (mOp tSub (mV 8) (mC (.int 1))) (mV 10)) (mCons (mIf (mOr (mTest (mOpW (tEq false) (mB 12) (mVal (mC (.int 1))))) (mTest (mOpW (tEq false) (mB 13) (mVal (mC (.int 0)))))) (mOp tSub (mV 9) (mOp tPow (mC (.int 10)) (mC (.int 20)))) (mV 11)) mNil))))))
  (mRetV (mAndV (mIs tabD.tab (.ref 2) (mB 5)) (mOpW (tEq false) (mVal (mXf [2] "part" (mB 5))) (mVal (mIf (mTest (mOpW (tEq false) (mB 12) (mVal (mC (.int 0))))) (mC (.str "right")) (mC (.str "high")))))))))))))))))))
def F__law_refused : Fn := runF 1 16 B__law_refused
def B_law : Ms :=
  (mSeq (mSet 1 (mCall F__law_pen [] (mCons (mV 0) mNil)))
  (mSeq (mFor (mRng rng1 (mCons (mC (.int 3)) mNil)) (tNm 2)
  (mIfS (mOr (mNot (mTest (mCall F__law_small_right [] (mCons (mV 1) mNil)))) (mOr (mNot (mTest (mCall F__law_far_right [] (mCons (mV 1) mNil)))) (mNot (mTest (mCall F__law_refused [] (mCons (mV 1) mNil))))))
  (mRetV (mC (.bl false)))
  mNext))
  (mRetV (mCall F__law_odd_cells [] (mCons (mV 1) mNil)))))
def F_law : Fn := runF 1 3 B_law
end Loneboard_k48_boxes

set_option Elab.async false
set_option linter.all false
set_option maxRecDepth 100000
set_option maxHeartbeats 4000000
/-! k48: the program's part. -/
namespace Loneboard_k48_boxes
open PySem Fl
open Dl (D Cell eqOk eqD flatD inD rngD putD)
abbrev pt (x y : Int) : D := .tup [.int x, .int y]
abbrev tp4 (l lo r h : Int) : D := .tup [.int l, .int lo, .int r, .int h]
abbrev boxD (l lo r h : Int) : D := .ins 5 [("left", .int l), ("low", .int lo), ("right", .int r), ("high", .int h)]
theorem f_left {l lo r h : Int} : tFld [5] "left" (boxD l lo r h) = some (.int l) := by kernel_rfl
theorem f_low {l lo r h : Int} : tFld [5] "low" (boxD l lo r h) = some (.int lo) := by kernel_rfl
theorem f_right {l lo r h : Int} : tFld [5] "right" (boxD l lo r h) = some (.int r) := by kernel_rfl
theorem f_high {l lo r h : Int} : tFld [5] "high" (boxD l lo r h) = some (.int h) := by kernel_rfl
theorem rd_box {l lo r h : Int} {Γ : SG} {A : AH} : rdO (.v (boxD l lo r h)) Γ A = some (boxD l lo r h) := id rfl
theorem io_box {l lo r h : Int} : insOf 5 none (boxD l lo r h) = true := by kernel_rfl
theorem isint_int {i : Int} (A : AH) : F_is_integer [.int i] A = .ok (.bl true) A := by
  unfold F_is_integer
  rw [run_F (by rfl)]
  unfold B_is_integer
  simp only [xp_bind, rb_ok, rb_exc, rb_no, xp_ret, xp_oS, xp_oN, xp_c, xp_v, xp_b, xp_val, xp_op, xp_opw, xp_rd2, xp_rd1, xp_test, xp_ite, xp_and, xp_or, xp_not, xp_andV, xp_orV, xp_notV, xp_onB, xp_if, xp_un, xp_chain, xp_nil, xp_cons, xp_lst, xp_tup, xp_noP, xp_part, xp_sl, xp_1, xp_1W, xp_cbn, xp_is, xp_fld, xp_xf, xp_call, xp_callC, xp_calm, xp_callK, xp_callF, bk_ok, bk_exc, xp_prop, xp_isIns, xp_meth, xp_new, xp_newA, xp_lstC, xp_app, xp_isLst, xp_updS, xp_updR, rd_s, rd_ref, rd_non, rd_bl, rd_int, rd_str, rd_lst, rd_tup, rd_scr, rd_dct, rd_ins, rd_exv, xs_seq, sq_nx, sq_ret, sq_exc, as_E, ts_ok, ts_exc, as_next, as_ret, as_retN, as_do, as_set, as_if, as_ifS, as_for, as_forN, as_forC, fk_nx, fk_cnt, fk_brk, fk_ret, fk_exc, as_it, as_rng, as_asg, as_par, as_par2, as_setO, as_parO, as_parOK, as_ixSet, as_updK, as_fldSet, as_raise1, as_raise1', as_frzO, tf_nx, tf_ret, tf_exc, ti_exc, as_yes, xp_lcV, xp_lstO, xp_tupO, xp_lstCO, xp_lcRun, xp_lcEnd, xl_nil, xl_cons, xl_1, xl_1f, xl_2, ix_0, ix_1, ix_2, ix_3, to_addI, to_sub, to_le, to_gt, to_ge, to_lt, to_ixL, to_ixT, to_abs, to_int, to_intB, to_lenL, to_lenT, to_lenZ, to_isN, to_allL, to_eqI, to_neI, to_neInts, to_eqInts, to_put0, to_put1, to_put2, as_tryE, as_tryOk, as_tryX, as_keepX, xq_inO, xq_eqO, xq_neO, xq_binO, xq_eqNO, xq_eqN0, xq_eqN1, xq_strO, xq_isSame, xq_blK, xq_strK, xq_join, xq_strOv, xq_js, xq_jn, xq_jc, xq_fmt, xq_callN, xq_callN1, xq_listC, xq_parS, xq_cellT, xq_cellL, wipeT, putBack, tNm, tNo, tCn, tAny, Option.bind_some, startT, startI, List.map_cons, List.map_nil, List.length_cons, List.length_nil, List.cons_append, List.nil_append, List.append_nil, List.getElem?_cons_zero, List.getElem?_cons_succ, List.set_cons_zero, List.set_cons_succ, Nat.reduceAdd, Nat.reduceSub, Nat.reduceEqDiff, Nat.reduceLeDiff, Nat.reduceLT, List.length_append, List.replicate_zero, List.replicate_succ, cellD, blO, intO, itAny, ↓reduceIte, if_true, Bool.false_eq_true, if_false, it_int_int, it_bool_int, Bool.not_false]
theorem s_left {l : Int} : fldC [5] "left" (.int l) (.ins 5 []) = some (.ins 5 [("left", .int l)], ()) := by kernel_rfl
theorem s_low {l lo : Int} : fldC [5] "low" (.int lo) (.ins 5 [("left", .int l)]) = some (.ins 5 [("left", .int l), ("low", .int lo)], ()) := by kernel_rfl
theorem s_right {l lo r : Int} : fldC [5] "right" (.int r) (.ins 5 [("left", .int l), ("low", .int lo)]) = some (.ins 5 [("left", .int l), ("low", .int lo), ("right", .int r)], ()) := by kernel_rfl
theorem s_high {l lo r h : Int} : fldC [5] "high" (.int h) (.ins 5 [("left", .int l), ("low", .int lo), ("right", .int r)]) = some (.ins 5 [("left", .int l), ("low", .int lo), ("right", .int r), ("high", .int h)], ()) := by kernel_rfl
theorem init_ok {l lo r h : Int} (h1 : l ≤ r) (h2 : lo ≤ h) (A : AH) : F_Box_init [.int l, .int lo, .int r, .int h] A = .ok (boxD l lo r h) A := by
  have d1 : decide (r < l) = false := decide_eq_false (by omega)
  have d2 : decide (h < lo) = false := decide_eq_false (by omega)
  unfold F_Box_init
  rw [run_I (by rfl)]
  unfold B_Box_init
  simp only [xp_bind, rb_ok, rb_exc, rb_no, xp_ret, xp_oS, xp_oN, xp_c, xp_v, xp_b, xp_val, xp_op, xp_opw, xp_rd2, xp_rd1, xp_test, xp_ite, xp_and, xp_or, xp_not, xp_andV, xp_orV, xp_notV, xp_onB, xp_if, xp_un, xp_chain, xp_nil, xp_cons, xp_lst, xp_tup, xp_noP, xp_part, xp_sl, xp_1, xp_1W, xp_cbn, xp_is, xp_fld, xp_xf, xp_call, xp_callC, xp_calm, xp_callK, xp_callF, bk_ok, bk_exc, xp_prop, xp_isIns, xp_meth, xp_new, xp_newA, xp_lstC, xp_app, xp_isLst, xp_updS, xp_updR, rd_s, rd_ref, rd_non, rd_bl, rd_int, rd_str, rd_lst, rd_tup, rd_scr, rd_dct, rd_ins, rd_exv, xs_seq, sq_nx, sq_ret, sq_exc, as_E, ts_ok, ts_exc, as_next, as_ret, as_retN, as_do, as_set, as_if, as_ifS, as_for, as_forN, as_forC, fk_nx, fk_cnt, fk_brk, fk_ret, fk_exc, as_it, as_rng, as_asg, as_par, as_par2, as_setO, as_parO, as_parOK, as_ixSet, as_updK, as_fldSet, as_raise1, as_raise1', as_frzO, tf_nx, tf_ret, tf_exc, ti_exc, as_yes, xp_lcV, xp_lstO, xp_tupO, xp_lstCO, xp_lcRun, xp_lcEnd, xl_nil, xl_cons, xl_1, xl_1f, xl_2, ix_0, ix_1, ix_2, ix_3, to_addI, to_sub, to_le, to_gt, to_ge, to_lt, to_ixL, to_ixT, to_abs, to_int, to_intB, to_lenL, to_lenT, to_lenZ, to_isN, to_allL, to_eqI, to_neI, to_neInts, to_eqInts, to_put0, to_put1, to_put2, as_tryE, as_tryOk, as_tryX, as_keepX, xq_inO, xq_eqO, xq_neO, xq_binO, xq_eqNO, xq_eqN0, xq_eqN1, xq_strO, xq_isSame, xq_blK, xq_strK, xq_join, xq_strOv, xq_js, xq_jn, xq_jc, xq_fmt, xq_callN, xq_callN1, xq_listC, xq_parS, xq_cellT, xq_cellL, wipeT, putBack, tNm, tNo, tCn, tAny, Option.bind_some, startT, startI, List.map_cons, List.map_nil, List.length_cons, List.length_nil, List.cons_append, List.nil_append, List.append_nil, List.getElem?_cons_zero, List.getElem?_cons_succ, List.set_cons_zero, List.set_cons_succ, Nat.reduceAdd, Nat.reduceSub, Nat.reduceEqDiff, Nat.reduceLeDiff, Nat.reduceLT, List.length_append, List.replicate_zero, List.replicate_succ, cellD, blO, intO, itAny, ↓reduceIte, if_true, Bool.false_eq_true, if_false, isint_int, Bool.not_true, d1, d2, s_left, s_low, s_right, s_high]
  exact ti_nx (id rfl)
theorem size_ok {l lo r h : Int} (h1 : cMulB (r - l) (h - lo) = true) (A : AH) : F_Box_size [boxD l lo r h] A = .ok (.int ((r - l) * (h - lo))) A := by
  have e1 := to_mul h1
  unfold F_Box_size
  rw [run_F (by rfl)]
  unfold B_Box_size
  simp only [xp_bind, rb_ok, rb_exc, rb_no, xp_ret, xp_oS, xp_oN, xp_c, xp_v, xp_b, xp_val, xp_op, xp_opw, xp_rd2, xp_rd1, xp_test, xp_ite, xp_and, xp_or, xp_not, xp_andV, xp_orV, xp_notV, xp_onB, xp_if, xp_un, xp_chain, xp_nil, xp_cons, xp_lst, xp_tup, xp_noP, xp_part, xp_sl, xp_1, xp_1W, xp_cbn, xp_is, xp_fld, xp_xf, xp_call, xp_callC, xp_calm, xp_callK, xp_callF, bk_ok, bk_exc, xp_prop, xp_isIns, xp_meth, xp_new, xp_newA, xp_lstC, xp_app, xp_isLst, xp_updS, xp_updR, rd_s, rd_ref, rd_non, rd_bl, rd_int, rd_str, rd_lst, rd_tup, rd_scr, rd_dct, rd_ins, rd_exv, xs_seq, sq_nx, sq_ret, sq_exc, as_E, ts_ok, ts_exc, as_next, as_ret, as_retN, as_do, as_set, as_if, as_ifS, as_for, as_forN, as_forC, fk_nx, fk_cnt, fk_brk, fk_ret, fk_exc, as_it, as_rng, as_asg, as_par, as_par2, as_setO, as_parO, as_parOK, as_ixSet, as_updK, as_fldSet, as_raise1, as_raise1', as_frzO, tf_nx, tf_ret, tf_exc, ti_exc, as_yes, xp_lcV, xp_lstO, xp_tupO, xp_lstCO, xp_lcRun, xp_lcEnd, xl_nil, xl_cons, xl_1, xl_1f, xl_2, ix_0, ix_1, ix_2, ix_3, to_addI, to_sub, to_le, to_gt, to_ge, to_lt, to_ixL, to_ixT, to_abs, to_int, to_intB, to_lenL, to_lenT, to_lenZ, to_isN, to_allL, to_eqI, to_neI, to_neInts, to_eqInts, to_put0, to_put1, to_put2, as_tryE, as_tryOk, as_tryX, as_keepX, xq_inO, xq_eqO, xq_neO, xq_binO, xq_eqNO, xq_eqN0, xq_eqN1, xq_strO, xq_isSame, xq_blK, xq_strK, xq_join, xq_strOv, xq_js, xq_jn, xq_jc, xq_fmt, xq_callN, xq_callN1, xq_listC, xq_parS, xq_cellT, xq_cellL, wipeT, putBack, tNm, tNo, tCn, tAny, Option.bind_some, startT, startI, List.map_cons, List.map_nil, List.length_cons, List.length_nil, List.cons_append, List.nil_append, List.append_nil, List.getElem?_cons_zero, List.getElem?_cons_succ, List.set_cons_zero, List.set_cons_succ, Nat.reduceAdd, Nat.reduceSub, Nat.reduceEqDiff, Nat.reduceLeDiff, Nat.reduceLT, List.length_append, List.replicate_zero, List.replicate_succ, cellD, blO, intO, itAny, ↓reduceIte, if_true, Bool.false_eq_true, if_false, rd_box, f_left, f_low, f_right, f_high, e1]
/-! ### texts -/
abbrev T (i : Int) : Str := Str.ofString (toString i)
def Lg (i : Int) : Prop := i.natAbs.log2 < 1920
theorem T_len {i : Int} (h : Lg i) : (T i).length ≤ 1921 := PyProof.Rows.int_text_len_1921 h
abbrev sp1 : Str := " "
def txt (l lo r h : Int) : Str := T l ++ (sp1 ++ (T lo ++ (sp1 ++ (T r ++ (sp1 ++ T h)))))
theorem add_ok {a y : Str} (h : a.length + y.length ≤ 16777216) : addO a y = some (a ++ y) := if_pos (by rw [strLen_append, sz_eq]; exact h)
theorem str_ok {l lo r h : Int} (h1 : Lg l) (h2 : Lg lo) (h3 : Lg r) (h4 : Lg h) (A : AH) : F_Box_str [boxD l lo r h] A = .ok (.str (txt l lo r h)) A := by
  have b1 := T_len h1
  have b2 := T_len h2
  have b3 := T_len h3
  have b4 := T_len h4
  have bs : sp1.length = 1 := rfl
  have b0 : Str.empty.length = 0 := rfl
  have a1 : addO Str.empty (T l) = some (Str.empty ++ T l) := add_ok (by omega)
  have l1 : (Str.empty ++ T l).length ≤ 1921 := by rw [strLen_append]; omega
  have a2 : addO (Str.empty ++ T l) sp1 = some (Str.empty ++ T l ++ sp1) := add_ok (by omega)
  have l2 : (Str.empty ++ T l ++ sp1).length ≤ 1922 := by rw [strLen_append]; omega
  have a3 : addO (Str.empty ++ T l ++ sp1) (T lo) = some (Str.empty ++ T l ++ sp1 ++ T lo) := add_ok (by omega)
  have l3 : (Str.empty ++ T l ++ sp1 ++ T lo).length ≤ 3843 := by rw [strLen_append]; omega
  have a4 : addO (Str.empty ++ T l ++ sp1 ++ T lo) sp1 = some (Str.empty ++ T l ++ sp1 ++ T lo ++ sp1) := add_ok (by omega)
  have l4 : (Str.empty ++ T l ++ sp1 ++ T lo ++ sp1).length ≤ 3844 := by rw [strLen_append]; omega
  have a5 : addO (Str.empty ++ T l ++ sp1 ++ T lo ++ sp1) (T r) = some (Str.empty ++ T l ++ sp1 ++ T lo ++ sp1 ++ T r) := add_ok (by omega)
  have l5 : (Str.empty ++ T l ++ sp1 ++ T lo ++ sp1 ++ T r).length ≤ 5765 := by rw [strLen_append]; omega
  have a6 : addO (Str.empty ++ T l ++ sp1 ++ T lo ++ sp1 ++ T r) sp1 = some (Str.empty ++ T l ++ sp1 ++ T lo ++ sp1 ++ T r ++ sp1) := add_ok (by omega)
  have l6 : (Str.empty ++ T l ++ sp1 ++ T lo ++ sp1 ++ T r ++ sp1).length ≤ 5766 := by rw [strLen_append]; omega
  have a7 : addO (Str.empty ++ T l ++ sp1 ++ T lo ++ sp1 ++ T r ++ sp1) (T h) = some (Str.empty ++ T l ++ sp1 ++ T lo ++ sp1 ++ T r ++ sp1 ++ T h) := add_ok (by omega)
  have t1 : tFmt1 (.int l) = some (.str (T l)) := xq_fmtI h1
  have t2 : tFmt1 (.int lo) = some (.str (T lo)) := xq_fmtI h2
  have t3 : tFmt1 (.int r) = some (.str (T r)) := xq_fmtI h3
  have t4 : tFmt1 (.int h) = some (.str (T h)) := xq_fmtI h4
  unfold F_Box_str
  rw [run_F (by rfl)]
  unfold B_Box_str
  simp only [xp_bind, rb_ok, rb_exc, rb_no, xp_ret, xp_oS, xp_oN, xp_c, xp_v, xp_b, xp_val, xp_op, xp_opw, xp_rd2, xp_rd1, xp_test, xp_ite, xp_and, xp_or, xp_not, xp_andV, xp_orV, xp_notV, xp_onB, xp_if, xp_un, xp_chain, xp_nil, xp_cons, xp_lst, xp_tup, xp_noP, xp_part, xp_sl, xp_1, xp_1W, xp_cbn, xp_is, xp_fld, xp_xf, xp_call, xp_callC, xp_calm, xp_callK, xp_callF, bk_ok, bk_exc, xp_prop, xp_isIns, xp_meth, xp_new, xp_newA, xp_lstC, xp_app, xp_isLst, xp_updS, xp_updR, rd_s, rd_ref, rd_non, rd_bl, rd_int, rd_str, rd_lst, rd_tup, rd_scr, rd_dct, rd_ins, rd_exv, xs_seq, sq_nx, sq_ret, sq_exc, as_E, ts_ok, ts_exc, as_next, as_ret, as_retN, as_do, as_set, as_if, as_ifS, as_for, as_forN, as_forC, fk_nx, fk_cnt, fk_brk, fk_ret, fk_exc, as_it, as_rng, as_asg, as_par, as_par2, as_setO, as_parO, as_parOK, as_ixSet, as_updK, as_fldSet, as_raise1, as_raise1', as_frzO, tf_nx, tf_ret, tf_exc, ti_exc, as_yes, xp_lcV, xp_lstO, xp_tupO, xp_lstCO, xp_lcRun, xp_lcEnd, xl_nil, xl_cons, xl_1, xl_1f, xl_2, ix_0, ix_1, ix_2, ix_3, to_addI, to_sub, to_le, to_gt, to_ge, to_lt, to_ixL, to_ixT, to_abs, to_int, to_intB, to_lenL, to_lenT, to_lenZ, to_isN, to_allL, to_eqI, to_neI, to_neInts, to_eqInts, to_put0, to_put1, to_put2, as_tryE, as_tryOk, as_tryX, as_keepX, xq_inO, xq_eqO, xq_neO, xq_binO, xq_eqNO, xq_eqN0, xq_eqN1, xq_strO, xq_isSame, xq_blK, xq_strK, xq_join, xq_strOv, xq_js, xq_jn, xq_jc, xq_fmt, xq_callN, xq_callN1, xq_listC, xq_parS, xq_cellT, xq_cellL, wipeT, putBack, tNm, tNo, tCn, tAny, Option.bind_some, startT, startI, List.map_cons, List.map_nil, List.length_cons, List.length_nil, List.cons_append, List.nil_append, List.append_nil, List.getElem?_cons_zero, List.getElem?_cons_succ, List.set_cons_zero, List.set_cons_succ, Nat.reduceAdd, Nat.reduceSub, Nat.reduceEqDiff, Nat.reduceLeDiff, Nat.reduceLT, List.length_append, List.replicate_zero, List.replicate_succ, cellD, blO, intO, itAny, ↓reduceIte, if_true, Bool.false_eq_true, if_false, rd_box, f_left, f_low, f_right, f_high, t1, t2, t3, t4, a1, a2, a3, a4, a5, a6, a7]
  unfold txt
  rw [str_nil]
  simp only [str_assoc]
/-- what is told of a box -/
abbrev told (l lo r h : Int) : D := .lst [.int l, .int lo, .int r, .int h, .int ((r - l) * (h - lo)), .str (txt l lo r h)]
theorem told_ok {l lo r h : Int} (h1 : Lg l) (h2 : Lg lo) (h3 : Lg r) (h4 : Lg h) (hm : cMulB (r - l) (h - lo) = true) (A : AH) : F__law_told [boxD l lo r h] A = .ok (told l lo r h) A := by
  have s := str_ok h1 h2 h3 h4
  have z := size_ok hm
  have n1 : tIsN false (boxD l lo r h) .non = some (.bl false) := by kernel_rfl
  unfold F__law_told
  rw [run_F (by rfl)]
  unfold B__law_told
  simp only [xp_bind, rb_ok, rb_exc, rb_no, xp_ret, xp_oS, xp_oN, xp_c, xp_v, xp_b, xp_val, xp_op, xp_opw, xp_rd2, xp_rd1, xp_test, xp_ite, xp_and, xp_or, xp_not, xp_andV, xp_orV, xp_notV, xp_onB, xp_if, xp_un, xp_chain, xp_nil, xp_cons, xp_lst, xp_tup, xp_noP, xp_part, xp_sl, xp_1, xp_1W, xp_cbn, xp_is, xp_fld, xp_xf, xp_call, xp_callC, xp_calm, xp_callK, xp_callF, bk_ok, bk_exc, xp_prop, xp_isIns, xp_meth, xp_new, xp_newA, xp_lstC, xp_app, xp_isLst, xp_updS, xp_updR, rd_s, rd_ref, rd_non, rd_bl, rd_int, rd_str, rd_lst, rd_tup, rd_scr, rd_dct, rd_ins, rd_exv, xs_seq, sq_nx, sq_ret, sq_exc, as_E, ts_ok, ts_exc, as_next, as_ret, as_retN, as_do, as_set, as_if, as_ifS, as_for, as_forN, as_forC, fk_nx, fk_cnt, fk_brk, fk_ret, fk_exc, as_it, as_rng, as_asg, as_par, as_par2, as_setO, as_parO, as_parOK, as_ixSet, as_updK, as_fldSet, as_raise1, as_raise1', as_frzO, tf_nx, tf_ret, tf_exc, ti_exc, as_yes, xp_lcV, xp_lstO, xp_tupO, xp_lstCO, xp_lcRun, xp_lcEnd, xl_nil, xl_cons, xl_1, xl_1f, xl_2, ix_0, ix_1, ix_2, ix_3, to_addI, to_sub, to_le, to_gt, to_ge, to_lt, to_ixL, to_ixT, to_abs, to_int, to_intB, to_lenL, to_lenT, to_lenZ, to_isN, to_allL, to_eqI, to_neI, to_neInts, to_eqInts, to_put0, to_put1, to_put2, as_tryE, as_tryOk, as_tryX, as_keepX, xq_inO, xq_eqO, xq_neO, xq_binO, xq_eqNO, xq_eqN0, xq_eqN1, xq_strO, xq_isSame, xq_blK, xq_strK, xq_join, xq_strOv, xq_js, xq_jn, xq_jc, xq_fmt, xq_callN, xq_callN1, xq_listC, xq_parS, xq_cellT, xq_cellL, wipeT, putBack, tNm, tNo, tCn, tAny, Option.bind_some, startT, startI, List.map_cons, List.map_nil, List.length_cons, List.length_nil, List.cons_append, List.nil_append, List.append_nil, List.getElem?_cons_zero, List.getElem?_cons_succ, List.set_cons_zero, List.set_cons_succ, Nat.reduceAdd, Nat.reduceSub, Nat.reduceEqDiff, Nat.reduceLeDiff, Nat.reduceLT, List.length_append, List.replicate_zero, List.replicate_succ, cellD, blO, intO, itAny, ↓reduceIte, if_true, Bool.false_eq_true, if_false, rd_box, f_left, f_low, f_right, f_high, io_box, n1, s, z]
theorem told_non (A : AH) : F__law_told [.non] A = .ok .non A := by
  have n1 : tIsN false .non .non = some (.bl true) := by kernel_rfl
  unfold F__law_told
  rw [run_F (by rfl)]
  unfold B__law_told
  simp only [xp_bind, rb_ok, rb_exc, rb_no, xp_ret, xp_oS, xp_oN, xp_c, xp_v, xp_b, xp_val, xp_op, xp_opw, xp_rd2, xp_rd1, xp_test, xp_ite, xp_and, xp_or, xp_not, xp_andV, xp_orV, xp_notV, xp_onB, xp_if, xp_un, xp_chain, xp_nil, xp_cons, xp_lst, xp_tup, xp_noP, xp_part, xp_sl, xp_1, xp_1W, xp_cbn, xp_is, xp_fld, xp_xf, xp_call, xp_callC, xp_calm, xp_callK, xp_callF, bk_ok, bk_exc, xp_prop, xp_isIns, xp_meth, xp_new, xp_newA, xp_lstC, xp_app, xp_isLst, xp_updS, xp_updR, rd_s, rd_ref, rd_non, rd_bl, rd_int, rd_str, rd_lst, rd_tup, rd_scr, rd_dct, rd_ins, rd_exv, xs_seq, sq_nx, sq_ret, sq_exc, as_E, ts_ok, ts_exc, as_next, as_ret, as_retN, as_do, as_set, as_if, as_ifS, as_for, as_forN, as_forC, fk_nx, fk_cnt, fk_brk, fk_ret, fk_exc, as_it, as_rng, as_asg, as_par, as_par2, as_setO, as_parO, as_parOK, as_ixSet, as_updK, as_fldSet, as_raise1, as_raise1', as_frzO, tf_nx, tf_ret, tf_exc, ti_exc, as_yes, xp_lcV, xp_lstO, xp_tupO, xp_lstCO, xp_lcRun, xp_lcEnd, xl_nil, xl_cons, xl_1, xl_1f, xl_2, ix_0, ix_1, ix_2, ix_3, to_addI, to_sub, to_le, to_gt, to_ge, to_lt, to_ixL, to_ixT, to_abs, to_int, to_intB, to_lenL, to_lenT, to_lenZ, to_isN, to_allL, to_eqI, to_neI, to_neInts, to_eqInts, to_put0, to_put1, to_put2, as_tryE, as_tryOk, as_tryX, as_keepX, xq_inO, xq_eqO, xq_neO, xq_binO, xq_eqNO, xq_eqN0, xq_eqN1, xq_strO, xq_isSame, xq_blK, xq_strK, xq_join, xq_strOv, xq_js, xq_jn, xq_jc, xq_fmt, xq_callN, xq_callN1, xq_listC, xq_parS, xq_cellT, xq_cellL, wipeT, putBack, tNm, tNo, tCn, tAny, Option.bind_some, startT, startI, List.map_cons, List.map_nil, List.length_cons, List.length_nil, List.cons_append, List.nil_append, List.append_nil, List.getElem?_cons_zero, List.getElem?_cons_succ, List.set_cons_zero, List.set_cons_succ, Nat.reduceAdd, Nat.reduceSub, Nat.reduceEqDiff, Nat.reduceLeDiff, Nat.reduceLT, List.length_append, List.replicate_zero, List.replicate_succ, cellD, blO, intO, itAny, ↓reduceIte, if_true, Bool.false_eq_true, if_false, n1, Bool.not_false]
theorem join_ok {l lo r h : Int} (h1 : Lg l) (h2 : Lg lo) (h3 : Lg r) (h4 : Lg h) : tJoin sp1 (.lst [.str (T l), .str (T lo), .str (T r), .str (T h)]) = some (.str (txt l lo r h)) := by
  have b1 := T_len h1
  have b2 := T_len h2
  have b3 := T_len h3
  have b4 := T_len h4
  have bs : sp1.length = 1 := rfl
  unfold tJoin
  show (if _ then some (D.str (Txt.join sp1 [T l, T lo, T r, T h])) else none) = _
  rw [if_pos (by simp only [List.map_cons, List.map_nil, List.sum_cons, List.sum_nil, List.length_cons, List.length_nil]; omega), join4]
  exact id rfl
theorem due_ok {l lo r h : Int} (h1 : Lg l) (h2 : Lg lo) (h3 : Lg r) (h4 : Lg h) (hm : cMulB (r - l) (h - lo) = true) (A : AH) : F__law_due [tp4 l lo r h] A = .ok (told l lo r h) A := by
  have j := join_ok h1 h2 h3 h4
  have t1 : tStr (.int l) = some (.str (T l)) := xq_strT h1
  have t2 : tStr (.int lo) = some (.str (T lo)) := xq_strT h2
  have t3 : tStr (.int r) = some (.str (T r)) := xq_strT h3
  have t4 : tStr (.int h) = some (.str (T h)) := xq_strT h4
  have e1 := to_mul hm
  unfold F__law_due
  rw [run_F (by rfl)]
  unfold B__law_due
  simp only [xp_bind, rb_ok, rb_exc, rb_no, xp_ret, xp_oS, xp_oN, xp_c, xp_v, xp_b, xp_val, xp_op, xp_opw, xp_rd2, xp_rd1, xp_test, xp_ite, xp_and, xp_or, xp_not, xp_andV, xp_orV, xp_notV, xp_onB, xp_if, xp_un, xp_chain, xp_nil, xp_cons, xp_lst, xp_tup, xp_noP, xp_part, xp_sl, xp_1, xp_1W, xp_cbn, xp_is, xp_fld, xp_xf, xp_call, xp_callC, xp_calm, xp_callK, xp_callF, bk_ok, bk_exc, xp_prop, xp_isIns, xp_meth, xp_new, xp_newA, xp_lstC, xp_app, xp_isLst, xp_updS, xp_updR, rd_s, rd_ref, rd_non, rd_bl, rd_int, rd_str, rd_lst, rd_tup, rd_scr, rd_dct, rd_ins, rd_exv, xs_seq, sq_nx, sq_ret, sq_exc, as_E, ts_ok, ts_exc, as_next, as_ret, as_retN, as_do, as_set, as_if, as_ifS, as_for, as_forN, as_forC, fk_nx, fk_cnt, fk_brk, fk_ret, fk_exc, as_it, as_rng, as_asg, as_par, as_par2, as_setO, as_parO, as_parOK, as_ixSet, as_updK, as_fldSet, as_raise1, as_raise1', as_frzO, tf_nx, tf_ret, tf_exc, ti_exc, as_yes, xp_lcV, xp_lstO, xp_tupO, xp_lstCO, xp_lcRun, xp_lcEnd, xl_nil, xl_cons, xl_1, xl_1f, xl_2, ix_0, ix_1, ix_2, ix_3, to_addI, to_sub, to_le, to_gt, to_ge, to_lt, to_ixL, to_ixT, to_abs, to_int, to_intB, to_lenL, to_lenT, to_lenZ, to_isN, to_allL, to_eqI, to_neI, to_neInts, to_eqInts, to_put0, to_put1, to_put2, as_tryE, as_tryOk, as_tryX, as_keepX, xq_inO, xq_eqO, xq_neO, xq_binO, xq_eqNO, xq_eqN0, xq_eqN1, xq_strO, xq_isSame, xq_blK, xq_strK, xq_join, xq_strOv, xq_js, xq_jn, xq_jc, xq_fmt, xq_callN, xq_callN1, xq_listC, xq_parS, xq_cellT, xq_cellL, wipeT, putBack, tNm, tNo, tCn, tAny, Option.bind_some, startT, startI, List.map_cons, List.map_nil, List.length_cons, List.length_nil, List.cons_append, List.nil_append, List.append_nil, List.getElem?_cons_zero, List.getElem?_cons_succ, List.set_cons_zero, List.set_cons_succ, Nat.reduceAdd, Nat.reduceSub, Nat.reduceEqDiff, Nat.reduceLeDiff, Nat.reduceLT, List.length_append, List.replicate_zero, List.replicate_succ, cellD, blO, intO, itAny, ↓reduceIte, if_true, Bool.false_eq_true, if_false, t1, t2, t3, t4, j, e1]
end Loneboard_k48_boxes

set_option Elab.async false
set_option linter.all false
set_option maxRecDepth 100000
set_option maxHeartbeats 4000000
/-! k48: in, ==, &, |. -/
namespace Loneboard_k48_boxes
open PySem Fl
open Dl (D Cell eqOk eqD flatD inD rngD putD)
def inB (x y l lo r h : Int) : Bool := (decide (l ≤ x) && decide (x < r)) && (decide (lo ≤ y) && decide (y < h))
theorem iscell_pt {x y : Int} (A : AH) : F_is_cell [pt x y] A = .ok (.bl true) A := by
  have e := fun (i : Int) => isint_int (i := i)
  unfold F_is_cell
  rw [run_F (by rfl)]
  unfold B_is_cell
  simp only [xp_bind, rb_ok, rb_exc, rb_no, xp_ret, xp_oS, xp_oN, xp_c, xp_v, xp_b, xp_val, xp_op, xp_opw, xp_rd2, xp_rd1, xp_test, xp_ite, xp_and, xp_or, xp_not, xp_andV, xp_orV, xp_notV, xp_onB, xp_if, xp_un, xp_chain, xp_nil, xp_cons, xp_lst, xp_tup, xp_noP, xp_part, xp_sl, xp_1, xp_1W, xp_cbn, xp_is, xp_fld, xp_xf, xp_call, xp_callC, xp_calm, xp_callK, xp_callF, bk_ok, bk_exc, xp_prop, xp_isIns, xp_meth, xp_new, xp_newA, xp_lstC, xp_app, xp_isLst, xp_updS, xp_updR, rd_s, rd_ref, rd_non, rd_bl, rd_int, rd_str, rd_lst, rd_tup, rd_scr, rd_dct, rd_ins, rd_exv, xs_seq, sq_nx, sq_ret, sq_exc, as_E, ts_ok, ts_exc, as_next, as_ret, as_retN, as_do, as_set, as_if, as_ifS, as_for, as_forN, as_forC, fk_nx, fk_cnt, fk_brk, fk_ret, fk_exc, as_it, as_rng, as_asg, as_par, as_par2, as_setO, as_parO, as_parOK, as_ixSet, as_updK, as_fldSet, as_raise1, as_raise1', as_frzO, tf_nx, tf_ret, tf_exc, ti_exc, as_yes, xp_lcV, xp_lstO, xp_tupO, xp_lstCO, xp_lcRun, xp_lcEnd, xl_nil, xl_cons, xl_1, xl_1f, xl_2, ix_0, ix_1, ix_2, ix_3, to_addI, to_sub, to_le, to_gt, to_ge, to_lt, to_ixL, to_ixT, to_abs, to_int, to_intB, to_lenL, to_lenT, to_lenZ, to_isN, to_allL, to_eqI, to_neI, to_neInts, to_eqInts, to_put0, to_put1, to_put2, as_tryE, as_tryOk, as_tryX, as_keepX, xq_inO, xq_eqO, xq_neO, xq_binO, xq_eqNO, xq_eqN0, xq_eqN1, xq_strO, xq_isSame, xq_blK, xq_strK, xq_join, xq_strOv, xq_js, xq_jn, xq_jc, xq_fmt, xq_callN, xq_callN1, xq_listC, xq_parS, xq_cellT, xq_cellL, wipeT, putBack, tNm, tNo, tCn, tAny, Option.bind_some, startT, startI, List.map_cons, List.map_nil, List.length_cons, List.length_nil, List.cons_append, List.nil_append, List.append_nil, List.getElem?_cons_zero, List.getElem?_cons_succ, List.set_cons_zero, List.set_cons_succ, Nat.reduceAdd, Nat.reduceSub, Nat.reduceEqDiff, Nat.reduceLeDiff, Nat.reduceLT, List.length_append, List.replicate_zero, List.replicate_succ, cellD, blO, intO, itAny, ↓reduceIte, if_true, Bool.false_eq_true, if_false, it_tuple_tup, e]
  exact id rfl
theorem rd_pt {x y : Int} {Γ : SG} {A : AH} : rdO (.v (pt x y)) Γ A = some (pt x y) := id rfl
theorem pt_0 {x y : Int} : tIx (pt x y) (.int 0) = some (.int x) := ix_0
theorem pt_1 {x y : Int} : tIx (pt x y) (.int 1) = some (.int y) := ix_1
theorem contains_ok {x y l lo r h : Int} (A : AH) : F_Box_contains [boxD l lo r h, pt x y] A = .ok (.bl (inB x y l lo r h)) A := by
  have e := iscell_pt (x := x) (y := y)
  unfold F_Box_contains
  rw [run_F (by rfl)]
  unfold B_Box_contains inB
  cases q1 : decide (l ≤ x) <;> cases q2 : decide (x < r) <;> cases q3 : decide (lo ≤ y) <;> cases q4 : decide (y < h) <;>
    (simp only [xp_bind, rb_ok, rb_exc, rb_no, xp_ret, xp_oS, xp_oN, xp_c, xp_v, xp_b, xp_val, xp_op, xp_opw, xp_rd2, xp_rd1, xp_test, xp_ite, xp_and, xp_or, xp_not, xp_andV, xp_orV, xp_notV, xp_onB, xp_if, xp_un, xp_chain, xp_nil, xp_cons, xp_lst, xp_tup, xp_noP, xp_part, xp_sl, xp_1, xp_1W, xp_cbn, xp_is, xp_fld, xp_xf, xp_call, xp_callC, xp_calm, xp_callK, xp_callF, bk_ok, bk_exc, xp_prop, xp_isIns, xp_meth, xp_new, xp_newA, xp_lstC, xp_app, xp_isLst, xp_updS, xp_updR, rd_s, rd_ref, rd_non, rd_bl, rd_int, rd_str, rd_lst, rd_tup, rd_scr, rd_dct, rd_ins, rd_exv, xs_seq, sq_nx, sq_ret, sq_exc, as_E, ts_ok, ts_exc, as_next, as_ret, as_retN, as_do, as_set, as_if, as_ifS, as_for, as_forN, as_forC, fk_nx, fk_cnt, fk_brk, fk_ret, fk_exc, as_it, as_rng, as_asg, as_par, as_par2, as_setO, as_parO, as_parOK, as_ixSet, as_updK, as_fldSet, as_raise1, as_raise1', as_frzO, tf_nx, tf_ret, tf_exc, ti_exc, as_yes, xp_lcV, xp_lstO, xp_tupO, xp_lstCO, xp_lcRun, xp_lcEnd, xl_nil, xl_cons, xl_1, xl_1f, xl_2, ix_0, ix_1, ix_2, ix_3, to_addI, to_sub, to_le, to_gt, to_ge, to_lt, to_ixL, to_ixT, to_abs, to_int, to_intB, to_lenL, to_lenT, to_lenZ, to_isN, to_allL, to_eqI, to_neI, to_neInts, to_eqInts, to_put0, to_put1, to_put2, as_tryE, as_tryOk, as_tryX, as_keepX, xq_inO, xq_eqO, xq_neO, xq_binO, xq_eqNO, xq_eqN0, xq_eqN1, xq_strO, xq_isSame, xq_blK, xq_strK, xq_join, xq_strOv, xq_js, xq_jn, xq_jc, xq_fmt, xq_callN, xq_callN1, xq_listC, xq_parS, xq_cellT, xq_cellL, wipeT, putBack, tNm, tNo, tCn, tAny, Option.bind_some, startT, startI, List.map_cons, List.map_nil, List.length_cons, List.length_nil, List.cons_append, List.nil_append, List.append_nil, List.getElem?_cons_zero, List.getElem?_cons_succ, List.set_cons_zero, List.set_cons_succ, Nat.reduceAdd, Nat.reduceSub, Nat.reduceEqDiff, Nat.reduceLeDiff, Nat.reduceLT, List.length_append, List.replicate_zero, List.replicate_succ, cellD, blO, intO, itAny, ↓reduceIte, if_true, Bool.false_eq_true, if_false, rd_box, rd_pt, pt_0, pt_1, f_left, f_low, f_right, f_high, e, Bool.not_true, q1, q2, q3, q4]; try exact id rfl)
theorem is_box {l lo r h : Int} : tIs tabD.tab (.ref 5) (boxD l lo r h) = some (.bl true) := by kernel_rfl
theorem eq_ok {l lo r h l' lo' r' h' : Int} (A : AH) : F_Box_eq [boxD l lo r h, boxD l' lo' r' h'] A = .ok (.bl ((decide (l = l') && decide (lo = lo')) && (decide (r = r') && decide (h = h')))) A := by
  unfold F_Box_eq
  rw [run_F (by rfl)]
  unfold B_Box_eq
  cases q1 : decide (l = l') <;> cases q2 : decide (lo = lo') <;> cases q3 : decide (r = r') <;> cases q4 : decide (h = h') <;>
    (simp only [xp_bind, rb_ok, rb_exc, rb_no, xp_ret, xp_oS, xp_oN, xp_c, xp_v, xp_b, xp_val, xp_op, xp_opw, xp_rd2, xp_rd1, xp_test, xp_ite, xp_and, xp_or, xp_not, xp_andV, xp_orV, xp_notV, xp_onB, xp_if, xp_un, xp_chain, xp_nil, xp_cons, xp_lst, xp_tup, xp_noP, xp_part, xp_sl, xp_1, xp_1W, xp_cbn, xp_is, xp_fld, xp_xf, xp_call, xp_callC, xp_calm, xp_callK, xp_callF, bk_ok, bk_exc, xp_prop, xp_isIns, xp_meth, xp_new, xp_newA, xp_lstC, xp_app, xp_isLst, xp_updS, xp_updR, rd_s, rd_ref, rd_non, rd_bl, rd_int, rd_str, rd_lst, rd_tup, rd_scr, rd_dct, rd_ins, rd_exv, xs_seq, sq_nx, sq_ret, sq_exc, as_E, ts_ok, ts_exc, as_next, as_ret, as_retN, as_do, as_set, as_if, as_ifS, as_for, as_forN, as_forC, fk_nx, fk_cnt, fk_brk, fk_ret, fk_exc, as_it, as_rng, as_asg, as_par, as_par2, as_setO, as_parO, as_parOK, as_ixSet, as_updK, as_fldSet, as_raise1, as_raise1', as_frzO, tf_nx, tf_ret, tf_exc, ti_exc, as_yes, xp_lcV, xp_lstO, xp_tupO, xp_lstCO, xp_lcRun, xp_lcEnd, xl_nil, xl_cons, xl_1, xl_1f, xl_2, ix_0, ix_1, ix_2, ix_3, to_addI, to_sub, to_le, to_gt, to_ge, to_lt, to_ixL, to_ixT, to_abs, to_int, to_intB, to_lenL, to_lenT, to_lenZ, to_isN, to_allL, to_eqI, to_neI, to_neInts, to_eqInts, to_put0, to_put1, to_put2, as_tryE, as_tryOk, as_tryX, as_keepX, xq_inO, xq_eqO, xq_neO, xq_binO, xq_eqNO, xq_eqN0, xq_eqN1, xq_strO, xq_isSame, xq_blK, xq_strK, xq_join, xq_strOv, xq_js, xq_jn, xq_jc, xq_fmt, xq_callN, xq_callN1, xq_listC, xq_parS, xq_cellT, xq_cellL, wipeT, putBack, tNm, tNo, tCn, tAny, Option.bind_some, startT, startI, List.map_cons, List.map_nil, List.length_cons, List.length_nil, List.cons_append, List.nil_append, List.append_nil, List.getElem?_cons_zero, List.getElem?_cons_succ, List.set_cons_zero, List.set_cons_succ, Nat.reduceAdd, Nat.reduceSub, Nat.reduceEqDiff, Nat.reduceLeDiff, Nat.reduceLT, List.length_append, List.replicate_zero, List.replicate_succ, cellD, blO, intO, itAny, ↓reduceIte, if_true, Bool.false_eq_true, if_false, rd_box, f_left, f_low, f_right, f_high, is_box, q1, q2, q3, q4, Bool.not_true, Bool.not_false]; try exact id rfl)
def mn (a b : Int) : Int := if b < a then b else a
def mx (a b : Int) : Int := if b > a then b else a
theorem or_ok {l lo r h l' lo' r' h' : Int} (h1 : l ≤ r) (h2 : lo ≤ h) (h3 : l' ≤ r') (h4 : lo' ≤ h') (A : AH) : F_Box_or [boxD l lo r h, boxD l' lo' r' h'] A = .ok (boxD (mn l l') (mn lo lo') (mx r r') (mx h h')) A := by
  have i := init_ok (l := mn l l') (lo := mn lo lo') (r := mx r r') (h := mx h h') (by unfold mn mx; split <;> split <;> omega) (by unfold mn mx; split <;> split <;> omega)
  unfold mn mx at *
  unfold F_Box_or
  rw [run_F (by rfl)]
  unfold B_Box_or
  simp only [xp_bind, rb_ok, rb_exc, rb_no, xp_ret, xp_oS, xp_oN, xp_c, xp_v, xp_b, xp_val, xp_op, xp_opw, xp_rd2, xp_rd1, xp_test, xp_ite, xp_and, xp_or, xp_not, xp_andV, xp_orV, xp_notV, xp_onB, xp_if, xp_un, xp_chain, xp_nil, xp_cons, xp_lst, xp_tup, xp_noP, xp_part, xp_sl, xp_1, xp_1W, xp_cbn, xp_is, xp_fld, xp_xf, xp_call, xp_callC, xp_calm, xp_callK, xp_callF, bk_ok, bk_exc, xp_prop, xp_isIns, xp_meth, xp_new, xp_newA, xp_lstC, xp_app, xp_isLst, xp_updS, xp_updR, rd_s, rd_ref, rd_non, rd_bl, rd_int, rd_str, rd_lst, rd_tup, rd_scr, rd_dct, rd_ins, rd_exv, xs_seq, sq_nx, sq_ret, sq_exc, as_E, ts_ok, ts_exc, as_next, as_ret, as_retN, as_do, as_set, as_if, as_ifS, as_for, as_forN, as_forC, fk_nx, fk_cnt, fk_brk, fk_ret, fk_exc, as_it, as_rng, as_asg, as_par, as_par2, as_setO, as_parO, as_parOK, as_ixSet, as_updK, as_fldSet, as_raise1, as_raise1', as_frzO, tf_nx, tf_ret, tf_exc, ti_exc, as_yes, xp_lcV, xp_lstO, xp_tupO, xp_lstCO, xp_lcRun, xp_lcEnd, xl_nil, xl_cons, xl_1, xl_1f, xl_2, ix_0, ix_1, ix_2, ix_3, to_addI, to_sub, to_le, to_gt, to_ge, to_lt, to_ixL, to_ixT, to_abs, to_int, to_intB, to_lenL, to_lenT, to_lenZ, to_isN, to_allL, to_eqI, to_neI, to_neInts, to_eqInts, to_put0, to_put1, to_put2, as_tryE, as_tryOk, as_tryX, as_keepX, xq_inO, xq_eqO, xq_neO, xq_binO, xq_eqNO, xq_eqN0, xq_eqN1, xq_strO, xq_isSame, xq_blK, xq_strK, xq_join, xq_strOv, xq_js, xq_jn, xq_jc, xq_fmt, xq_callN, xq_callN1, xq_listC, xq_parS, xq_cellT, xq_cellL, wipeT, putBack, tNm, tNo, tCn, tAny, Option.bind_some, startT, startI, List.map_cons, List.map_nil, List.length_cons, List.length_nil, List.cons_append, List.nil_append, List.append_nil, List.getElem?_cons_zero, List.getElem?_cons_succ, List.set_cons_zero, List.set_cons_succ, Nat.reduceAdd, Nat.reduceSub, Nat.reduceEqDiff, Nat.reduceLeDiff, Nat.reduceLT, List.length_append, List.replicate_zero, List.replicate_succ, cellD, blO, intO, itAny, ↓reduceIte, if_true, Bool.false_eq_true, if_false, rd_box, f_left, f_low, f_right, f_high, is_box, Bool.not_true, tMin2, tMax2, i]
def andB (l lo r h l' lo' r' h' : Int) : Bool := decide (mx l l' < mn r r') && decide (mx lo lo' < mn h h')
theorem and_ok {l lo r h l' lo' r' h' : Int} (A : AH) : F_Box_and [boxD l lo r h, boxD l' lo' r' h'] A = .ok (if andB l lo r h l' lo' r' h' = true then boxD (mx l l') (mx lo lo') (mn r r') (mn h h') else .non) A := by
  unfold F_Box_and
  rw [run_F (by rfl)]
  unfold B_Box_and andB
  cases q1 : decide (mx l l' < mn r r') <;> cases q2 : decide (mx lo lo' < mn h h')
  · unfold mn mx at *
    simp only [xp_bind, rb_ok, rb_exc, rb_no, xp_ret, xp_oS, xp_oN, xp_c, xp_v, xp_b, xp_val, xp_op, xp_opw, xp_rd2, xp_rd1, xp_test, xp_ite, xp_and, xp_or, xp_not, xp_andV, xp_orV, xp_notV, xp_onB, xp_if, xp_un, xp_chain, xp_nil, xp_cons, xp_lst, xp_tup, xp_noP, xp_part, xp_sl, xp_1, xp_1W, xp_cbn, xp_is, xp_fld, xp_xf, xp_call, xp_callC, xp_calm, xp_callK, xp_callF, bk_ok, bk_exc, xp_prop, xp_isIns, xp_meth, xp_new, xp_newA, xp_lstC, xp_app, xp_isLst, xp_updS, xp_updR, rd_s, rd_ref, rd_non, rd_bl, rd_int, rd_str, rd_lst, rd_tup, rd_scr, rd_dct, rd_ins, rd_exv, xs_seq, sq_nx, sq_ret, sq_exc, as_E, ts_ok, ts_exc, as_next, as_ret, as_retN, as_do, as_set, as_if, as_ifS, as_for, as_forN, as_forC, fk_nx, fk_cnt, fk_brk, fk_ret, fk_exc, as_it, as_rng, as_asg, as_par, as_par2, as_setO, as_parO, as_parOK, as_ixSet, as_updK, as_fldSet, as_raise1, as_raise1', as_frzO, tf_nx, tf_ret, tf_exc, ti_exc, as_yes, xp_lcV, xp_lstO, xp_tupO, xp_lstCO, xp_lcRun, xp_lcEnd, xl_nil, xl_cons, xl_1, xl_1f, xl_2, ix_0, ix_1, ix_2, ix_3, to_addI, to_sub, to_le, to_gt, to_ge, to_lt, to_ixL, to_ixT, to_abs, to_int, to_intB, to_lenL, to_lenT, to_lenZ, to_isN, to_allL, to_eqI, to_neI, to_neInts, to_eqInts, to_put0, to_put1, to_put2, as_tryE, as_tryOk, as_tryX, as_keepX, xq_inO, xq_eqO, xq_neO, xq_binO, xq_eqNO, xq_eqN0, xq_eqN1, xq_strO, xq_isSame, xq_blK, xq_strK, xq_join, xq_strOv, xq_js, xq_jn, xq_jc, xq_fmt, xq_callN, xq_callN1, xq_listC, xq_parS, xq_cellT, xq_cellL, wipeT, putBack, tNm, tNo, tCn, tAny, Option.bind_some, startT, startI, List.map_cons, List.map_nil, List.length_cons, List.length_nil, List.cons_append, List.nil_append, List.append_nil, List.getElem?_cons_zero, List.getElem?_cons_succ, List.set_cons_zero, List.set_cons_succ, Nat.reduceAdd, Nat.reduceSub, Nat.reduceEqDiff, Nat.reduceLeDiff, Nat.reduceLT, List.length_append, List.replicate_zero, List.replicate_succ, cellD, blO, intO, itAny, ↓reduceIte, if_true, Bool.false_eq_true, if_false, rd_box, f_left, f_low, f_right, f_high, is_box, Bool.not_true, tMin2, tMax2, q1, q2]
    exact id rfl
  · unfold mn mx at *
    simp only [xp_bind, rb_ok, rb_exc, rb_no, xp_ret, xp_oS, xp_oN, xp_c, xp_v, xp_b, xp_val, xp_op, xp_opw, xp_rd2, xp_rd1, xp_test, xp_ite, xp_and, xp_or, xp_not, xp_andV, xp_orV, xp_notV, xp_onB, xp_if, xp_un, xp_chain, xp_nil, xp_cons, xp_lst, xp_tup, xp_noP, xp_part, xp_sl, xp_1, xp_1W, xp_cbn, xp_is, xp_fld, xp_xf, xp_call, xp_callC, xp_calm, xp_callK, xp_callF, bk_ok, bk_exc, xp_prop, xp_isIns, xp_meth, xp_new, xp_newA, xp_lstC, xp_app, xp_isLst, xp_updS, xp_updR, rd_s, rd_ref, rd_non, rd_bl, rd_int, rd_str, rd_lst, rd_tup, rd_scr, rd_dct, rd_ins, rd_exv, xs_seq, sq_nx, sq_ret, sq_exc, as_E, ts_ok, ts_exc, as_next, as_ret, as_retN, as_do, as_set, as_if, as_ifS, as_for, as_forN, as_forC, fk_nx, fk_cnt, fk_brk, fk_ret, fk_exc, as_it, as_rng, as_asg, as_par, as_par2, as_setO, as_parO, as_parOK, as_ixSet, as_updK, as_fldSet, as_raise1, as_raise1', as_frzO, tf_nx, tf_ret, tf_exc, ti_exc, as_yes, xp_lcV, xp_lstO, xp_tupO, xp_lstCO, xp_lcRun, xp_lcEnd, xl_nil, xl_cons, xl_1, xl_1f, xl_2, ix_0, ix_1, ix_2, ix_3, to_addI, to_sub, to_le, to_gt, to_ge, to_lt, to_ixL, to_ixT, to_abs, to_int, to_intB, to_lenL, to_lenT, to_lenZ, to_isN, to_allL, to_eqI, to_neI, to_neInts, to_eqInts, to_put0, to_put1, to_put2, as_tryE, as_tryOk, as_tryX, as_keepX, xq_inO, xq_eqO, xq_neO, xq_binO, xq_eqNO, xq_eqN0, xq_eqN1, xq_strO, xq_isSame, xq_blK, xq_strK, xq_join, xq_strOv, xq_js, xq_jn, xq_jc, xq_fmt, xq_callN, xq_callN1, xq_listC, xq_parS, xq_cellT, xq_cellL, wipeT, putBack, tNm, tNo, tCn, tAny, Option.bind_some, startT, startI, List.map_cons, List.map_nil, List.length_cons, List.length_nil, List.cons_append, List.nil_append, List.append_nil, List.getElem?_cons_zero, List.getElem?_cons_succ, List.set_cons_zero, List.set_cons_succ, Nat.reduceAdd, Nat.reduceSub, Nat.reduceEqDiff, Nat.reduceLeDiff, Nat.reduceLT, List.length_append, List.replicate_zero, List.replicate_succ, cellD, blO, intO, itAny, ↓reduceIte, if_true, Bool.false_eq_true, if_false, rd_box, f_left, f_low, f_right, f_high, is_box, Bool.not_true, tMin2, tMax2, q1, q2]
    exact id rfl
  · unfold mn mx at *
    simp only [xp_bind, rb_ok, rb_exc, rb_no, xp_ret, xp_oS, xp_oN, xp_c, xp_v, xp_b, xp_val, xp_op, xp_opw, xp_rd2, xp_rd1, xp_test, xp_ite, xp_and, xp_or, xp_not, xp_andV, xp_orV, xp_notV, xp_onB, xp_if, xp_un, xp_chain, xp_nil, xp_cons, xp_lst, xp_tup, xp_noP, xp_part, xp_sl, xp_1, xp_1W, xp_cbn, xp_is, xp_fld, xp_xf, xp_call, xp_callC, xp_calm, xp_callK, xp_callF, bk_ok, bk_exc, xp_prop, xp_isIns, xp_meth, xp_new, xp_newA, xp_lstC, xp_app, xp_isLst, xp_updS, xp_updR, rd_s, rd_ref, rd_non, rd_bl, rd_int, rd_str, rd_lst, rd_tup, rd_scr, rd_dct, rd_ins, rd_exv, xs_seq, sq_nx, sq_ret, sq_exc, as_E, ts_ok, ts_exc, as_next, as_ret, as_retN, as_do, as_set, as_if, as_ifS, as_for, as_forN, as_forC, fk_nx, fk_cnt, fk_brk, fk_ret, fk_exc, as_it, as_rng, as_asg, as_par, as_par2, as_setO, as_parO, as_parOK, as_ixSet, as_updK, as_fldSet, as_raise1, as_raise1', as_frzO, tf_nx, tf_ret, tf_exc, ti_exc, as_yes, xp_lcV, xp_lstO, xp_tupO, xp_lstCO, xp_lcRun, xp_lcEnd, xl_nil, xl_cons, xl_1, xl_1f, xl_2, ix_0, ix_1, ix_2, ix_3, to_addI, to_sub, to_le, to_gt, to_ge, to_lt, to_ixL, to_ixT, to_abs, to_int, to_intB, to_lenL, to_lenT, to_lenZ, to_isN, to_allL, to_eqI, to_neI, to_neInts, to_eqInts, to_put0, to_put1, to_put2, as_tryE, as_tryOk, as_tryX, as_keepX, xq_inO, xq_eqO, xq_neO, xq_binO, xq_eqNO, xq_eqN0, xq_eqN1, xq_strO, xq_isSame, xq_blK, xq_strK, xq_join, xq_strOv, xq_js, xq_jn, xq_jc, xq_fmt, xq_callN, xq_callN1, xq_listC, xq_parS, xq_cellT, xq_cellL, wipeT, putBack, tNm, tNo, tCn, tAny, Option.bind_some, startT, startI, List.map_cons, List.map_nil, List.length_cons, List.length_nil, List.cons_append, List.nil_append, List.append_nil, List.getElem?_cons_zero, List.getElem?_cons_succ, List.set_cons_zero, List.set_cons_succ, Nat.reduceAdd, Nat.reduceSub, Nat.reduceEqDiff, Nat.reduceLeDiff, Nat.reduceLT, List.length_append, List.replicate_zero, List.replicate_succ, cellD, blO, intO, itAny, ↓reduceIte, if_true, Bool.false_eq_true, if_false, rd_box, f_left, f_low, f_right, f_high, is_box, Bool.not_true, tMin2, tMax2, q1, q2]
    exact id rfl
  · have i := init_ok (l := mx l l') (lo := mx lo lo') (r := mn r r') (h := mn h h') (Int.le_of_lt (of_decide_eq_true q1)) (Int.le_of_lt (of_decide_eq_true q2))
    unfold mn mx at *
    simp only [xp_bind, rb_ok, rb_exc, rb_no, xp_ret, xp_oS, xp_oN, xp_c, xp_v, xp_b, xp_val, xp_op, xp_opw, xp_rd2, xp_rd1, xp_test, xp_ite, xp_and, xp_or, xp_not, xp_andV, xp_orV, xp_notV, xp_onB, xp_if, xp_un, xp_chain, xp_nil, xp_cons, xp_lst, xp_tup, xp_noP, xp_part, xp_sl, xp_1, xp_1W, xp_cbn, xp_is, xp_fld, xp_xf, xp_call, xp_callC, xp_calm, xp_callK, xp_callF, bk_ok, bk_exc, xp_prop, xp_isIns, xp_meth, xp_new, xp_newA, xp_lstC, xp_app, xp_isLst, xp_updS, xp_updR, rd_s, rd_ref, rd_non, rd_bl, rd_int, rd_str, rd_lst, rd_tup, rd_scr, rd_dct, rd_ins, rd_exv, xs_seq, sq_nx, sq_ret, sq_exc, as_E, ts_ok, ts_exc, as_next, as_ret, as_retN, as_do, as_set, as_if, as_ifS, as_for, as_forN, as_forC, fk_nx, fk_cnt, fk_brk, fk_ret, fk_exc, as_it, as_rng, as_asg, as_par, as_par2, as_setO, as_parO, as_parOK, as_ixSet, as_updK, as_fldSet, as_raise1, as_raise1', as_frzO, tf_nx, tf_ret, tf_exc, ti_exc, as_yes, xp_lcV, xp_lstO, xp_tupO, xp_lstCO, xp_lcRun, xp_lcEnd, xl_nil, xl_cons, xl_1, xl_1f, xl_2, ix_0, ix_1, ix_2, ix_3, to_addI, to_sub, to_le, to_gt, to_ge, to_lt, to_ixL, to_ixT, to_abs, to_int, to_intB, to_lenL, to_lenT, to_lenZ, to_isN, to_allL, to_eqI, to_neI, to_neInts, to_eqInts, to_put0, to_put1, to_put2, as_tryE, as_tryOk, as_tryX, as_keepX, xq_inO, xq_eqO, xq_neO, xq_binO, xq_eqNO, xq_eqN0, xq_eqN1, xq_strO, xq_isSame, xq_blK, xq_strK, xq_join, xq_strOv, xq_js, xq_jn, xq_jc, xq_fmt, xq_callN, xq_callN1, xq_listC, xq_parS, xq_cellT, xq_cellL, wipeT, putBack, tNm, tNo, tCn, tAny, Option.bind_some, startT, startI, List.map_cons, List.map_nil, List.length_cons, List.length_nil, List.cons_append, List.nil_append, List.append_nil, List.getElem?_cons_zero, List.getElem?_cons_succ, List.set_cons_zero, List.set_cons_succ, Nat.reduceAdd, Nat.reduceSub, Nat.reduceEqDiff, Nat.reduceLeDiff, Nat.reduceLT, List.length_append, List.replicate_zero, List.replicate_succ, cellD, blO, intO, itAny, ↓reduceIte, if_true, Bool.false_eq_true, if_false, rd_box, f_left, f_low, f_right, f_high, is_box, Bool.not_true, tMin2, tMax2, q1, q2, i]
    exact id rfl
end Loneboard_k48_boxes

set_option Elab.async false
set_option linter.all false
set_option maxRecDepth 100000
set_option maxHeartbeats 4000000
/-! k48: cells. -/
namespace Loneboard_k48_boxes
open PySem Fl
open Dl (D Cell eqOk eqD flatD inD rngD putD)
def colL (x lo : Int) (v : Nat) : List D := (List.range v).map fun (j : Nat) => pt x (lo + (j : Int))
theorem colL_len {x lo : Int} {v : Nat} : (colL x lo v).length = v := by
  unfold colL
  rw [List.length_map, List.length_range]
def bodyC : Ms := (mSet 5 (mOpW tAdd (mB 5) (mVal (mLcV (mRng rng2 (mCons (mV 2) (mCons (mV 4) mNil))) (tNm 7) mYes (mTup (mCons (mV 6) (mCons (mV 7) mNil))) [7]))))
theorem add_lst {a b : List D} (h : a.length + b.length ≤ 16777216) : tAdd (.lst a) (.lst b) = some (.lst (a ++ b)) := by
  unfold tAdd
  exact if_pos (by rw [sz_eq]; exact h)
theorem rng2_ok {a b : Int} (h1 : -1000000 ≤ a ∧ a ≤ 1000000) (h2 : -1000000 ≤ b ∧ b ≤ 1000000) : rng2 [.int a, .int b] = some (rngD a (b - a).toNat) := by
  unfold rng2
  exact if_pos (by omega)
theorem col_ok {x lo h : Int} {s0 s1 s3 s5 : Sl} {A : AH} (b1 : -1000 ≤ lo ∧ lo ≤ 1000) (b2 : -1000 ≤ h ∧ h ≤ 1000) :
    mLcV (mRng rng2 (mCons (mV 2) (mCons (mV 4) mNil))) (tNm 7) mYes (mTup (mCons (mV 6) (mCons (mV 7) mNil))) [7] [s0, s1, .val (.int lo), s3, .val (.int h), s5, .val (.int x), .no] A = .ok (.lst (colL x lo (h - lo).toNat)) [s0, s1, .val (.int lo), s3, .val (.int h), s5, .val (.int x), .no] A := by
  have e := rng2_ok (a := lo) (b := h) (by omega) (by omega)
  have hl : (rngD lo (h - lo).toNat).length ≤ sizeLine := by
    unfold rngD
    rw [List.length_map, List.length_range, sz_eq]
    omega
  have L := lcRun_pure (t := tNm 7) (tt := mYes) (te := mTup (mCons (mV 6) (mCons (mV 7) mNil))) (vs := [7]) (Γ := [s0, s1, .val (.int lo), s3, .val (.int h), s5, .val (.int x), .no]) (A := A) (p := fun _ => true) (g := fun d => .tup [.int x, d]) (rngD lo (h - lo).toNat) hl (fun d hd => by
    refine ⟨[s0, s1, .val (.int lo), s3, .val (.int h), s5, .val (.int x), .val d], rfl, rfl, rfl, fun _ => ?_⟩
    simp only [xp_bind, rb_ok, rb_exc, rb_no, xp_ret, xp_oS, xp_oN, xp_c, xp_v, xp_b, xp_val, xp_op, xp_opw, xp_rd2, xp_rd1, xp_test, xp_ite, xp_and, xp_or, xp_not, xp_andV, xp_orV, xp_notV, xp_onB, xp_if, xp_un, xp_chain, xp_nil, xp_cons, xp_lst, xp_tup, xp_noP, xp_part, xp_sl, xp_1, xp_1W, xp_cbn, xp_is, xp_fld, xp_xf, xp_call, xp_callC, xp_calm, xp_callK, xp_callF, bk_ok, bk_exc, xp_prop, xp_isIns, xp_meth, xp_new, xp_newA, xp_lstC, xp_app, xp_isLst, xp_updS, xp_updR, rd_s, rd_ref, rd_non, rd_bl, rd_int, rd_str, rd_lst, rd_tup, rd_scr, rd_dct, rd_ins, rd_exv, xs_seq, sq_nx, sq_ret, sq_exc, as_E, ts_ok, ts_exc, as_next, as_ret, as_retN, as_do, as_set, as_if, as_ifS, as_for, as_forN, as_forC, fk_nx, fk_cnt, fk_brk, fk_ret, fk_exc, as_it, as_rng, as_asg, as_par, as_par2, as_setO, as_parO, as_parOK, as_ixSet, as_updK, as_fldSet, as_raise1, as_raise1', as_frzO, tf_nx, tf_ret, tf_exc, ti_exc, as_yes, xp_lcV, xp_lstO, xp_tupO, xp_lstCO, xp_lcRun, xp_lcEnd, xl_nil, xl_cons, xl_1, xl_1f, xl_2, ix_0, ix_1, ix_2, ix_3, to_addI, to_sub, to_le, to_gt, to_ge, to_lt, to_ixL, to_ixT, to_abs, to_int, to_intB, to_lenL, to_lenT, to_lenZ, to_isN, to_allL, to_eqI, to_neI, to_neInts, to_eqInts, to_put0, to_put1, to_put2, as_tryE, as_tryOk, as_tryX, as_keepX, xq_inO, xq_eqO, xq_neO, xq_binO, xq_eqNO, xq_eqN0, xq_eqN1, xq_strO, xq_isSame, xq_blK, xq_strK, xq_join, xq_strOv, xq_js, xq_jn, xq_jc, xq_fmt, xq_callN, xq_callN1, xq_listC, xq_parS, xq_cellT, xq_cellL, wipeT, putBack, tNm, tNo, tCn, tAny, Option.bind_some, startT, startI, List.map_cons, List.map_nil, List.length_cons, List.length_nil, List.cons_append, List.nil_append, List.append_nil, List.getElem?_cons_zero, List.getElem?_cons_succ, List.set_cons_zero, List.set_cons_succ, Nat.reduceAdd, Nat.reduceSub, Nat.reduceEqDiff, Nat.reduceLeDiff, Nat.reduceLT, List.length_append, List.replicate_zero, List.replicate_succ, cellD, blO, intO, itAny, ↓reduceIte, if_true, Bool.false_eq_true, if_false]) rfl
  rw [xp_lcV]
  simp only [xp_bind, rb_ok, rb_exc, rb_no, xp_ret, xp_oS, xp_oN, xp_c, xp_v, xp_b, xp_val, xp_op, xp_opw, xp_rd2, xp_rd1, xp_test, xp_ite, xp_and, xp_or, xp_not, xp_andV, xp_orV, xp_notV, xp_onB, xp_if, xp_un, xp_chain, xp_nil, xp_cons, xp_lst, xp_tup, xp_noP, xp_part, xp_sl, xp_1, xp_1W, xp_cbn, xp_is, xp_fld, xp_xf, xp_call, xp_callC, xp_calm, xp_callK, xp_callF, bk_ok, bk_exc, xp_prop, xp_isIns, xp_meth, xp_new, xp_newA, xp_lstC, xp_app, xp_isLst, xp_updS, xp_updR, rd_s, rd_ref, rd_non, rd_bl, rd_int, rd_str, rd_lst, rd_tup, rd_scr, rd_dct, rd_ins, rd_exv, xs_seq, sq_nx, sq_ret, sq_exc, as_E, ts_ok, ts_exc, as_next, as_ret, as_retN, as_do, as_set, as_if, as_ifS, as_for, as_forN, as_forC, fk_nx, fk_cnt, fk_brk, fk_ret, fk_exc, as_it, as_rng, as_asg, as_par, as_par2, as_setO, as_parO, as_parOK, as_ixSet, as_updK, as_fldSet, as_raise1, as_raise1', as_frzO, tf_nx, tf_ret, tf_exc, ti_exc, as_yes, xp_lcV, xp_lstO, xp_tupO, xp_lstCO, xp_lcRun, xp_lcEnd, xl_nil, xl_cons, xl_1, xl_1f, xl_2, ix_0, ix_1, ix_2, ix_3, to_addI, to_sub, to_le, to_gt, to_ge, to_lt, to_ixL, to_ixT, to_abs, to_int, to_intB, to_lenL, to_lenT, to_lenZ, to_isN, to_allL, to_eqI, to_neI, to_neInts, to_eqInts, to_put0, to_put1, to_put2, as_tryE, as_tryOk, as_tryX, as_keepX, xq_inO, xq_eqO, xq_neO, xq_binO, xq_eqNO, xq_eqN0, xq_eqN1, xq_strO, xq_isSame, xq_blK, xq_strK, xq_join, xq_strOv, xq_js, xq_jn, xq_jc, xq_fmt, xq_callN, xq_callN1, xq_listC, xq_parS, xq_cellT, xq_cellL, wipeT, putBack, tNm, tNo, tCn, tAny, Option.bind_some, startT, startI, List.map_cons, List.map_nil, List.length_cons, List.length_nil, List.cons_append, List.nil_append, List.append_nil, List.getElem?_cons_zero, List.getElem?_cons_succ, List.set_cons_zero, List.set_cons_succ, Nat.reduceAdd, Nat.reduceSub, Nat.reduceEqDiff, Nat.reduceLeDiff, Nat.reduceLT, List.length_append, List.replicate_zero, List.replicate_succ, cellD, blO, intO, itAny, ↓reduceIte, if_true, Bool.false_eq_true, if_false, e]
  show lcRun (tNm 7) mYes (mTup (mCons (mV 6) (mCons (mV 7) mNil))) [7] (rngD lo (h - lo).toNat) [s0, s1, .val (.int lo), s3, .val (.int h), s5, .val (.int x), .no] A = _
  rw [L]
  unfold colL rngD
  rw [List.filter_eq_self.mpr (fun _ _ => rfl), List.map_map]
  exact id rfl
theorem cells_loop {l lo r h : Int} {s0 : Sl} {A : AH} (b1 : -1000 ≤ lo ∧ lo ≤ 1000) (b2 : -1000 ≤ h ∧ h ≤ 1000) : ∀ (is : List Int) (acc : List D) (s6 : Sl), acc.length + is.length * (h - lo).toNat ≤ 1000000 →
    ∃ t6, mForL (tNm 6) bodyC (is.map .int) [s0, .val (.int l), .val (.int lo), .val (.int r), .val (.int h), .val (.lst acc), s6, .no] A = .nx [s0, .val (.int l), .val (.int lo), .val (.int r), .val (.int h), .val (.lst (acc ++ is.flatMap fun x => colL x lo (h - lo).toNat)), t6, .no] A
  | [], acc, s6, _ => ⟨s6, by rw [List.flatMap_nil, List.append_nil]; exact id rfl⟩
  | x :: is, acc, s6, hl => by
    rw [List.length_cons, Nat.succ_mul] at hl
    have c := col_ok (x := x) (s0 := s0) (s1 := .val (.int l)) (s3 := .val (.int r)) (s5 := .val (.lst acc)) (A := A) b1 b2
    have a := add_lst (a := acc) (b := colL x lo (h - lo).toNat) (by rw [colL_len]; omega)
    obtain ⟨t6, e⟩ := cells_loop (l := l) (r := r) (s0 := s0) (A := A) b1 b2 is (acc ++ colL x lo (h - lo).toNat) (.val (.int x)) (by rw [List.length_append, colL_len]; omega)
    refine ⟨t6, ?_⟩
    rw [List.map_cons, as_forC]
    have e1 : bodyC [s0, .val (.int l), .val (.int lo), .val (.int r), .val (.int h), .val (.lst acc), .val (.int x), .no] A = .nx [s0, .val (.int l), .val (.int lo), .val (.int r), .val (.int h), .val (.lst (acc ++ colL x lo (h - lo).toNat)), .val (.int x), .no] A := by
      unfold bodyC
      generalize mLcV (mRng rng2 (mCons (mV 2) (mCons (mV 4) mNil))) (tNm 7) mYes (mTup (mCons (mV 6) (mCons (mV 7) mNil))) [7] = LC at c ⊢
      simp only [xp_bind, rb_ok, rb_exc, rb_no, xp_ret, xp_oS, xp_oN, xp_c, xp_v, xp_b, xp_val, xp_op, xp_opw, xp_rd2, xp_rd1, xp_test, xp_ite, xp_and, xp_or, xp_not, xp_andV, xp_orV, xp_notV, xp_onB, xp_if, xp_un, xp_chain, xp_nil, xp_cons, xp_lst, xp_tup, xp_noP, xp_part, xp_sl, xp_1, xp_1W, xp_cbn, xp_is, xp_fld, xp_xf, xp_call, xp_callC, xp_calm, xp_callK, xp_callF, bk_ok, bk_exc, xp_prop, xp_isIns, xp_meth, xp_new, xp_newA, xp_lstC, xp_app, xp_isLst, xp_updS, xp_updR, rd_s, rd_ref, rd_non, rd_bl, rd_int, rd_str, rd_lst, rd_tup, rd_scr, rd_dct, rd_ins, rd_exv, xs_seq, sq_nx, sq_ret, sq_exc, as_E, ts_ok, ts_exc, as_next, as_ret, as_retN, as_do, as_set, as_if, as_ifS, as_for, as_forN, as_forC, fk_nx, fk_cnt, fk_brk, fk_ret, fk_exc, as_it, as_rng, as_asg, as_par, as_par2, as_setO, as_parO, as_parOK, as_ixSet, as_updK, as_fldSet, as_raise1, as_raise1', as_frzO, tf_nx, tf_ret, tf_exc, ti_exc, as_yes, xp_lcV, xp_lstO, xp_tupO, xp_lstCO, xp_lcRun, xp_lcEnd, xl_nil, xl_cons, xl_1, xl_1f, xl_2, ix_0, ix_1, ix_2, ix_3, to_addI, to_sub, to_le, to_gt, to_ge, to_lt, to_ixL, to_ixT, to_abs, to_int, to_intB, to_lenL, to_lenT, to_lenZ, to_isN, to_allL, to_eqI, to_neI, to_neInts, to_eqInts, to_put0, to_put1, to_put2, as_tryE, as_tryOk, as_tryX, as_keepX, xq_inO, xq_eqO, xq_neO, xq_binO, xq_eqNO, xq_eqN0, xq_eqN1, xq_strO, xq_isSame, xq_blK, xq_strK, xq_join, xq_strOv, xq_js, xq_jn, xq_jc, xq_fmt, xq_callN, xq_callN1, xq_listC, xq_parS, xq_cellT, xq_cellL, wipeT, putBack, tNm, tNo, tCn, tAny, Option.bind_some, startT, startI, List.map_cons, List.map_nil, List.length_cons, List.length_nil, List.cons_append, List.nil_append, List.append_nil, List.getElem?_cons_zero, List.getElem?_cons_succ, List.set_cons_zero, List.set_cons_succ, Nat.reduceAdd, Nat.reduceSub, Nat.reduceEqDiff, Nat.reduceLeDiff, Nat.reduceLT, List.length_append, List.replicate_zero, List.replicate_succ, cellD, blO, intO, itAny, ↓reduceIte, if_true, Bool.false_eq_true, if_false, c, a]
    show forK (tNm 6) bodyC (is.map .int) (bodyC [s0, .val (.int l), .val (.int lo), .val (.int r), .val (.int h), .val (.lst acc), .val (.int x), .no] A) = _
    rw [e1]
    show mForL (tNm 6) bodyC (is.map .int) _ A = _
    rw [e, List.flatMap_cons, List.append_assoc]
end Loneboard_k48_boxes

set_option Elab.async false
set_option linter.all false
set_option maxRecDepth 100000
set_option maxHeartbeats 4000000
/-! k48: cells, all of them. -/
namespace Loneboard_k48_boxes
open PySem Fl
open Dl (D Cell eqOk eqD flatD inD rngD putD)
def intsI (l : Int) (n : Nat) : List Int := (List.range n).map fun (i : Nat) => l + (i : Int)
theorem rngD_ints {l : Int} {n : Nat} : rngD l n = (intsI l n).map .int := by
  unfold rngD intsI
  rw [List.map_map]
  exact id rfl
def cellsL (l lo r h : Int) : List D := (intsI l (r - l).toNat).flatMap fun x => colL x lo (h - lo).toNat
theorem cells_ok {l lo r h : Int} (b0 : -1000 ≤ l ∧ l ≤ 1000) (b3 : -1000 ≤ r ∧ r ≤ 1000) (b1 : -1000 ≤ lo ∧ lo ≤ 1000) (b2 : -1000 ≤ h ∧ h ≤ 1000) (hs : (r - l).toNat * (h - lo).toNat ≤ 1000000) (A : AH) : F__law_cells [tp4 l lo r h] A = .ok (.lst (cellsL l lo r h)) A := by
  have e := rng2_ok (a := l) (b := r) (by omega) (by omega)
  obtain ⟨t6, L⟩ := cells_loop (l := l) (r := r) (s0 := .val (tp4 l lo r h)) (A := A) b1 b2 (intsI l (r - l).toNat) [] .no (by
    unfold intsI
    rw [List.length_map, List.length_range, List.length_nil, Nat.zero_add]
    exact hs)
  rw [← rngD_ints] at L
  unfold bodyC at L
  unfold F__law_cells
  rw [run_F (by rfl)]
  unfold B__law_cells
  generalize rngD l (r - l).toNat = is at *
  simp only [xp_bind, rb_ok, rb_exc, rb_no, xp_ret, xp_oS, xp_oN, xp_c, xp_v, xp_b, xp_val, xp_op, xp_opw, xp_rd2, xp_rd1, xp_test, xp_ite, xp_and, xp_or, xp_not, xp_andV, xp_orV, xp_notV, xp_onB, xp_if, xp_un, xp_chain, xp_nil, xp_cons, xp_lst, xp_tup, xp_noP, xp_part, xp_sl, xp_1, xp_1W, xp_cbn, xp_is, xp_fld, xp_xf, xp_call, xp_callC, xp_calm, xp_callK, xp_callF, bk_ok, bk_exc, xp_prop, xp_isIns, xp_meth, xp_new, xp_newA, xp_lstC, xp_app, xp_isLst, xp_updS, xp_updR, rd_s, rd_ref, rd_non, rd_bl, rd_int, rd_str, rd_lst, rd_tup, rd_scr, rd_dct, rd_ins, rd_exv, xs_seq, sq_nx, sq_ret, sq_exc, as_E, ts_ok, ts_exc, as_next, as_ret, as_retN, as_do, as_set, as_if, as_ifS, as_for, as_forN, as_forC, fk_nx, fk_cnt, fk_brk, fk_ret, fk_exc, as_it, as_rng, as_asg, as_par, as_par2, as_setO, as_parO, as_parOK, as_ixSet, as_updK, as_fldSet, as_raise1, as_raise1', as_frzO, tf_nx, tf_ret, tf_exc, ti_exc, as_yes, xp_lcV, xp_lstO, xp_tupO, xp_lstCO, xp_lcRun, xp_lcEnd, xl_nil, xl_cons, xl_1, xl_1f, xl_2, ix_0, ix_1, ix_2, ix_3, to_addI, to_sub, to_le, to_gt, to_ge, to_lt, to_ixL, to_ixT, to_abs, to_int, to_intB, to_lenL, to_lenT, to_lenZ, to_isN, to_allL, to_eqI, to_neI, to_neInts, to_eqInts, to_put0, to_put1, to_put2, as_tryE, as_tryOk, as_tryX, as_keepX, xq_inO, xq_eqO, xq_neO, xq_binO, xq_eqNO, xq_eqN0, xq_eqN1, xq_strO, xq_isSame, xq_blK, xq_strK, xq_join, xq_strOv, xq_js, xq_jn, xq_jc, xq_fmt, xq_callN, xq_callN1, xq_listC, xq_parS, xq_cellT, xq_cellL, wipeT, putBack, tNm, tNo, tCn, tAny, Option.bind_some, startT, startI, List.map_cons, List.map_nil, List.length_cons, List.length_nil, List.cons_append, List.nil_append, List.append_nil, List.getElem?_cons_zero, List.getElem?_cons_succ, List.set_cons_zero, List.set_cons_succ, Nat.reduceAdd, Nat.reduceSub, Nat.reduceEqDiff, Nat.reduceLeDiff, Nat.reduceLT, List.length_append, List.replicate_zero, List.replicate_succ, cellD, blO, intO, itAny, ↓reduceIte, if_true, Bool.false_eq_true, if_false, e, L]
  exact id rfl
theorem mem_ints {l : Int} {n : Nat} {x : Int} : x ∈ intsI l n ↔ l ≤ x ∧ x < l + n := by
  unfold intsI
  rw [List.mem_map]
  constructor
  · rintro ⟨i, hi, rfl⟩
    rw [List.mem_range] at hi
    omega
  · rintro ⟨h1, h2⟩
    exact ⟨(x - l).toNat, List.mem_range.mpr (by omega), by omega⟩
theorem mem_cells {l lo r h : Int} {d : D} : d ∈ cellsL l lo r h ↔ ∃ x y, d = pt x y ∧ (l ≤ x ∧ x < r) ∧ (lo ≤ y ∧ y < h) := by
  unfold cellsL colL
  simp only [List.mem_flatMap, List.mem_map, List.mem_range, mem_ints]
  constructor
  · rintro ⟨x, hx, j, hj, rfl⟩
    exact ⟨x, lo + j, rfl, by omega, by omega⟩
  · rintro ⟨x, y, rfl, hx, hy⟩
    exact ⟨x, by omega, (y - lo).toNat, by omega, by rw [show lo + ((y - lo).toNat : Int) = y by omega]⟩
end Loneboard_k48_boxes

set_option Elab.async false
set_option linter.all false
set_option maxRecDepth 100000
set_option maxHeartbeats 4000000
/-! k48: cells that are asked for. -/
namespace Loneboard_k48_boxes
open PySem Fl
open Dl (D Cell eqOk eqD flatD inD rngD putD toPy toPys plain plains)
theorem depth_le : ∀ (xs : List PyData) (e : Nat), (∀ x ∈ xs, x.depth ≤ e) → PyData.depthAll xs ≤ e
  | [], _, _ => by simp [PyData.depthAll]
  | x :: xs, e, h => by
    have h1 := h x List.mem_cons_self
    have h2 := depth_le xs e fun y hy => h y (List.mem_cons_of_mem _ hy)
    simp only [PyData.depthAll]
    exact Nat.max_le.mpr ⟨h1, h2⟩
theorem eqOk_deep {xs : List D} {e : Nat} (he : e ≤ 63) (h : ∀ x ∈ xs, eqOk x = true ∧ (toPy x).depth ≤ e) : eqOk (.lst xs) = true := by
  have h1 : plains xs = true := by
    rw [Dl.plains_all, List.all_eq_true]
    intro x hx
    exact (Bool.and_eq_true_iff.mp (h x hx).1).1
  have e0 : toPys xs = xs.map toPy := by
    rw [← List.map_id xs, Dl.toPys_map]
    simp
  have h2 : PyData.canLayAll0 (toPys xs) = true := by
    rw [e0, Dl.canLay_all, List.all_eq_true]
    intro y hy
    obtain ⟨x, hx, rfl⟩ := List.mem_map.mp hy
    exact SeqAt.canLay_of_shaped (Bool.and_eq_true_iff.mp (h x hx).1).2
  have h3 : PyData.depthAll (toPys xs) ≤ e := by
    rw [e0]
    refine depth_le _ _ fun y hy => ?_
    obtain ⟨x, hx, rfl⟩ := List.mem_map.mp hy
    exact (h x hx).2
  unfold eqOk
  show (plains xs && (PyData.canLay0 (.list (toPys xs)) && decide (PyData.depth (.list (toPys xs)) ≤ 64))) = true
  rw [h1]
  simp only [PyData.canLay0, PyData.depth, h2, Bool.true_and, decide_eq_true_eq]
  exact decide_eq_true (Nat.succ_le_succ (Nat.le_trans h3 he))
theorem eqOk_pt {x y : Int} : eqOk (pt x y) = true := by simp [eqOk, Dl.plain, Dl.plains, toPy, toPys, SeqAt.shaped, PyData.canLay0, PyData.canLayAll0, PyData.depth, PyData.depthAll]
theorem dep_pt {x y : Int} : (toPy (pt x y)).depth ≤ 1 := by simp [toPy, toPys, PyData.depth, PyData.depthAll]
theorem eqD_pt {x y u v : Int} : eqD (pt x y) (pt u v) = (decide (x = u) && decide (y = v)) := by
  simp only [eqD, toPy, toPys, PyData.eqv, PyData.eqvAll]
  exact Bool.eq_iff_iff.mpr (by simp)
theorem eqOk_pts {ds : List D} (h : ∀ d ∈ ds, ∃ x y, d = pt x y) : eqOk (.lst ds) = true := eqOk_deep (e := 1) (by decide) fun d hd => by
  obtain ⟨x, y, rfl⟩ := h d hd
  exact ⟨eqOk_pt, dep_pt⟩
theorem pts_cells {l lo r h : Int} : ∀ d ∈ cellsL l lo r h, ∃ x y, d = pt x y := fun d hd => let ⟨x, y, e, _⟩ := mem_cells.mp hd; ⟨x, y, e⟩
theorem any_cells {x y l lo r h : Int} : ((cellsL l lo r h).any fun z => eqD z (pt x y)) = inB x y l lo r h := by
  rw [Bool.eq_iff_iff, List.any_eq_true]
  unfold inB
  simp only [Bool.and_eq_true, decide_eq_true_eq]
  constructor
  · rintro ⟨d, hd, he⟩
    obtain ⟨u, v, rfl, h1, h2⟩ := mem_cells.mp hd
    rw [eqD_pt] at he
    simp only [Bool.and_eq_true, decide_eq_true_eq] at he
    obtain ⟨rfl, rfl⟩ := he
    exact ⟨h1, h2⟩
  · rintro ⟨h1, h2⟩
    exact ⟨pt x y, mem_cells.mpr ⟨x, y, rfl, h1, h2⟩, by rw [eqD_pt]; simp⟩
theorem in_cells {x y l lo r h : Int} : tInP false (pt x y) (.lst (cellsL l lo r h)) = some (.bl (inB x y l lo r h)) := by
  unfold tInP
  show (if eqOk (pt x y) = true ∧ eqOk (.lst (cellsL l lo r h)) = true then _ else _) = _
  rw [if_pos ⟨eqOk_pt, eqOk_pts pts_cells⟩, if_neg (by decide), any_cells]
theorem any_d {l lo r h : Int} {d : D} (hd : ∃ x y, d = pt x y) : tInP false d (.lst (cellsL l lo r h)) = some (.bl ((cellsL l lo r h).any fun z => eqD z d)) := by
  obtain ⟨x, y, rfl⟩ := hd
  rw [in_cells, any_cells]
/-- cells of both -/
def bothL (l lo r h l' lo' r' h' : Int) : List D := (cellsL l lo r h).filter fun d => (cellsL l' lo' r' h').any fun z => eqD z d
theorem mem_both {l lo r h l' lo' r' h' : Int} {d : D} : d ∈ bothL l lo r h l' lo' r' h' ↔ ∃ x y, d = pt x y ∧ (mx l l' ≤ x ∧ x < mn r r') ∧ (mx lo lo' ≤ y ∧ y < mn h h') := by
  unfold bothL
  rw [List.mem_filter, mem_cells]
  constructor
  · rintro ⟨⟨x, y, rfl, h1, h2⟩, h3⟩
    rw [any_cells] at h3
    unfold inB at h3
    simp only [Bool.and_eq_true, decide_eq_true_eq] at h3
    refine ⟨x, y, rfl, ?_, ?_⟩ <;> unfold mx mn <;> constructor <;> split <;> omega
  · rintro ⟨x, y, rfl, h1, h2⟩
    unfold mx mn at h1 h2
    refine ⟨⟨x, y, rfl, ?_, ?_⟩, ?_⟩
    · constructor
      · have := h1.1; split at this <;> omega
      · have := h1.2; split at this <;> omega
    · constructor
      · have := h2.1; split at this <;> omega
      · have := h2.2; split at this <;> omega
    · rw [any_cells]
      unfold inB
      simp only [Bool.and_eq_true, decide_eq_true_eq]
      refine ⟨⟨?_, ?_⟩, ?_, ?_⟩
      · have := h1.1; split at this <;> omega
      · have := h1.2; split at this <;> omega
      · have := h2.1; split at this <;> omega
      · have := h2.2; split at this <;> omega
theorem len_cells {l lo r h : Int} : (cellsL l lo r h).length = (r - l).toNat * (h - lo).toNat := by
  unfold cellsL
  rw [List.length_flatMap]
  have : ∀ is : List Int, (is.map fun x => (colL x lo (h - lo).toNat).length).sum = is.length * (h - lo).toNat := fun is => by
    induction is with
    | nil => simp
    | cons x is ih =>
      rw [List.map_cons, List.sum_cons, ih, colL_len, List.length_cons, Nat.succ_mul]
      omega
  rw [this]
  unfold intsI
  rw [List.length_map, List.length_range]
def fstD : D → D
  | .tup [x, _] => x
  | d => d
def sndD : D → D
  | .tup [_, y] => y
  | d => d
/-- the comprehension that keeps what is in both -/
theorem keep_ok {l lo r h l' lo' r' h' : Int} {s2 s3 s4 s6 s7 : Sl} (c0 : -1000 ≤ l' ∧ l' ≤ 1000) (c1 : -1000 ≤ lo' ∧ lo' ≤ 1000) (c2 : -1000 ≤ r' ∧ r' ≤ 1000) (c3 : -1000 ≤ h' ∧ h' ≤ 1000) (hs : (r' - l').toNat * (h' - lo').toNat ≤ 1000000) (hs0 : (r - l).toNat * (h - lo).toNat ≤ 1000000) (A : AH) :
    lcRun (tNm 5) (mTest (mOpW (tInP false) (mB 5) (mVal (mCallC F__law_cells [] (mCons (mV 1) mNil))))) (mV 5) [5] (cellsL l lo r h) [.val (tp4 l lo r h), .val (tp4 l' lo' r' h'), s2, s3, s4, .no, s6, s7] A = .ok (.lst (bothL l lo r h l' lo' r' h')) [.val (tp4 l lo r h), .val (tp4 l' lo' r' h'), s2, s3, s4, .no, s6, s7] A := by
  have e := cells_ok c0 c2 c1 c3 hs A
  rw [lcRun_pure (p := fun d => (cellsL l' lo' r' h').any fun z => eqD z d) (g := fun d => d) (cellsL l lo r h) (by rw [len_cells, sz_eq]; omega) (fun d hd => by
    have i := any_d (l := l') (lo := lo') (r := r') (h := h') (pts_cells d hd)
    refine ⟨[.val (tp4 l lo r h), .val (tp4 l' lo' r' h'), s2, s3, s4, .val d, s6, s7], rfl, rfl, ?_, fun _ => ?_⟩
    · obtain ⟨x, y, rfl⟩ := pts_cells d hd
      have rd : ∀ {Γ : SG} {A : AH}, rdO (.v (pt x y)) Γ A = some (pt x y) := fun {Γ A} => id rfl
      generalize cellsL l' lo' r' h' = cs at *
      simp only [xp_bind, rb_ok, rb_exc, rb_no, xp_ret, xp_oS, xp_oN, xp_c, xp_v, xp_b, xp_val, xp_op, xp_opw, xp_rd2, xp_rd1, xp_test, xp_ite, xp_and, xp_or, xp_not, xp_andV, xp_orV, xp_notV, xp_onB, xp_if, xp_un, xp_chain, xp_nil, xp_cons, xp_lst, xp_tup, xp_noP, xp_part, xp_sl, xp_1, xp_1W, xp_cbn, xp_is, xp_fld, xp_xf, xp_call, xp_callC, xp_calm, xp_callK, xp_callF, bk_ok, bk_exc, xp_prop, xp_isIns, xp_meth, xp_new, xp_newA, xp_lstC, xp_app, xp_isLst, xp_updS, xp_updR, rd_s, rd_ref, rd_non, rd_bl, rd_int, rd_str, rd_lst, rd_tup, rd_scr, rd_dct, rd_ins, rd_exv, xs_seq, sq_nx, sq_ret, sq_exc, as_E, ts_ok, ts_exc, as_next, as_ret, as_retN, as_do, as_set, as_if, as_ifS, as_for, as_forN, as_forC, fk_nx, fk_cnt, fk_brk, fk_ret, fk_exc, as_it, as_rng, as_asg, as_par, as_par2, as_setO, as_parO, as_parOK, as_ixSet, as_updK, as_fldSet, as_raise1, as_raise1', as_frzO, tf_nx, tf_ret, tf_exc, ti_exc, as_yes, xp_lcV, xp_lstO, xp_tupO, xp_lstCO, xp_lcRun, xp_lcEnd, xl_nil, xl_cons, xl_1, xl_1f, xl_2, ix_0, ix_1, ix_2, ix_3, to_addI, to_sub, to_le, to_gt, to_ge, to_lt, to_ixL, to_ixT, to_abs, to_int, to_intB, to_lenL, to_lenT, to_lenZ, to_isN, to_allL, to_eqI, to_neI, to_neInts, to_eqInts, to_put0, to_put1, to_put2, as_tryE, as_tryOk, as_tryX, as_keepX, xq_inO, xq_eqO, xq_neO, xq_binO, xq_eqNO, xq_eqN0, xq_eqN1, xq_strO, xq_isSame, xq_blK, xq_strK, xq_join, xq_strOv, xq_js, xq_jn, xq_jc, xq_fmt, xq_callN, xq_callN1, xq_listC, xq_parS, xq_cellT, xq_cellL, wipeT, putBack, tNm, tNo, tCn, tAny, Option.bind_some, startT, startI, List.map_cons, List.map_nil, List.length_cons, List.length_nil, List.cons_append, List.nil_append, List.append_nil, List.getElem?_cons_zero, List.getElem?_cons_succ, List.set_cons_zero, List.set_cons_succ, Nat.reduceAdd, Nat.reduceSub, Nat.reduceEqDiff, Nat.reduceLeDiff, Nat.reduceLT, List.length_append, List.replicate_zero, List.replicate_succ, cellD, blO, intO, itAny, ↓reduceIte, if_true, Bool.false_eq_true, if_false, e, rd, i]
    · simp only [xp_bind, rb_ok, rb_exc, rb_no, xp_ret, xp_oS, xp_oN, xp_c, xp_v, xp_b, xp_val, xp_op, xp_opw, xp_rd2, xp_rd1, xp_test, xp_ite, xp_and, xp_or, xp_not, xp_andV, xp_orV, xp_notV, xp_onB, xp_if, xp_un, xp_chain, xp_nil, xp_cons, xp_lst, xp_tup, xp_noP, xp_part, xp_sl, xp_1, xp_1W, xp_cbn, xp_is, xp_fld, xp_xf, xp_call, xp_callC, xp_calm, xp_callK, xp_callF, bk_ok, bk_exc, xp_prop, xp_isIns, xp_meth, xp_new, xp_newA, xp_lstC, xp_app, xp_isLst, xp_updS, xp_updR, rd_s, rd_ref, rd_non, rd_bl, rd_int, rd_str, rd_lst, rd_tup, rd_scr, rd_dct, rd_ins, rd_exv, xs_seq, sq_nx, sq_ret, sq_exc, as_E, ts_ok, ts_exc, as_next, as_ret, as_retN, as_do, as_set, as_if, as_ifS, as_for, as_forN, as_forC, fk_nx, fk_cnt, fk_brk, fk_ret, fk_exc, as_it, as_rng, as_asg, as_par, as_par2, as_setO, as_parO, as_parOK, as_ixSet, as_updK, as_fldSet, as_raise1, as_raise1', as_frzO, tf_nx, tf_ret, tf_exc, ti_exc, as_yes, xp_lcV, xp_lstO, xp_tupO, xp_lstCO, xp_lcRun, xp_lcEnd, xl_nil, xl_cons, xl_1, xl_1f, xl_2, ix_0, ix_1, ix_2, ix_3, to_addI, to_sub, to_le, to_gt, to_ge, to_lt, to_ixL, to_ixT, to_abs, to_int, to_intB, to_lenL, to_lenT, to_lenZ, to_isN, to_allL, to_eqI, to_neI, to_neInts, to_eqInts, to_put0, to_put1, to_put2, as_tryE, as_tryOk, as_tryX, as_keepX, xq_inO, xq_eqO, xq_neO, xq_binO, xq_eqNO, xq_eqN0, xq_eqN1, xq_strO, xq_isSame, xq_blK, xq_strK, xq_join, xq_strOv, xq_js, xq_jn, xq_jc, xq_fmt, xq_callN, xq_callN1, xq_listC, xq_parS, xq_cellT, xq_cellL, wipeT, putBack, tNm, tNo, tCn, tAny, Option.bind_some, startT, startI, List.map_cons, List.map_nil, List.length_cons, List.length_nil, List.cons_append, List.nil_append, List.append_nil, List.getElem?_cons_zero, List.getElem?_cons_succ, List.set_cons_zero, List.set_cons_succ, Nat.reduceAdd, Nat.reduceSub, Nat.reduceEqDiff, Nat.reduceLeDiff, Nat.reduceLT, List.length_append, List.replicate_zero, List.replicate_succ, cellD, blO, intO, itAny, ↓reduceIte, if_true, Bool.false_eq_true, if_false]) rfl, List.map_id']
  exact id rfl
end Loneboard_k48_boxes

set_option Elab.async false
set_option linter.all false
set_option maxRecDepth 100000
set_option maxHeartbeats 4000000
/-! k48: what two boxes have in common, by cells. -/
namespace Loneboard_k48_boxes
open PySem Fl
open Dl (D Cell eqOk eqD flatD inD rngD putD)
theorem ints_of : ∀ {ds : List D}, (∀ d ∈ ds, ∃ x : Int, d = .int x) → ∃ X : List Int, ds = X.map .int
  | [], _ => ⟨[], rfl⟩
  | d :: ds, h => by
    obtain ⟨x, rfl⟩ := h d List.mem_cons_self
    obtain ⟨X, rfl⟩ := ints_of fun e he => h e (List.mem_cons_of_mem _ he)
    exact ⟨x :: X, rfl⟩
theorem intsOf_map : ∀ X : List Int, intsOf (X.map .int) = some X
  | [] => rfl
  | x :: X => by
    rw [List.map_cons]
    simp only [intsOf, intsOf_map X, Option.map_some]
theorem min_ok {ds : List D} {L : Int} (h : ∀ d ∈ ds, ∃ x : Int, d = .int x ∧ L ≤ x) (hL : D.int L ∈ ds) : tMinL (.lst ds) = some (.int L) := by
  obtain ⟨X, rfl⟩ := ints_of fun d hd => let ⟨x, e, _⟩ := h d hd; ⟨x, e⟩
  obtain ⟨x, hx, ex⟩ := List.mem_map.mp hL
  cases ex
  cases X with
  | nil => cases hx
  | cons n ns =>
    obtain ⟨m1, m2⟩ := minI_ok ns n
    have b1 := m2 L hx
    obtain ⟨y, e, b2⟩ := h (.int (minI n ns)) (List.mem_map.mpr ⟨_, m1, rfl⟩)
    cases e
    unfold tMinL
    show (match intsOf ((n :: ns).map D.int) with | some (n :: ns) => some (D.int (minI n ns)) | _ => none) = _
    rw [intsOf_map]
    show some (D.int (minI n ns)) = _
    rw [Int.le_antisymm b1 b2]
theorem max_ok {ds : List D} {L : Int} (h : ∀ d ∈ ds, ∃ x : Int, d = .int x ∧ x ≤ L) (hL : D.int L ∈ ds) : tMaxL (.lst ds) = some (.int L) := by
  obtain ⟨X, rfl⟩ := ints_of fun d hd => let ⟨x, e, _⟩ := h d hd; ⟨x, e⟩
  obtain ⟨x, hx, ex⟩ := List.mem_map.mp hL
  cases ex
  cases X with
  | nil => cases hx
  | cons n ns =>
    obtain ⟨m1, m2⟩ := maxI_ok ns n
    have b1 := m2 L hx
    obtain ⟨y, e, b2⟩ := h (.int (maxI n ns)) (List.mem_map.mpr ⟨_, m1, rfl⟩)
    cases e
    unfold tMaxL
    show (match intsOf ((n :: ns).map D.int) with | some (n :: ns) => some (D.int (maxI n ns)) | _ => none) = _
    rw [intsOf_map]
    show some (D.int (maxI n ns)) = _
    rw [Int.le_antisymm b2 b1]
theorem parts_ok {bs : List D} {k : Nat} {f : D → D} {s0 s1 s2 s3 s4 s5 : Sl} {A : AH} (hb : bs.length ≤ sizeLine) (hp : ∀ d ∈ bs, ∃ x y, d = pt x y) (hk : (k = 6 ∧ f = fstD) ∨ (k = 7 ∧ f = sndD)) :
    lcRun (tAny 2 (tCn (tNm 6) (tCn (tNm 7) tNo))) mYes (mV k) [6, 7] bs [s0, s1, s2, s3, s4, s5, .no, .no] A = .ok (.lst (bs.map f)) [s0, s1, s2, s3, s4, s5, .no, .no] A := by
  rw [lcRun_pure (p := fun _ => true) (g := f) bs hb (fun d hd => by
    obtain ⟨x, y, rfl⟩ := hp d hd
    refine ⟨[s0, s1, s2, s3, s4, s5, .val (.int x), .val (.int y)], rfl, rfl, rfl, fun _ => ?_⟩
    rcases hk with ⟨rfl, rfl⟩ | ⟨rfl, rfl⟩
    · exact id rfl
    · exact id rfl) rfl, List.filter_eq_self.mpr (fun _ _ => rfl)]
theorem meet_ok {l lo r h l' lo' r' h' : Int} (b0 : -100 ≤ l ∧ l ≤ 100) (b1 : -100 ≤ lo ∧ lo ≤ 100) (b2 : -100 ≤ r ∧ r ≤ 100) (b3 : -100 ≤ h ∧ h ≤ 100) (c0 : -100 ≤ l' ∧ l' ≤ 100) (c1 : -100 ≤ lo' ∧ lo' ≤ 100) (c2 : -100 ≤ r' ∧ r' ≤ 100) (c3 : -100 ≤ h' ∧ h' ≤ 100) (A : AH) :
    F__law_meet [tp4 l lo r h, tp4 l' lo' r' h'] A = .ok (if andB l lo r h l' lo' r' h' = true then tp4 (mx l l') (mx lo lo') (mn r r') (mn h h') else .non) A := by
  have sz : (r - l).toNat * (h - lo).toNat ≤ 1000000 := Nat.le_trans (Nat.mul_le_mul (show (r - l).toNat ≤ 200 by omega) (show (h - lo).toNat ≤ 200 by omega)) (by decide)
  have sz' : (r' - l').toNat * (h' - lo').toNat ≤ 1000000 := Nat.le_trans (Nat.mul_le_mul (show (r' - l').toNat ≤ 200 by omega) (show (h' - lo').toNat ≤ 200 by omega)) (by decide)
  have e := cells_ok (l := l) (lo := lo) (r := r) (h := h) (by omega) (by omega) (by omega) (by omega) sz A
  have k := keep_ok (l := l) (lo := lo) (r := r) (h := h) (l' := l') (lo' := lo') (r' := r') (h' := h') (s2 := .no) (s3 := .no) (s4 := .no) (s6 := .no) (s7 := .no) (by omega) (by omega) (by omega) (by omega) sz' sz A
  have hp : ∀ d ∈ bothL l lo r h l' lo' r' h', ∃ x y, d = pt x y := fun d hd => let ⟨x, y, e, _⟩ := mem_both.mp hd; ⟨x, y, e⟩
  have hb : (bothL l lo r h l' lo' r' h').length ≤ sizeLine := by
    have := List.length_filter_le (fun d => (cellsL l' lo' r' h').any fun z => eqD z d) (cellsL l lo r h)
    rw [len_cells] at this
    unfold bothL
    rw [sz_eq]
    omega
  have hn := to_eqNil (eqOk_pts hp)
  have hm : ∀ x y, pt x y ∈ bothL l lo r h l' lo' r' h' ↔ (mx l l' ≤ x ∧ x < mn r r') ∧ (mx lo lo' ≤ y ∧ y < mn h h') := fun x y => by
    rw [mem_both]
    constructor
    · rintro ⟨u, v, e, h1, h2⟩
      cases e
      exact ⟨h1, h2⟩
    · rintro ⟨h1, h2⟩
      exact ⟨x, y, rfl, h1, h2⟩
  unfold F__law_meet
  rw [run_F (by rfl)]
  unfold B__law_meet
  generalize bothL l lo r h l' lo' r' h' = bs at *
  generalize cellsL l lo r h = cs at *
  have rdb : ∀ {Γ : SG} {A : AH}, rdO (.v (.lst bs)) Γ A = some (.lst bs) := fun {Γ A} => id rfl
  cases hbs : bs.isEmpty with
  | true =>
    have hand : andB l lo r h l' lo' r' h' = false := by
      cases q : andB l lo r h l' lo' r' h' with
      | false => rfl
      | true =>
        unfold andB at q
        simp only [Bool.and_eq_true, decide_eq_true_eq] at q
        have := (hm (mx l l') (mx lo lo')).mpr ⟨⟨Int.le_refl _, q.1⟩, Int.le_refl _, q.2⟩
        rw [List.isEmpty_iff.mp hbs] at this
        cases this
    rw [hbs] at hn
    rw [hand]
    simp only [xp_bind, rb_ok, rb_exc, rb_no, xp_ret, xp_oS, xp_oN, xp_c, xp_v, xp_b, xp_val, xp_op, xp_opw, xp_rd2, xp_rd1, xp_test, xp_ite, xp_and, xp_or, xp_not, xp_andV, xp_orV, xp_notV, xp_onB, xp_if, xp_un, xp_chain, xp_nil, xp_cons, xp_lst, xp_tup, xp_noP, xp_part, xp_sl, xp_1, xp_1W, xp_cbn, xp_is, xp_fld, xp_xf, xp_call, xp_callC, xp_calm, xp_callK, xp_callF, bk_ok, bk_exc, xp_prop, xp_isIns, xp_meth, xp_new, xp_newA, xp_lstC, xp_app, xp_isLst, xp_updS, xp_updR, rd_s, rd_ref, rd_non, rd_bl, rd_int, rd_str, rd_lst, rd_tup, rd_scr, rd_dct, rd_ins, rd_exv, xs_seq, sq_nx, sq_ret, sq_exc, as_E, ts_ok, ts_exc, as_next, as_ret, as_retN, as_do, as_set, as_if, as_ifS, as_for, as_forN, as_forC, fk_nx, fk_cnt, fk_brk, fk_ret, fk_exc, as_it, as_rng, as_asg, as_par, as_par2, as_setO, as_parO, as_parOK, as_ixSet, as_updK, as_fldSet, as_raise1, as_raise1', as_frzO, tf_nx, tf_ret, tf_exc, ti_exc, as_yes, xp_lcV, xp_lstO, xp_tupO, xp_lstCO, xl_1, xl_1f, xl_2, ix_0, ix_1, ix_2, ix_3, to_addI, to_sub, to_le, to_gt, to_ge, to_lt, to_ixL, to_ixT, to_abs, to_int, to_intB, to_lenL, to_lenT, to_lenZ, to_isN, to_allL, to_eqI, to_neI, to_neInts, to_eqInts, to_put0, to_put1, to_put2, as_tryE, as_tryOk, as_tryX, as_keepX, xq_inO, xq_eqO, xq_neO, xq_binO, xq_eqNO, xq_eqN0, xq_eqN1, xq_strO, xq_isSame, xq_blK, xq_strK, xq_join, xq_strOv, xq_js, xq_jn, xq_jc, xq_fmt, xq_callN, xq_callN1, xq_listC, xq_parS, xq_cellT, xq_cellL, wipeT, putBack, tNm, tNo, tCn, tAny, Option.bind_some, startT, startI, List.map_cons, List.map_nil, List.length_cons, List.length_nil, List.cons_append, List.nil_append, List.append_nil, List.getElem?_cons_zero, List.getElem?_cons_succ, List.set_cons_zero, List.set_cons_succ, Nat.reduceAdd, Nat.reduceSub, Nat.reduceEqDiff, Nat.reduceLeDiff, Nat.reduceLT, List.length_append, List.replicate_zero, List.replicate_succ, cellD, blO, intO, itAny, ↓reduceIte, if_true, Bool.false_eq_true, if_false, e, k, hn]
  | false =>
    obtain ⟨d0, hd0⟩ : ∃ d, d ∈ bs := by
      cases bs with
      | nil => cases hbs
      | cons a _ => exact ⟨a, List.mem_cons_self⟩
    obtain ⟨x0, y0, rfl⟩ := hp d0 hd0
    have h0 := (hm x0 y0).mp hd0
    have hand : andB l lo r h l' lo' r' h' = true := by
      unfold andB
      simp only [Bool.and_eq_true, decide_eq_true_eq]
      omega
    have p1 := parts_ok (s0 := .val (tp4 l lo r h)) (s1 := .val (tp4 l' lo' r' h')) (s2 := .val (.lst bs)) (s3 := .no) (s4 := .no) (s5 := .no) (A := A) hb hp (.inl ⟨rfl, rfl⟩)
    have p2 := parts_ok (s0 := .val (tp4 l lo r h)) (s1 := .val (tp4 l' lo' r' h')) (s2 := .val (.lst bs)) (s3 := .no) (s4 := .no) (s5 := .no) (A := A) hb hp (.inr ⟨rfl, rfl⟩)
    have f1 : ∀ d ∈ bs.map fstD, ∃ x : Int, d = .int x ∧ mx l l' ≤ x ∧ x ≤ mn r r' - 1 := fun d hd => by
      obtain ⟨b, hb', rfl⟩ := List.mem_map.mp hd
      obtain ⟨x, y, rfl⟩ := hp b hb'
      have := (hm x y).mp hb'
      exact ⟨x, rfl, by omega, by omega⟩
    have f2 : ∀ d ∈ bs.map sndD, ∃ x : Int, d = .int x ∧ mx lo lo' ≤ x ∧ x ≤ mn h h' - 1 := fun d hd => by
      obtain ⟨b, hb', rfl⟩ := List.mem_map.mp hd
      obtain ⟨x, y, rfl⟩ := hp b hb'
      have := (hm x y).mp hb'
      exact ⟨y, rfl, by omega, by omega⟩
    have g1 : ∀ x y, (mx l l' ≤ x ∧ x < mn r r') → (mx lo lo' ≤ y ∧ y < mn h h') → D.int x ∈ bs.map fstD ∧ D.int y ∈ bs.map sndD := fun x y hx hy => ⟨List.mem_map.mpr ⟨pt x y, (hm x y).mpr ⟨hx, hy⟩, rfl⟩, List.mem_map.mpr ⟨pt x y, (hm x y).mpr ⟨hx, hy⟩, rfl⟩⟩
    have q1 := min_ok (fun d hd => let ⟨x, e, a, _⟩ := f1 d hd; ⟨x, e, a⟩) (g1 (mx l l') y0 (by omega) h0.2).1
    have q2 := min_ok (fun d hd => let ⟨x, e, a, _⟩ := f2 d hd; ⟨x, e, a⟩) (g1 x0 (mx lo lo') h0.1 (by omega)).2
    have q3 := max_ok (fun d hd => let ⟨x, e, _, a⟩ := f1 d hd; ⟨x, e, a⟩) (g1 (mn r r' - 1) y0 (by omega) h0.2).1
    have q4 := max_ok (fun d hd => let ⟨x, e, _, a⟩ := f2 d hd; ⟨x, e, a⟩) (g1 x0 (mn h h' - 1) h0.1 (by omega)).2
    rw [hbs] at hn
    rw [hand]
    generalize bs.map fstD = xs at *
    generalize bs.map sndD = ys at *
    have rdx : ∀ {Γ : SG} {A : AH}, rdO (.v (.lst xs)) Γ A = some (.lst xs) := fun {Γ A} => id rfl
    have rdy : ∀ {Γ : SG} {A : AH}, rdO (.v (.lst ys)) Γ A = some (.lst ys) := fun {Γ A} => id rfl
    simp only [xp_bind, rb_ok, rb_exc, rb_no, xp_ret, xp_oS, xp_oN, xp_c, xp_v, xp_b, xp_val, xp_op, xp_opw, xp_rd2, xp_rd1, xp_test, xp_ite, xp_and, xp_or, xp_not, xp_andV, xp_orV, xp_notV, xp_onB, xp_if, xp_un, xp_chain, xp_nil, xp_cons, xp_lst, xp_tup, xp_noP, xp_part, xp_sl, xp_1, xp_1W, xp_cbn, xp_is, xp_fld, xp_xf, xp_call, xp_callC, xp_calm, xp_callK, xp_callF, bk_ok, bk_exc, xp_prop, xp_isIns, xp_meth, xp_new, xp_newA, xp_lstC, xp_app, xp_isLst, xp_updS, xp_updR, rd_s, rd_ref, rd_non, rd_bl, rd_int, rd_str, rd_lst, rd_tup, rd_scr, rd_dct, rd_ins, rd_exv, xs_seq, sq_nx, sq_ret, sq_exc, as_E, ts_ok, ts_exc, as_next, as_ret, as_retN, as_do, as_set, as_if, as_ifS, as_for, as_forN, as_forC, fk_nx, fk_cnt, fk_brk, fk_ret, fk_exc, as_it, as_rng, as_asg, as_par, as_par2, as_setO, as_parO, as_parOK, as_ixSet, as_updK, as_fldSet, as_raise1, as_raise1', as_frzO, tf_nx, tf_ret, tf_exc, ti_exc, as_yes, xp_lcV, xp_lstO, xp_tupO, xp_lstCO, xl_1, xl_1f, xl_2, ix_0, ix_1, ix_2, ix_3, to_addI, to_sub, to_le, to_gt, to_ge, to_lt, to_ixL, to_ixT, to_abs, to_int, to_intB, to_lenL, to_lenT, to_lenZ, to_isN, to_allL, to_eqI, to_neI, to_neInts, to_eqInts, to_put0, to_put1, to_put2, as_tryE, as_tryOk, as_tryX, as_keepX, xq_inO, xq_eqO, xq_neO, xq_binO, xq_eqNO, xq_eqN0, xq_eqN1, xq_strO, xq_isSame, xq_blK, xq_strK, xq_join, xq_strOv, xq_js, xq_jn, xq_jc, xq_fmt, xq_callN, xq_callN1, xq_listC, xq_parS, xq_cellT, xq_cellL, wipeT, putBack, tNm, tNo, tCn, tAny, Option.bind_some, startT, startI, List.map_cons, List.map_nil, List.length_cons, List.length_nil, List.cons_append, List.nil_append, List.append_nil, List.getElem?_cons_zero, List.getElem?_cons_succ, List.set_cons_zero, List.set_cons_succ, Nat.reduceAdd, Nat.reduceSub, Nat.reduceEqDiff, Nat.reduceLeDiff, Nat.reduceLT, List.length_append, List.replicate_zero, List.replicate_succ, cellD, blO, intO, itAny, ↓reduceIte, if_true, Bool.false_eq_true, if_false, e, k, hn, p1, p2, q1, q2, q3, q4, rdb, rdx, rdy, Int.sub_add_cancel]
end Loneboard_k48_boxes

set_option Elab.async false
set_option linter.all false
set_option maxRecDepth 100000
set_option maxHeartbeats 4000000
/-! k48: what is drawn; around. -/
namespace Loneboard_k48_boxes
open PySem Fl
open Dl (D Cell eqOk eqD flatD inD rngD putD)
theorem draw_ok {b : Nat} {q : Q} {many : Int} (hq : OkQ b q) (hb : b ≤ 4000000) (hm : 0 < many) (hl : many.natAbs.log2 < 9000) : ∃ v q', F__law_draw [.ref 6, .int many] (PA 6 q) = .ok (.int v) (PA 6 q') ∧ 0 ≤ v ∧ v < many ∧ OkQ (b + 1) q' := by
  have N : Nums 2147483549 53611 59 3 2147483629 97 50909 71 5 2147483563 16 := by constructor <;> decide
  exact drawA_ok (nc := 6) (a1 := 9601) (a0 := 541) N (by decide) hq hb hm hl
theorem pen_ok {ns : List Int} (h : ns.length ≤ 63) : F__law_pen [.scr ns] (List.replicate 6 none) = .ok (.ref 6) (PA 6 ⟨ns, 0, 0⟩) := penA_ok h
theorem pick_ok {b : Nat} {q : Q} {xs : List D} {P : D → Prop} (hq : OkQ b q) (hb : b ≤ 4000000) (h0 : 0 < xs.length) (hl : xs.length ≤ 16777216) (hP : ∀ d ∈ xs, P d) : ∃ d q', F__law_pick [.ref 6, .lst xs] (PA 6 q) = .ok d (PA 6 q') ∧ P d ∧ OkQ (b + 1) q' :=
  pickA_ok (fun many hm hl => draw_ok hq hb hm hl) h0 hl hP
structure Sml (l lo r h : Int) : Prop where
  kl : -3 ≤ l ∧ l ≤ 3
  klo : -3 ≤ lo ∧ lo ≤ 3
  kr : l ≤ r ∧ r ≤ l + 3
  kh : lo ≤ h ∧ h ≤ lo + 3
theorem corners_ok {b : Nat} {q : Q} (hq : OkQ b q) (hb : b ≤ 1000000) : ∃ l lo r h q', F__law_corners [.ref 6] (PA 6 q) = .ok (tp4 l lo r h) (PA 6 q') ∧ Sml l lo r h ∧ OkQ (b + 4) q' := by
  obtain ⟨v1, q1, e1, a1, b1, hq1⟩ := draw_ok (many := 7) hq (by omega) (by decide) (by decide)
  obtain ⟨v2, q2, e2, a2, b2, hq2⟩ := draw_ok (many := 7) hq1 (by omega) (by decide) (by decide)
  obtain ⟨v3, q3, e3, a3, b3, hq3⟩ := draw_ok (many := 4) hq2 (by omega) (by decide) (by decide)
  obtain ⟨v4, q4, e4, a4, b4, hq4⟩ := draw_ok (many := 4) hq3 (by omega) (by decide) (by decide)
  refine ⟨v1 - 3, v2 - 3, v1 - 3 + v3, v2 - 3 + v4, q4, ?_, ⟨by omega, by omega, by omega, by omega⟩, hq4⟩
  unfold F__law_corners
  rw [run_F (by rfl)]
  unfold B__law_corners
  simp only [xp_bind, rb_ok, rb_exc, rb_no, xp_ret, xp_oS, xp_oN, xp_c, xp_v, xp_b, xp_val, xp_op, xp_opw, xp_rd2, xp_rd1, xp_test, xp_ite, xp_and, xp_or, xp_not, xp_andV, xp_orV, xp_notV, xp_onB, xp_if, xp_un, xp_chain, xp_nil, xp_cons, xp_lst, xp_tup, xp_noP, xp_part, xp_sl, xp_1, xp_1W, xp_cbn, xp_is, xp_fld, xp_xf, xp_call, xp_callC, xp_calm, xp_callK, xp_callF, bk_ok, bk_exc, xp_prop, xp_isIns, xp_meth, xp_new, xp_newA, xp_lstC, xp_app, xp_isLst, xp_updS, xp_updR, rd_s, rd_ref, rd_non, rd_bl, rd_int, rd_str, rd_lst, rd_tup, rd_scr, rd_dct, rd_ins, rd_exv, xs_seq, sq_nx, sq_ret, sq_exc, as_E, ts_ok, ts_exc, as_next, as_ret, as_retN, as_do, as_set, as_if, as_ifS, as_for, as_forN, as_forC, fk_nx, fk_cnt, fk_brk, fk_ret, fk_exc, as_it, as_rng, as_asg, as_par, as_par2, as_setO, as_parO, as_parOK, as_ixSet, as_updK, as_fldSet, as_raise1, as_raise1', as_frzO, tf_nx, tf_ret, tf_exc, ti_exc, as_yes, xp_lcV, xp_lstO, xp_tupO, xp_lstCO, xp_lcRun, xp_lcEnd, xl_nil, xl_cons, xl_1, xl_1f, xl_2, ix_0, ix_1, ix_2, ix_3, to_addI, to_sub, to_le, to_gt, to_ge, to_lt, to_ixL, to_ixT, to_abs, to_int, to_intB, to_lenL, to_lenT, to_lenZ, to_isN, to_allL, to_eqI, to_neI, to_neInts, to_eqInts, to_put0, to_put1, to_put2, as_tryE, as_tryOk, as_tryX, as_keepX, xq_inO, xq_eqO, xq_neO, xq_binO, xq_eqNO, xq_eqN0, xq_eqN1, xq_strO, xq_isSame, xq_blK, xq_strK, xq_join, xq_strOv, xq_js, xq_jn, xq_jc, xq_fmt, xq_callN, xq_callN1, xq_listC, xq_parS, xq_cellT, xq_cellL, wipeT, putBack, tNm, tNo, tCn, tAny, Option.bind_some, startT, startI, List.map_cons, List.map_nil, List.length_cons, List.length_nil, List.cons_append, List.nil_append, List.append_nil, List.getElem?_cons_zero, List.getElem?_cons_succ, List.set_cons_zero, List.set_cons_succ, Nat.reduceAdd, Nat.reduceSub, Nat.reduceEqDiff, Nat.reduceLeDiff, Nat.reduceLT, List.length_append, List.replicate_zero, List.replicate_succ, cellD, blO, intO, itAny, ↓reduceIte, if_true, Bool.false_eq_true, if_false, e1, e2, e3, e4]
theorem box_ok {l lo r h : Int} (h1 : l ≤ r) (h2 : lo ≤ h) (A : AH) : F__law_box [tp4 l lo r h] A = .ok (boxD l lo r h) A := by
  have i := init_ok h1 h2
  unfold F__law_box
  rw [run_F (by rfl)]
  unfold B__law_box
  simp only [xp_bind, rb_ok, rb_exc, rb_no, xp_ret, xp_oS, xp_oN, xp_c, xp_v, xp_b, xp_val, xp_op, xp_opw, xp_rd2, xp_rd1, xp_test, xp_ite, xp_and, xp_or, xp_not, xp_andV, xp_orV, xp_notV, xp_onB, xp_if, xp_un, xp_chain, xp_nil, xp_cons, xp_lst, xp_tup, xp_noP, xp_part, xp_sl, xp_1, xp_1W, xp_cbn, xp_is, xp_fld, xp_xf, xp_call, xp_callC, xp_calm, xp_callK, xp_callF, bk_ok, bk_exc, xp_prop, xp_isIns, xp_meth, xp_new, xp_newA, xp_lstC, xp_app, xp_isLst, xp_updS, xp_updR, rd_s, rd_ref, rd_non, rd_bl, rd_int, rd_str, rd_lst, rd_tup, rd_scr, rd_dct, rd_ins, rd_exv, xs_seq, sq_nx, sq_ret, sq_exc, as_E, ts_ok, ts_exc, as_next, as_ret, as_retN, as_do, as_set, as_if, as_ifS, as_for, as_forN, as_forC, fk_nx, fk_cnt, fk_brk, fk_ret, fk_exc, as_it, as_rng, as_asg, as_par, as_par2, as_setO, as_parO, as_parOK, as_ixSet, as_updK, as_fldSet, as_raise1, as_raise1', as_frzO, tf_nx, tf_ret, tf_exc, ti_exc, as_yes, xp_lcV, xp_lstO, xp_tupO, xp_lstCO, xp_lcRun, xp_lcEnd, xl_nil, xl_cons, xl_1, xl_1f, xl_2, ix_0, ix_1, ix_2, ix_3, to_addI, to_sub, to_le, to_gt, to_ge, to_lt, to_ixL, to_ixT, to_abs, to_int, to_intB, to_lenL, to_lenT, to_lenZ, to_isN, to_allL, to_eqI, to_neI, to_neInts, to_eqInts, to_put0, to_put1, to_put2, as_tryE, as_tryOk, as_tryX, as_keepX, xq_inO, xq_eqO, xq_neO, xq_binO, xq_eqNO, xq_eqN0, xq_eqN1, xq_strO, xq_isSame, xq_blK, xq_strK, xq_join, xq_strOv, xq_js, xq_jn, xq_jc, xq_fmt, xq_callN, xq_callN1, xq_listC, xq_parS, xq_cellT, xq_cellL, wipeT, putBack, tNm, tNo, tCn, tAny, Option.bind_some, startT, startI, List.map_cons, List.map_nil, List.length_cons, List.length_nil, List.cons_append, List.nil_append, List.append_nil, List.getElem?_cons_zero, List.getElem?_cons_succ, List.set_cons_zero, List.set_cons_succ, Nat.reduceAdd, Nat.reduceSub, Nat.reduceEqDiff, Nat.reduceLeDiff, Nat.reduceLT, List.length_append, List.replicate_zero, List.replicate_succ, cellD, blO, intO, itAny, ↓reduceIte, if_true, Bool.false_eq_true, if_false, i]
theorem around_ok {l lo r h l' lo' r' h' : Int} (A : AH) : F__law_around [tp4 l lo r h, tp4 l' lo' r' h'] A = .ok (tp4 (mn l l') (mn lo lo') (mx r r') (mx h h')) A := by
  have a : tAdd (.lst [.int (mn l l'), .int (mn lo lo')]) (.lst [.int (mx r r'), .int (mx h h')]) = some (.lst [.int (mn l l'), .int (mn lo lo'), .int (mx r r'), .int (mx h h')]) := add_lst (by show 2 + 2 ≤ 16777216; decide)
  have t : tTuple (.lst [.int (mn l l'), .int (mn lo lo'), .int (mx r r'), .int (mx h h')]) = some (tp4 (mn l l') (mn lo lo') (mx r r') (mx h h')) := id rfl
  unfold mn mx at *
  unfold F__law_around
  rw [run_F (by rfl)]
  unfold B__law_around
  simp only [xp_bind, rb_ok, rb_exc, rb_no, xp_ret, xp_oS, xp_oN, xp_c, xp_v, xp_b, xp_val, xp_op, xp_opw, xp_rd2, xp_rd1, xp_test, xp_ite, xp_and, xp_or, xp_not, xp_andV, xp_orV, xp_notV, xp_onB, xp_if, xp_un, xp_chain, xp_nil, xp_cons, xp_lst, xp_tup, xp_noP, xp_part, xp_sl, xp_1, xp_1W, xp_cbn, xp_is, xp_fld, xp_xf, xp_call, xp_callC, xp_calm, xp_callK, xp_callF, bk_ok, bk_exc, xp_prop, xp_isIns, xp_meth, xp_new, xp_newA, xp_lstC, xp_app, xp_isLst, xp_updS, xp_updR, rd_s, rd_ref, rd_non, rd_bl, rd_int, rd_str, rd_lst, rd_tup, rd_scr, rd_dct, rd_ins, rd_exv, xs_seq, sq_nx, sq_ret, sq_exc, as_E, ts_ok, ts_exc, as_next, as_ret, as_retN, as_do, as_set, as_if, as_ifS, as_for, as_forN, as_forC, fk_nx, fk_cnt, fk_brk, fk_ret, fk_exc, as_it, as_rng, as_asg, as_par, as_par2, as_setO, as_parO, as_parOK, as_ixSet, as_updK, as_fldSet, as_raise1, as_raise1', as_frzO, tf_nx, tf_ret, tf_exc, ti_exc, as_yes, xp_lcV, xp_lstO, xp_tupO, xp_lstCO, xp_lcRun, xp_lcEnd, xl_nil, xl_cons, xl_1, xl_1f, xl_2, ix_0, ix_1, ix_2, ix_3, to_addI, to_sub, to_le, to_gt, to_ge, to_lt, to_ixL, to_ixT, to_abs, to_int, to_intB, to_lenL, to_lenT, to_lenZ, to_isN, to_allL, to_eqI, to_neI, to_neInts, to_eqInts, to_put0, to_put1, to_put2, as_tryE, as_tryOk, as_tryX, as_keepX, xq_inO, xq_eqO, xq_neO, xq_binO, xq_eqNO, xq_eqN0, xq_eqN1, xq_strO, xq_isSame, xq_blK, xq_strK, xq_join, xq_strOv, xq_js, xq_jn, xq_jc, xq_fmt, xq_callN, xq_callN1, xq_listC, xq_parS, xq_cellT, xq_cellL, wipeT, putBack, tNm, tNo, tCn, tAny, Option.bind_some, startT, startI, List.map_cons, List.map_nil, List.length_cons, List.length_nil, List.cons_append, List.nil_append, List.append_nil, List.getElem?_cons_zero, List.getElem?_cons_succ, List.set_cons_zero, List.set_cons_succ, Nat.reduceAdd, Nat.reduceSub, Nat.reduceEqDiff, Nat.reduceLeDiff, Nat.reduceLT, List.length_append, List.replicate_zero, List.replicate_succ, cellD, blO, intO, itAny, ↓reduceIte, if_true, Bool.false_eq_true, if_false, tMin2, tMax2, a, t]
end Loneboard_k48_boxes

set_option Elab.async false
set_option linter.all false
set_option maxRecDepth 100000
set_option maxHeartbeats 4000000
/-! k48: small boxes. -/
namespace Loneboard_k48_boxes
open PySem Fl
open Dl (D Cell eqOk eqD flatD inD rngD putD)
theorem cps_of (s : String) : ∀ c ∈ (Str.ofString s).cps.toList, c < 16 ^ 8 := by
  intro c hc
  rw [PyProof.Rows.signs_ofString, List.mem_map] at hc
  obtain ⟨ch, _, rfl⟩ := hc
  have h2 : ch.toNat < 0x110000 := by
    rcases ch.valid with h | h
    · have h' : ch.toNat < 0xd800 := h
      omega
    · exact h.2
  exact Nat.lt_of_lt_of_le h2 (by decide)
theorem cps_app {a b : Str} (ha : ∀ c ∈ a.cps.toList, c < 16 ^ 8) (hb : ∀ c ∈ b.cps.toList, c < 16 ^ 8) : ∀ c ∈ (a ++ b).cps.toList, c < 16 ^ 8 := by
  intro c hc
  rw [show (a ++ b).cps = a.cps ++ b.cps from rfl, Array.toList_append, List.mem_append] at hc
  exact hc.elim (ha c) (hb c)
theorem cps_txt {l lo r h : Int} : ∀ c ∈ (txt l lo r h).cps.toList, c < 16 ^ 8 :=
  cps_app (cps_of _) (cps_app (cps_of _) (cps_app (cps_of _) (cps_app (cps_of _) (cps_app (cps_of _) (cps_app (cps_of _) (cps_of _))))))
theorem txt_len {l lo r h : Int} (h1 : Lg l) (h2 : Lg lo) (h3 : Lg r) (h4 : Lg h) : (txt l lo r h).length ≤ 7690 := by
  have b1 := T_len h1
  have b2 := T_len h2
  have b3 := T_len h3
  have b4 := T_len h4
  have bs : sp1.length = 1 := rfl
  unfold txt
  simp only [strLen_append]
  omega
theorem sh_told {l lo r h : Int} {e : Nat} (h1 : Lg l) (h2 : Lg lo) (h3 : Lg r) (h4 : Lg h) (h5 : Lg ((r - l) * (h - lo))) : ShOk (told l lo r h) (e + 1) 100000 := by
  have s := sh_lst (e := e) (shs_cons (sh_int h1) (shs_cons (sh_int h2) (shs_cons (sh_int h3) (shs_cons (sh_int h4) (shs_cons (sh_int h5) (shs_cons (sh_str (n := 7690) cps_txt (txt_len h1 h2 h3 h4)) shs_nil))))))
  exact ⟨s.1, s.2.1, s.2.2.1, s.2.2.2.1, Nat.le_trans s.2.2.2.2 (by decide)⟩
theorem lg_small {i : Int} (h1 : -1000000 ≤ i) (h2 : i ≤ 1000000) : Lg i := Nat.lt_of_lt_of_le (log_lt (n := 40) (by omega) (by omega) (by decide)) (by decide)
theorem eqS_self {s : Str} : tEqS true (.str s) (.str s) = some (.bl false) := by
  unfold tEqS
  simp
theorem eqS_self' {s : Str} : tEqS false (.str s) (.str s) = some (.bl true) := by
  unfold tEqS
  simp
theorem neB_self {b : Bool} : tEq true (.bl b) (.bl b) = some (.bl false) := by
  cases b <;> kernel_rfl
end Loneboard_k48_boxes

set_option Elab.async false
set_option linter.all false
set_option maxRecDepth 100000
set_option maxHeartbeats 4000000
/-! k48: small boxes are right. -/
namespace Loneboard_k48_boxes
open PySem Fl
open Dl (D Cell eqOk eqD flatD inD rngD putD)
def bodyY : Ms := (mIfS (mTest (mOpW (tEq true) (mVal (mInO false 5 F_Box_contains (mTup (mCons (mV 6) (mCons (mV 7) mNil))) (mV 3))) (mVal (mOpW (tInP false) (mVal (mTup (mCons (mV 6) (mCons (mV 7) mNil)))) (mB 5)))))
  (mRetV (mC (.bl false)))
  mNext)
def bodyX : Ms := (mFor (mRng rng2 (mCons (mUn (t1I fun i => .int (-i)) (mC (.int 4))) (mCons (mC (.int 9)) mNil))) (tNm 7) bodyY)
abbrev Γs (l lo r h : Int) (s0 s1 s2 s4 s6 s7 s8 s9 s10 s11 : Sl) : SG := [s0, s1, s2, .val (boxD l lo r h), s4, .val (.lst (cellsL l lo r h)), s6, s7, s8, s9, s10, s11]
theorem bodyY_ok {l lo r h x y : Int} {s0 s1 s2 s4 s8 s9 s10 s11 : Sl} {A : AH} : bodyY (Γs l lo r h s0 s1 s2 s4 (.val (.int x)) (.val (.int y)) s8 s9 s10 s11) A = .nx (Γs l lo r h s0 s1 s2 s4 (.val (.int x)) (.val (.int y)) s8 s9 s10 s11) A := by
  have c := contains_ok (x := x) (y := y) (l := l) (lo := lo) (r := r) (h := h)
  have i := in_cells (x := x) (y := y) (l := l) (lo := lo) (r := r) (h := h)
  have n := neB_self (b := inB x y l lo r h)
  generalize inB x y l lo r h = b at *
  unfold bodyY
  have rdc : ∀ {Γ : SG} {A : AH}, rdO (.v (.lst (cellsL l lo r h))) Γ A = some (.lst (cellsL l lo r h)) := fun {Γ A} => id rfl
  simp only [xp_bind, rb_ok, rb_exc, rb_no, xp_ret, xp_oS, xp_oN, xp_c, xp_v, xp_b, xp_val, xp_op, xp_opw, xp_rd2, xp_rd1, xp_test, xp_ite, xp_and, xp_or, xp_not, xp_andV, xp_orV, xp_notV, xp_onB, xp_if, xp_un, xp_chain, xp_nil, xp_cons, xp_lst, xp_tup, xp_noP, xp_part, xp_sl, xp_1, xp_1W, xp_cbn, xp_is, xp_fld, xp_xf, xp_call, xp_callC, xp_calm, xp_callK, xp_callF, bk_ok, bk_exc, xp_prop, xp_isIns, xp_meth, xp_new, xp_newA, xp_lstC, xp_app, xp_isLst, xp_updS, xp_updR, rd_s, rd_ref, rd_non, rd_bl, rd_int, rd_str, rd_lst, rd_tup, rd_scr, rd_dct, rd_ins, rd_exv, xs_seq, sq_nx, sq_ret, sq_exc, as_E, ts_ok, ts_exc, as_next, as_ret, as_retN, as_do, as_set, as_if, as_ifS, as_for, as_forN, as_forC, fk_nx, fk_cnt, fk_brk, fk_ret, fk_exc, as_it, as_rng, as_asg, as_par, as_par2, as_setO, as_parO, as_parOK, as_ixSet, as_updK, as_fldSet, as_raise1, as_raise1', as_frzO, tf_nx, tf_ret, tf_exc, ti_exc, as_yes, xp_lcV, xp_lstO, xp_tupO, xp_lstCO, xl_1, xl_1f, xl_2, ix_0, ix_1, ix_2, ix_3, to_addI, to_sub, to_le, to_gt, to_ge, to_lt, to_ixL, to_ixT, to_abs, to_int, to_intB, to_lenL, to_lenT, to_lenZ, to_isN, to_allL, to_eqI, to_neI, to_neInts, to_eqInts, to_put0, to_put1, to_put2, as_tryE, as_tryOk, as_tryX, as_keepX, xq_inO, xq_eqO, xq_neO, xq_binO, xq_eqNO, xq_eqN0, xq_eqN1, xq_strO, xq_isSame, xq_blK, xq_strK, xq_join, xq_strOv, xq_js, xq_jn, xq_jc, xq_fmt, xq_callN, xq_callN1, xq_listC, xq_parS, xq_cellT, xq_cellL, wipeT, putBack, tNm, tNo, tCn, tAny, Option.bind_some, startT, startI, List.map_cons, List.map_nil, List.length_cons, List.length_nil, List.cons_append, List.nil_append, List.append_nil, List.getElem?_cons_zero, List.getElem?_cons_succ, List.set_cons_zero, List.set_cons_succ, Nat.reduceAdd, Nat.reduceSub, Nat.reduceEqDiff, Nat.reduceLeDiff, Nat.reduceLT, List.length_append, List.replicate_zero, List.replicate_succ, cellD, blO, intO, itAny, ↓reduceIte, if_true, Bool.false_eq_true, if_false, rd_box, rd_pt, io_box, c, i, n, rdc]
theorem ints_rng {d : D} {i : Nat} {l : Int} {n : Nat} (h : (rngD l n)[i]? = some d) : ∃ x : Int, d = .int x := by
  rw [rngD_ints, List.getElem?_map] at h
  obtain ⟨x, _, rfl⟩ := Option.map_eq_some_iff.mp h
  exact ⟨x, rfl⟩
theorem bodyX_ok {l lo r h x : Int} {s0 s1 s2 s4 s7 s8 s9 s10 s11 : Sl} {A : AH} : ∃ t7, bodyX (Γs l lo r h s0 s1 s2 s4 (.val (.int x)) s7 s8 s9 s10 s11) A = .nx (Γs l lo r h s0 s1 s2 s4 (.val (.int x)) t7 s8 s9 s10 s11) A := by
  have e : rng2 [.int (-4), .int 9] = some (rngD (-4) 13) := by kernel_rfl
  have un : t1I (fun i => D.int (-i)) (.int 4) = some (.int (-4)) := id rfl
  have L := for_run (t := tNm 7) (b := bodyY) (E := fun _ => False) (J := fun _ Γ B => ∃ t7, Γ = Γs l lo r h s0 s1 s2 s4 (.val (.int x)) t7 s8 s9 s10 s11 ∧ B = A) (rngD (-4) 13) 0 (Γs l lo r h s0 s1 s2 s4 (.val (.int x)) s7 s8 s9 s10 s11) A ⟨_, rfl, rfl⟩ (fun i d hd Γ B ⟨t7, e1, e2⟩ => by
    subst e1; subst e2
    obtain ⟨y, rfl⟩ := ints_rng hd
    exact ⟨_, rfl, .inl ⟨_, _, bodyY_ok, _, rfl, rfl⟩⟩)
  rcases L with ⟨Γ', A', eL, t7, rfl, rfl⟩ | L
  · refine ⟨t7, ?_⟩
    unfold bodyX
    generalize rngD (-4) 13 = is at *
    simp only [xp_bind, rb_ok, rb_exc, rb_no, xp_ret, xp_oS, xp_oN, xp_c, xp_v, xp_b, xp_val, xp_op, xp_opw, xp_rd2, xp_rd1, xp_test, xp_ite, xp_and, xp_or, xp_not, xp_andV, xp_orV, xp_notV, xp_onB, xp_if, xp_un, xp_chain, xp_nil, xp_cons, xp_lst, xp_tup, xp_noP, xp_part, xp_sl, xp_1, xp_1W, xp_cbn, xp_is, xp_fld, xp_xf, xp_call, xp_callC, xp_calm, xp_callK, xp_callF, bk_ok, bk_exc, xp_prop, xp_isIns, xp_meth, xp_new, xp_newA, xp_lstC, xp_app, xp_isLst, xp_updS, xp_updR, rd_s, rd_ref, rd_non, rd_bl, rd_int, rd_str, rd_lst, rd_tup, rd_scr, rd_dct, rd_ins, rd_exv, xs_seq, sq_nx, sq_ret, sq_exc, as_E, ts_ok, ts_exc, as_next, as_ret, as_retN, as_do, as_set, as_if, as_ifS, as_for, as_forN, as_forC, fk_nx, fk_cnt, fk_brk, fk_ret, fk_exc, as_it, as_rng, as_asg, as_par, as_par2, as_setO, as_parO, as_parOK, as_ixSet, as_updK, as_fldSet, as_raise1, as_raise1', as_frzO, tf_nx, tf_ret, tf_exc, ti_exc, as_yes, xp_lcV, xp_lstO, xp_tupO, xp_lstCO, xl_1, xl_1f, xl_2, ix_0, ix_1, ix_2, ix_3, to_addI, to_sub, to_le, to_gt, to_ge, to_lt, to_ixL, to_ixT, to_abs, to_int, to_intB, to_lenL, to_lenT, to_lenZ, to_isN, to_allL, to_eqI, to_neI, to_neInts, to_eqInts, to_put0, to_put1, to_put2, as_tryE, as_tryOk, as_tryX, as_keepX, xq_inO, xq_eqO, xq_neO, xq_binO, xq_eqNO, xq_eqN0, xq_eqN1, xq_strO, xq_isSame, xq_blK, xq_strK, xq_join, xq_strOv, xq_js, xq_jn, xq_jc, xq_fmt, xq_callN, xq_callN1, xq_listC, xq_parS, xq_cellT, xq_cellL, wipeT, putBack, tNm, tNo, tCn, tAny, Option.bind_some, startT, startI, List.map_cons, List.map_nil, List.length_cons, List.length_nil, List.cons_append, List.nil_append, List.append_nil, List.getElem?_cons_zero, List.getElem?_cons_succ, List.set_cons_zero, List.set_cons_succ, Nat.reduceAdd, Nat.reduceSub, Nat.reduceEqDiff, Nat.reduceLeDiff, Nat.reduceLT, List.length_append, List.replicate_zero, List.replicate_succ, cellD, blO, intO, itAny, ↓reduceIte, if_true, Bool.false_eq_true, if_false, un, e, eL]
  · exact L.elim
theorem loopX_ok {l lo r h : Int} {s0 s1 s2 s4 s6 s7 s8 s9 s10 s11 : Sl} {A : AH} : ∃ t6 t7, mForL (tNm 6) bodyX (rngD (-4) 13) (Γs l lo r h s0 s1 s2 s4 s6 s7 s8 s9 s10 s11) A = .nx (Γs l lo r h s0 s1 s2 s4 t6 t7 s8 s9 s10 s11) A := by
  have L := for_run (t := tNm 6) (b := bodyX) (E := fun _ => False) (J := fun _ Γ B => ∃ t6 t7, Γ = Γs l lo r h s0 s1 s2 s4 t6 t7 s8 s9 s10 s11 ∧ B = A) (rngD (-4) 13) 0 (Γs l lo r h s0 s1 s2 s4 s6 s7 s8 s9 s10 s11) A ⟨_, _, rfl, rfl⟩ (fun i d hd Γ B ⟨t6, t7, e1, e2⟩ => by
    subst e1; subst e2
    obtain ⟨y, rfl⟩ := ints_rng hd
    obtain ⟨u7, eb⟩ := bodyX_ok (l := l) (lo := lo) (r := r) (h := h) (x := y) (s0 := s0) (s1 := s1) (s2 := s2) (s4 := s4) (s7 := t7) (s8 := s8) (s9 := s9) (s10 := s10) (s11 := s11) (A := B)
    exact ⟨_, rfl, .inl ⟨_, _, eb, _, _, rfl, rfl⟩⟩)
  rcases L with ⟨Γ', A', eL, t6, t7, rfl, rfl⟩ | L
  · exact ⟨t6, t7, eL⟩
  · exact L.elim
end Loneboard_k48_boxes

set_option Elab.async false
set_option linter.all false
set_option maxRecDepth 100000
set_option maxHeartbeats 4000000
/-! k48: equal or not. -/
namespace Loneboard_k48_boxes
open PySem Fl
open Dl (D Cell eqOk eqD flatD inD rngD putD)
theorem box_tup {xs : List D} : tIs tabD.tab (.ref 5) (.tup xs) = some (.bl false) := is_own (a := "tuple") rfl (by decide +kernel)
theorem box_str {s : Str} : tIs tabD.tab (.ref 5) (.str s) = some (.bl false) := is_own (a := "str") rfl (by decide +kernel)
theorem box_non : tIs tabD.tab (.ref 5) .non = some (.bl false) := is_own (a := "NoneType") rfl (by decide +kernel)
theorem eq_other {l lo r h : Int} {d : D} (hd : tIs tabD.tab (.ref 5) d = some (.bl false)) (rd : ∀ {Γ : SG} {A : AH}, rdO (.v d) Γ A = some d) (A : AH) : F_Box_eq [boxD l lo r h, d] A = .ok (.bl false) A := by
  unfold F_Box_eq
  rw [run_F (by rfl)]
  unfold B_Box_eq
  simp only [xp_bind, rb_ok, rb_exc, rb_no, xp_ret, xp_oS, xp_oN, xp_c, xp_v, xp_b, xp_val, xp_op, xp_opw, xp_rd2, xp_rd1, xp_test, xp_ite, xp_and, xp_or, xp_not, xp_andV, xp_orV, xp_notV, xp_onB, xp_if, xp_un, xp_chain, xp_nil, xp_cons, xp_lst, xp_tup, xp_noP, xp_part, xp_sl, xp_1, xp_1W, xp_cbn, xp_is, xp_fld, xp_xf, xp_call, xp_callC, xp_calm, xp_callK, xp_callF, bk_ok, bk_exc, xp_prop, xp_isIns, xp_meth, xp_new, xp_newA, xp_lstC, xp_app, xp_isLst, xp_updS, xp_updR, rd_s, rd_ref, rd_non, rd_bl, rd_int, rd_str, rd_lst, rd_tup, rd_scr, rd_dct, rd_ins, rd_exv, xs_seq, sq_nx, sq_ret, sq_exc, as_E, ts_ok, ts_exc, as_next, as_ret, as_retN, as_do, as_set, as_if, as_ifS, as_for, as_forN, as_forC, fk_nx, fk_cnt, fk_brk, fk_ret, fk_exc, as_it, as_rng, as_asg, as_par, as_par2, as_setO, as_parO, as_parOK, as_ixSet, as_updK, as_fldSet, as_raise1, as_raise1', as_frzO, tf_nx, tf_ret, tf_exc, ti_exc, as_yes, xp_lcV, xp_lstO, xp_tupO, xp_lstCO, xp_lcRun, xp_lcEnd, xl_nil, xl_cons, xl_1, xl_1f, xl_2, ix_0, ix_1, ix_2, ix_3, to_addI, to_sub, to_le, to_gt, to_ge, to_lt, to_ixL, to_ixT, to_abs, to_int, to_intB, to_lenL, to_lenT, to_lenZ, to_isN, to_allL, to_eqI, to_neI, to_neInts, to_eqInts, to_put0, to_put1, to_put2, as_tryE, as_tryOk, as_tryX, as_keepX, xq_inO, xq_eqO, xq_neO, xq_binO, xq_eqNO, xq_eqN0, xq_eqN1, xq_strO, xq_isSame, xq_blK, xq_strK, xq_join, xq_strOv, xq_js, xq_jn, xq_jc, xq_fmt, xq_callN, xq_callN1, xq_listC, xq_parS, xq_cellT, xq_cellL, wipeT, putBack, tNm, tNo, tCn, tAny, Option.bind_some, startT, startI, List.map_cons, List.map_nil, List.length_cons, List.length_nil, List.cons_append, List.nil_append, List.append_nil, List.getElem?_cons_zero, List.getElem?_cons_succ, List.set_cons_zero, List.set_cons_succ, Nat.reduceAdd, Nat.reduceSub, Nat.reduceEqDiff, Nat.reduceLeDiff, Nat.reduceLT, List.length_append, List.replicate_zero, List.replicate_succ, cellD, blO, intO, itAny, ↓reduceIte, if_true, Bool.false_eq_true, if_false, rd, hd, Bool.not_false]
theorem mx_comm {a b : Int} : mx a b = mx b a := by
  unfold mx
  split <;> split <;> omega
theorem mn_comm {a b : Int} : mn a b = mn b a := by
  unfold mn
  split <;> split <;> omega
theorem mx_self {a : Int} : mx a a = a := by
  unfold mx
  split <;> rfl
theorem mn_self {a : Int} : mn a a = a := by
  unfold mn
  split <;> rfl
theorem rep2 {d : D} : tRep (.lst [d]) (.int 2) = some (.lst [d, d]) := by
  unfold tRep
  exact if_pos ⟨by decide, by decide, by rw [sz_eq]; show 1 * 2 ≤ 16777216; decide⟩
theorem eqOk_tp {l lo r h : Int} : eqOk (tp4 l lo r h) = true := by simp [eqOk, Dl.plain, Dl.plains, Dl.toPy, Dl.toPys, SeqAt.shaped, PyData.canLay0, PyData.canLayAll0, PyData.depth, PyData.depthAll]
theorem eqD_tp {l lo r h l' lo' r' h' : Int} : eqD (tp4 l lo r h) (tp4 l' lo' r' h') = ((decide (l = l') && decide (lo = lo')) && (decide (r = r') && decide (h = h'))) := by
  simp only [eqD, Dl.toPy, Dl.toPys, PyData.eqv, PyData.eqvAll]
  exact Bool.eq_iff_iff.mpr (by simp [and_assoc])
theorem eq_tp {l lo r h l' lo' r' h' : Int} : tEq false (tp4 l lo r h) (tp4 l' lo' r' h') = some (.bl ((decide (l = l') && decide (lo = lo')) && (decide (r = r') && decide (h = h')))) := by
  unfold tEq
  rw [if_pos ⟨eqOk_tp, eqOk_tp⟩, eqD_tp]
  exact id rfl
theorem ne_tp {l lo r h l' lo' r' h' : Int} : tEq true (tp4 l lo r h) (tp4 l' lo' r' h') = some (.bl (!((decide (l = l') && decide (lo = lo')) && (decide (r = r') && decide (h = h'))))) := by
  unfold tEq
  rw [if_pos ⟨eqOk_tp, eqOk_tp⟩, eqD_tp]
  exact id rfl
theorem ne_cells {l lo r h : Int} : tEq true (.lst (cellsL l lo r h)) (.lst []) = some (.bl (decide (l < r) && decide (lo < h))) := by
  rw [to_neNil (eqOk_pts pts_cells)]
  congr 2
  rw [Bool.eq_iff_iff]
  simp only [Bool.not_eq_true', Bool.and_eq_true, decide_eq_true_eq]
  constructor
  · intro z
    cases hc : cellsL l lo r h with
    | nil => rw [hc] at z; cases z
    | cons d ds =>
      obtain ⟨x, y, _, h1, h2⟩ := mem_cells.mp (show d ∈ cellsL l lo r h by rw [hc]; exact List.mem_cons_self)
      omega
  · rintro ⟨h1, h2⟩
    have m := mem_cells.mpr (show ∃ x y, pt l lo = pt x y ∧ (l ≤ x ∧ x < r) ∧ (lo ≤ y ∧ y < h) from ⟨l, lo, rfl, ⟨Int.le_refl _, h1⟩, Int.le_refl _, h2⟩)
    cases hc : cellsL l lo r h with
    | nil => rw [hc] at m; cases m
    | cons d ds => rfl
end Loneboard_k48_boxes

set_option Elab.async false
set_option linter.all false
set_option maxRecDepth 100000
set_option maxHeartbeats 4000000
/-! k48: small boxes are right. -/
namespace Loneboard_k48_boxes
open PySem Fl
open Dl (D Cell eqOk eqD flatD inD rngD putD)
theorem lg_mul {a b : Int} (h1 : -100 ≤ a ∧ a ≤ 100) (h2 : -100 ≤ b ∧ b ≤ 100) : Lg (a * b) := by
  have h3 : (a * b).natAbs ≤ 100 * 100 := by
    rw [Int.natAbs_mul]
    exact Nat.mul_le_mul (by omega) (by omega)
  generalize a * b = c at *
  exact lg_small (by omega) (by omega)
structure Md (l lo r h : Int) : Prop where
  kl : -40 ≤ l ∧ l ≤ 40
  klo : -40 ≤ lo ∧ lo ≤ 40
  kr : -40 ≤ r ∧ r ≤ 40
  kh : -40 ≤ h ∧ h ≤ 40
theorem Md.told {l lo r h : Int} (m : Md l lo r h) (A : AH) : F__law_told [boxD l lo r h] A = .ok (told l lo r h) A := by
  obtain ⟨h1, h2, h3, h4⟩ := m
  exact told_ok (lg_small (by omega) (by omega)) (lg_small (by omega) (by omega)) (lg_small (by omega) (by omega)) (lg_small (by omega) (by omega)) (mulL (by omega) (by omega)) A
theorem Md.due {l lo r h : Int} (m : Md l lo r h) (A : AH) : F__law_due [tp4 l lo r h] A = .ok (Loneboard_k48_boxes.told l lo r h) A := by
  obtain ⟨h1, h2, h3, h4⟩ := m
  exact due_ok (lg_small (by omega) (by omega)) (lg_small (by omega) (by omega)) (lg_small (by omega) (by omega)) (lg_small (by omega) (by omega)) (mulL (by omega) (by omega)) A
theorem Md.sh {l lo r h : Int} (m : Md l lo r h) {e : Nat} : ShOk (Loneboard_k48_boxes.told l lo r h) (e + 1) 100000 := by
  obtain ⟨h1, h2, h3, h4⟩ := m
  exact sh_told (lg_small (by omega) (by omega)) (lg_small (by omega) (by omega)) (lg_small (by omega) (by omega)) (lg_small (by omega) (by omega)) (lg_mul (by omega) (by omega))
theorem Sml.md {l lo r h : Int} (s : Sml l lo r h) : Md l lo r h := by
  obtain ⟨h1, h2, h3, h4⟩ := s
  constructor <;> omega
theorem Sml.and {l lo r h l' lo' r' h' : Int} (s : Sml l lo r h) (t : Sml l' lo' r' h') : Md (mx l l') (mx lo lo') (mn r r') (mn h h') := by
  obtain ⟨h1, h2, h3, h4⟩ := s
  obtain ⟨t1, t2, t3, t4⟩ := t
  unfold mx mn
  constructor <;> split <;> omega
theorem Sml.or {l lo r h l' lo' r' h' : Int} (s : Sml l lo r h) (t : Sml l' lo' r' h') : Md (mn l l') (mn lo lo') (mx r r') (mx h h') := by
  obtain ⟨h1, h2, h3, h4⟩ := s
  obtain ⟨t1, t2, t3, t4⟩ := t
  unfold mx mn
  constructor <;> split <;> omega
theorem kw4 {a b c d : D} : argG 0 4 [3, 2, 1, 0] [] [] [d, c, b, a] = [a, b, c, d] := by kernel_rfl
theorem and_comm' {l lo r h l' lo' r' h' : Int} : andB l' lo' r' h' l lo r h = andB l lo r h l' lo' r' h' := by
  unfold andB
  rw [mx_comm, mn_comm, mx_comm (a := lo'), mn_comm (a := h')]
/-- two things told, two due -/
theorem repr_2 {d e : D} {k n : Nat} (h1 : ShOk d k n) (h2 : ShOk e k n) (hk : k ≤ 50) (hn : n ≤ 1000000) : ∃ s : Str, tRepr (.lst [d, e]) = some (.str s) :=
  ⟨_, sh_repr (sh_lst (shs_cons h1 (shs_cons h2 shs_nil))) (by omega) (by omega)⟩
theorem repr_4 {a b c d : D} {k n : Nat} (h1 : ShOk a k n) (h2 : ShOk b k n) (h3 : ShOk c k n) (h4 : ShOk d k n) (hk : k ≤ 50) (hn : n ≤ 1000000) : ∃ s : Str, tRepr (.lst [a, b, c, d]) = some (.str s) :=
  ⟨_, sh_repr (sh_lst (shs_cons h1 (shs_cons h2 (shs_cons h3 (shs_cons h4 shs_nil))))) (by omega) (by omega)⟩
end Loneboard_k48_boxes

set_option Elab.async false
set_option linter.all false
set_option maxRecDepth 100000
set_option maxHeartbeats 4000000
/-! k48: small boxes are right, all of it. -/
namespace Loneboard_k48_boxes
open PySem Fl
open Dl (D Cell eqOk eqD flatD inD rngD putD)
theorem and_md {l lo r h l' lo' r' h' : Int} (S1 : Sml l lo r h) (S2 : Sml l' lo' r' h') : ∃ d, (∀ A, F__law_told [if andB l lo r h l' lo' r' h' = true then boxD (mx l l') (mx lo lo') (mn r r') (mn h h') else .non] A = .ok d A) ∧ ShOk d 1 100000 ∧
    ((if andB l lo r h l' lo' r' h' = true then tp4 (mx l l') (mx lo lo') (mn r r') (mn h h') else .non) = .non ∧ d = .non ∨ ((if andB l lo r h l' lo' r' h' = true then tp4 (mx l l') (mx lo lo') (mn r r') (mn h h') else .non) = tp4 (mx l l') (mx lo lo') (mn r r') (mn h h') ∧ ∀ A, F__law_due [tp4 (mx l l') (mx lo lo') (mn r r') (mn h h')] A = .ok d A)) := by
  cases q : andB l lo r h l' lo' r' h' with
  | true =>
    rw [if_pos rfl, if_pos rfl]
    exact ⟨_, fun A => (S1.and S2).told A, (S1.and S2).sh, .inr ⟨rfl, fun A => (S1.and S2).due A⟩⟩
  | false =>
    rw [if_neg (by decide), if_neg (by decide)]
    exact ⟨.non, fun A => told_non A, by obtain ⟨a, b, c, d, e⟩ := sh_non (e := 1); exact ⟨a, b, c, d, Nat.le_trans e (by decide)⟩, .inl ⟨rfl, rfl⟩⟩
end Loneboard_k48_boxes

set_option Elab.async false
set_option linter.all false
set_option maxRecDepth 100000
set_option maxHeartbeats 4000000
/-! k48: small boxes, the whole. -/
namespace Loneboard_k48_boxes
open PySem Fl
open Dl (D Cell eqOk eqD flatD inD rngD putD)
theorem small_ok {b : Nat} {q : Q} (hq : OkQ b q) (hb : b ≤ 900000) : ∃ q', F__law_small_right [.ref 6] (PA 6 q) = .ok (.bl true) (PA 6 q') ∧ OkQ (b + 8) q' := by
  obtain ⟨l, lo, r, h, q1, e1, S1, hq1⟩ := corners_ok hq (by omega)
  obtain ⟨l', lo', r', h', q2, e2, S2, hq2⟩ := corners_ok hq1 (by omega)
  refine ⟨q2, ?_, hq2⟩
  have bx := box_ok S1.kr.1 S1.kh.1
  have ix := init_ok S2.kr.1 S2.kh.1
  have t1 := S1.md.told
  have t2 := S2.md.told
  have d1 := S1.md.due
  have d2 := S2.md.due
  obtain ⟨s1, r1⟩ := repr_2 (S1.md.sh (e := 0)) (S2.md.sh (e := 0)) (by decide) (by decide)
  have cl := cells_ok (l := l) (lo := lo) (r := r) (h := h) (by have := S1.kl; omega) (by have := S1.kl; have := S1.kr; omega) (by have := S1.klo; omega) (by have := S1.klo; have := S1.kh; omega) (Nat.le_trans (Nat.mul_le_mul (show (r - l).toNat ≤ 3 by have := S1.kr; omega) (show (h - lo).toNat ≤ 3 by have := S1.kh; omega)) (by decide))
  have me := meet_ok (l := l) (lo := lo) (r := r) (h := h) (l' := l') (lo' := lo') (r' := r') (h' := h') (by have := S1.kl; omega) (by have := S1.klo; omega) (by have := S1.kl; have := S1.kr; omega) (by have := S1.klo; have := S1.kh; omega) (by have := S2.kl; omega) (by have := S2.klo; omega) (by have := S2.kl; have := S2.kr; omega) (by have := S2.klo; have := S2.kh; omega)
  have ar := around_ok (l := l) (lo := lo) (r := r) (h := h) (l' := l') (lo' := lo') (r' := r') (h' := h')
  have o1 := or_ok S1.kr.1 S1.kh.1 S2.kr.1 S2.kh.1
  have o2 := or_ok S2.kr.1 S2.kh.1 S1.kr.1 S1.kh.1
  rw [mn_comm (a := l') (b := l), mn_comm (a := lo') (b := lo), mx_comm (a := r') (b := r), mx_comm (a := h') (b := h)] at o2
  have o3 := or_ok S1.kr.1 S1.kh.1 S1.kr.1 S1.kh.1
  rw [mn_self, mn_self, mx_self, mx_self] at o3
  have a1 := and_ok (l := l) (lo := lo) (r := r) (h := h) (l' := l') (lo' := lo') (r' := r') (h' := h')
  have a2 := and_ok (l := l') (lo := lo') (r := r') (h := h') (l' := l) (lo' := lo) (r' := r) (h' := h)
  rw [and_comm', mx_comm (a := l') (b := l), mx_comm (a := lo') (b := lo), mn_comm (a := r') (b := r), mn_comm (a := h') (b := h)] at a2
  have a3 := and_ok (l := l) (lo := lo) (r := r) (h := h) (l' := l) (lo' := lo) (r' := r) (h' := h)
  obtain ⟨d, td, sd, hd⟩ := and_md S1 S2
  have ot := (S1.or S2).told
  have od := (S1.or S2).due
  obtain ⟨s2, r2⟩ := repr_4 sd sd ((S1.or S2).sh (e := 0)) ((S1.or S2).sh (e := 0)) (by decide) (by decide)
  have q3 : ∀ A, F_Box_eq [boxD l lo r h, boxD l lo r h] A = .ok (.bl true) A := fun A => by
    rw [eq_ok]
    simp
  have q4 := eq_ok (l := l) (lo := lo) (r := r) (h := h) (l' := l') (lo' := lo') (r' := r') (h' := h')
  have st := str_ok (l := l) (lo := lo) (r := r) (h := h) (lg_small (by have := S1.kl; omega) (by have := S1.kl; omega)) (lg_small (by have := S1.klo; omega) (by have := S1.klo; omega)) (lg_small (by have := S1.kl; have := S1.kr; omega) (by have := S1.kl; have := S1.kr; omega)) (lg_small (by have := S1.klo; have := S1.kh; omega) (by have := S1.klo; have := S1.kh; omega))
  have er : rng2 [.int (-4), .int 9] = some (rngD (-4) 13) := by kernel_rfl
  have un : t1I (fun i => D.int (-i)) (.int 4) = some (.int (-4)) := id rfl
  obtain ⟨t6, t7, lp⟩ := loopX_ok (l := l) (lo := lo) (r := r) (h := h) (s0 := .val (.ref 6)) (s1 := .val (tp4 l lo r h)) (s2 := .val (tp4 l' lo' r' h')) (s4 := .val (boxD l' lo' r' h')) (s6 := .no) (s7 := .no) (s8 := .no) (s9 := .no) (s10 := .no) (s11 := .no) (A := PA 6 q2)
  unfold bodyX bodyY at lp
  have rdc : ∀ {Γ : SG} {A : AH}, rdO (.v (.lst (cellsL l lo r h))) Γ A = some (.lst (cellsL l lo r h)) := fun {Γ A} => id rfl
  unfold F__law_small_right
  rw [run_F (by rfl)]
  unfold B__law_small_right
  generalize rngD (-4) 13 = is at *
  simp only [xp_bind, rb_ok, rb_exc, rb_no, xp_ret, xp_oS, xp_oN, xp_c, xp_v, xp_b, xp_val, xp_op, xp_opw, xp_rd2, xp_rd1, xp_test, xp_ite, xp_and, xp_or, xp_not, xp_andV, xp_orV, xp_notV, xp_onB, xp_if, xp_un, xp_chain, xp_nil, xp_cons, xp_lst, xp_tup, xp_noP, xp_part, xp_sl, xp_1, xp_1W, xp_cbn, xp_is, xp_fld, xp_xf, xp_call, xp_callC, xp_calm, xp_callK, xp_callF, bk_ok, bk_exc, xp_prop, xp_isIns, xp_meth, xp_new, xp_newA, xp_lstC, xp_app, xp_isLst, xp_updS, xp_updR, rd_s, rd_ref, rd_non, rd_bl, rd_int, rd_str, rd_lst, rd_tup, rd_scr, rd_dct, rd_ins, rd_exv, xs_seq, sq_nx, sq_ret, sq_exc, as_E, ts_ok, ts_exc, as_next, as_ret, as_retN, as_do, as_set, as_if, as_ifS, as_for, as_forN, as_forC, fk_nx, fk_cnt, fk_brk, fk_ret, fk_exc, as_it, as_rng, as_asg, as_par, as_par2, as_setO, as_parO, as_parOK, as_ixSet, as_updK, as_fldSet, as_raise1, as_raise1', as_frzO, tf_nx, tf_ret, tf_exc, ti_exc, as_yes, xp_lcV, xp_lstO, xp_tupO, xp_lstCO, xl_1, xl_1f, xl_2, ix_0, ix_1, ix_2, ix_3, to_addI, to_sub, to_le, to_gt, to_ge, to_lt, to_ixL, to_ixT, to_abs, to_int, to_intB, to_lenL, to_lenT, to_lenZ, to_isN, to_allL, to_eqI, to_neI, to_neInts, to_eqInts, to_put0, to_put1, to_put2, as_tryE, as_tryOk, as_tryX, as_keepX, xq_inO, xq_eqO, xq_neO, xq_binO, xq_eqNO, xq_eqN0, xq_eqN1, xq_strO, xq_isSame, xq_blK, xq_strK, xq_join, xq_strOv, xq_js, xq_jn, xq_jc, xq_fmt, xq_callN, xq_callN1, xq_listC, xq_parS, xq_cellT, xq_cellL, wipeT, putBack, tNm, tNo, tCn, tAny, Option.bind_some, startT, startI, List.map_cons, List.map_nil, List.length_cons, List.length_nil, List.cons_append, List.nil_append, List.append_nil, List.getElem?_cons_zero, List.getElem?_cons_succ, List.set_cons_zero, List.set_cons_succ, Nat.reduceAdd, Nat.reduceSub, Nat.reduceEqDiff, Nat.reduceLeDiff, Nat.reduceLT, List.length_append, List.replicate_zero, List.replicate_succ, cellD, blO, intO, itAny, ↓reduceIte, if_true, Bool.false_eq_true, if_false, e1, e2, bx, ix, kw4, t1, t2, d1, d2, r1, eqS_self, cl, un, er, lp, and_self]
  have n1 : ∀ {a b c d : Int}, tIsN false (tp4 a b c d) .non = some (.bl false) := fun {a b c d} => id rfl
  have n2 : tIsN false .non .non = some (.bl true) := id rfl
  have al : ∀ a b c d : D, tAdd (.lst [a, b]) (.lst [c, d]) = some (.lst [a, b, c, d]) := fun a b c d => add_lst (by show 2 + 2 ≤ 16777216; decide)
  have eo1 := eq_other (l := l) (lo := lo) (r := r) (h := h) (d := tp4 l lo r h) box_tup (id rfl)
  have eo2 := eq_other (l := l) (lo := lo) (r := r) (h := h) (d := .str (txt l lo r h)) box_str (id rfl)
  have eo3 := eq_other (l := l) (lo := lo) (r := r) (h := h) (d := .non) box_non (id rfl)
  have rdt : ∀ {a b c d : Int} {Γ : SG} {A : AH}, rdO (.v (tp4 a b c d)) Γ A = some (tp4 a b c d) := fun {a b c d Γ A} => id rfl
  have et := eq_tp (l := l) (lo := lo) (r := r) (h := h) (l' := l') (lo' := lo') (r' := r') (h' := h')
  have nt := ne_tp (l := l) (lo := lo) (r := r) (h := h) (l' := l') (lo' := lo') (r' := r') (h' := h')
  have nc := ne_cells (l := l) (lo := lo) (r := r) (h := h)
  have sa1 : sameTy 5 (boxD l lo r h) = true := by kernel_rfl
  have sa2 : sameTy 5 (boxD l' lo' r' h') = true := by kernel_rfl
  have sa3 : sameTy 5 (tp4 l lo r h) = true := id rfl
  have sa4 : sameTy 5 (.str (txt l lo r h)) = true := id rfl
  rw [show andB l lo r h l lo r h = (decide (l < r) && decide (lo < h)) by unfold andB; rw [mx_self, mx_self, mn_self, mn_self], mx_self, mx_self, mn_self, mn_self] at a3
  have eN : ∀ (v : Bool) (Γ : SG) (A : AH), eqN 5 F_Box_eq (if v = true then boxD l lo r h else .non) (boxD l lo r h) Γ A = .ok (.bl v) Γ A := fun v Γ A => by
    cases v
    · rw [if_neg (by decide)]
      simp only [xp_bind, rb_ok, rb_exc, rb_no, xp_ret, xp_oS, xp_oN, xp_c, xp_v, xp_b, xp_val, xp_op, xp_opw, xp_rd2, xp_rd1, xp_test, xp_ite, xp_and, xp_or, xp_not, xp_andV, xp_orV, xp_notV, xp_onB, xp_if, xp_un, xp_chain, xp_nil, xp_cons, xp_lst, xp_tup, xp_noP, xp_part, xp_sl, xp_1, xp_1W, xp_cbn, xp_is, xp_fld, xp_xf, xp_call, xp_callC, xp_calm, xp_callK, xp_callF, bk_ok, bk_exc, xp_prop, xp_isIns, xp_meth, xp_new, xp_newA, xp_lstC, xp_app, xp_isLst, xp_updS, xp_updR, rd_s, rd_ref, rd_non, rd_bl, rd_int, rd_str, rd_lst, rd_tup, rd_scr, rd_dct, rd_ins, rd_exv, xs_seq, sq_nx, sq_ret, sq_exc, as_E, ts_ok, ts_exc, as_next, as_ret, as_retN, as_do, as_set, as_if, as_ifS, as_for, as_forN, as_forC, fk_nx, fk_cnt, fk_brk, fk_ret, fk_exc, as_it, as_rng, as_asg, as_par, as_par2, as_setO, as_parO, as_parOK, as_ixSet, as_updK, as_fldSet, as_raise1, as_raise1', as_frzO, tf_nx, tf_ret, tf_exc, ti_exc, as_yes, xp_lcV, xp_lstO, xp_tupO, xp_lstCO, xl_1, xl_1f, xl_2, ix_0, ix_1, ix_2, ix_3, to_addI, to_sub, to_le, to_gt, to_ge, to_lt, to_ixL, to_ixT, to_abs, to_int, to_intB, to_lenL, to_lenT, to_lenZ, to_isN, to_allL, to_eqI, to_neI, to_neInts, to_eqInts, to_put0, to_put1, to_put2, as_tryE, as_tryOk, as_tryX, as_keepX, xq_inO, xq_eqO, xq_neO, xq_binO, xq_eqNO, xq_eqN0, xq_eqN1, xq_strO, xq_isSame, xq_blK, xq_strK, xq_join, xq_strOv, xq_js, xq_jn, xq_jc, xq_fmt, xq_callN, xq_callN1, xq_listC, xq_parS, xq_cellT, xq_cellL, wipeT, putBack, tNm, tNo, tCn, tAny, Option.bind_some, startT, startI, List.map_cons, List.map_nil, List.length_cons, List.length_nil, List.cons_append, List.nil_append, List.append_nil, List.getElem?_cons_zero, List.getElem?_cons_succ, List.set_cons_zero, List.set_cons_succ, Nat.reduceAdd, Nat.reduceSub, Nat.reduceEqDiff, Nat.reduceLeDiff, Nat.reduceLT, List.length_append, List.replicate_zero, List.replicate_succ, cellD, blO, intO, itAny, ↓reduceIte, if_true, Bool.false_eq_true, if_false, rd_box, io_box, eo3]
    · rw [if_pos rfl]
      simp only [xp_bind, rb_ok, rb_exc, rb_no, xp_ret, xp_oS, xp_oN, xp_c, xp_v, xp_b, xp_val, xp_op, xp_opw, xp_rd2, xp_rd1, xp_test, xp_ite, xp_and, xp_or, xp_not, xp_andV, xp_orV, xp_notV, xp_onB, xp_if, xp_un, xp_chain, xp_nil, xp_cons, xp_lst, xp_tup, xp_noP, xp_part, xp_sl, xp_1, xp_1W, xp_cbn, xp_is, xp_fld, xp_xf, xp_call, xp_callC, xp_calm, xp_callK, xp_callF, bk_ok, bk_exc, xp_prop, xp_isIns, xp_meth, xp_new, xp_newA, xp_lstC, xp_app, xp_isLst, xp_updS, xp_updR, rd_s, rd_ref, rd_non, rd_bl, rd_int, rd_str, rd_lst, rd_tup, rd_scr, rd_dct, rd_ins, rd_exv, xs_seq, sq_nx, sq_ret, sq_exc, as_E, ts_ok, ts_exc, as_next, as_ret, as_retN, as_do, as_set, as_if, as_ifS, as_for, as_forN, as_forC, fk_nx, fk_cnt, fk_brk, fk_ret, fk_exc, as_it, as_rng, as_asg, as_par, as_par2, as_setO, as_parO, as_parOK, as_ixSet, as_updK, as_fldSet, as_raise1, as_raise1', as_frzO, tf_nx, tf_ret, tf_exc, ti_exc, as_yes, xp_lcV, xp_lstO, xp_tupO, xp_lstCO, xl_1, xl_1f, xl_2, ix_0, ix_1, ix_2, ix_3, to_addI, to_sub, to_le, to_gt, to_ge, to_lt, to_ixL, to_ixT, to_abs, to_int, to_intB, to_lenL, to_lenT, to_lenZ, to_isN, to_allL, to_eqI, to_neI, to_neInts, to_eqInts, to_put0, to_put1, to_put2, as_tryE, as_tryOk, as_tryX, as_keepX, xq_inO, xq_eqO, xq_neO, xq_binO, xq_eqNO, xq_eqN0, xq_eqN1, xq_strO, xq_isSame, xq_blK, xq_strK, xq_join, xq_strOv, xq_js, xq_jn, xq_jc, xq_fmt, xq_callN, xq_callN1, xq_listC, xq_parS, xq_cellT, xq_cellL, wipeT, putBack, tNm, tNo, tCn, tAny, Option.bind_some, startT, startI, List.map_cons, List.map_nil, List.length_cons, List.length_nil, List.cons_append, List.nil_append, List.append_nil, List.getElem?_cons_zero, List.getElem?_cons_succ, List.set_cons_zero, List.set_cons_succ, Nat.reduceAdd, Nat.reduceSub, Nat.reduceEqDiff, Nat.reduceLeDiff, Nat.reduceLT, List.length_append, List.replicate_zero, List.replicate_succ, cellD, blO, intO, itAny, ↓reduceIte, if_true, Bool.false_eq_true, if_false, rd_box, io_box, q3, sa1]
  obtain ⟨s3, r3⟩ : ∃ s : Str, tRepr (.lst [.bl ((decide (l = l') && decide (lo = lo')) && (decide (r = r') && decide (h = h'))), .bl (!((decide (l = l') && decide (lo = lo')) && (decide (r = r') && decide (h = h')))), .bl true, .bl false, .bl false, .bl true, .bl (decide (l < r) && decide (lo < h))]) = some (.str s) :=
    ⟨_, sh_repr (e := 1) (sh_lst (shs_cons sh_bl (shs_cons sh_bl (shs_cons sh_bl (shs_cons sh_bl (shs_cons sh_bl (shs_cons sh_bl (shs_cons sh_bl shs_nil)))))))) (by decide) (by decide)⟩
  have ap : ∀ a b c d e f y : D, appC y (.lst [a, b, c, d, e, f]) = some (.lst [a, b, c, d, e, f, y], .non) := fun a b c d e f y => to_app (by rw [sz_eq]; show 6 < 16777216; decide)
  rcases hd with ⟨hm, rfl⟩ | ⟨hm, due⟩
  · rw [hm] at me
    simp only [Γs, xp_bind, rb_ok, rb_exc, rb_no, xp_ret, xp_oS, xp_oN, xp_c, xp_v, xp_b, xp_val, xp_op, xp_opw, xp_rd2, xp_rd1, xp_test, xp_ite, xp_and, xp_or, xp_not, xp_andV, xp_orV, xp_notV, xp_onB, xp_if, xp_un, xp_chain, xp_nil, xp_cons, xp_lst, xp_tup, xp_noP, xp_part, xp_sl, xp_1, xp_1W, xp_cbn, xp_is, xp_fld, xp_xf, xp_call, xp_callC, xp_calm, xp_callK, xp_callF, bk_ok, bk_exc, xp_prop, xp_isIns, xp_meth, xp_new, xp_newA, xp_lstC, xp_app, xp_isLst, xp_updS, xp_updR, rd_s, rd_ref, rd_non, rd_bl, rd_int, rd_str, rd_lst, rd_tup, rd_scr, rd_dct, rd_ins, rd_exv, xs_seq, sq_nx, sq_ret, sq_exc, as_E, ts_ok, ts_exc, as_next, as_ret, as_retN, as_do, as_set, as_if, as_ifS, as_for, as_forN, as_forC, fk_nx, fk_cnt, fk_brk, fk_ret, fk_exc, as_it, as_rng, as_asg, as_par, as_par2, as_setO, as_parO, as_parOK, as_ixSet, as_updK, as_fldSet, as_raise1, as_raise1', as_frzO, tf_nx, tf_ret, tf_exc, ti_exc, as_yes, xp_lcV, xp_lstO, xp_tupO, xp_lstCO, xl_1, xl_1f, xl_2, ix_0, ix_1, ix_2, ix_3, to_addI, to_sub, to_le, to_gt, to_ge, to_lt, to_ixL, to_ixT, to_abs, to_int, to_intB, to_lenL, to_lenT, to_lenZ, to_isN, to_allL, to_eqI, to_neI, to_neInts, to_eqInts, to_put0, to_put1, to_put2, as_tryE, as_tryOk, as_tryX, as_keepX, xq_inO, xq_eqO, xq_neO, xq_binO, xq_eqNO, xq_eqN0, xq_eqN1, xq_strO, xq_isSame, xq_blK, xq_strK, xq_join, xq_strOv, xq_js, xq_jn, xq_jc, xq_fmt, xq_callN, xq_callN1, xq_listC, xq_parS, xq_cellT, xq_cellL, wipeT, putBack, tNm, tNo, tCn, tAny, Option.bind_some, startT, startI, List.map_cons, List.map_nil, List.length_cons, List.length_nil, List.cons_append, List.nil_append, List.append_nil, List.getElem?_cons_zero, List.getElem?_cons_succ, List.set_cons_zero, List.set_cons_succ, Nat.reduceAdd, Nat.reduceSub, Nat.reduceEqDiff, Nat.reduceLeDiff, Nat.reduceLT, List.length_append, List.replicate_zero, List.replicate_succ, cellD, blO, intO, itAny, ↓reduceIte, if_true, Bool.false_eq_true, if_false, me, ar, n1, n2, Bool.not_false, d1, d2, od, rep2, al, rd_box, io_box, a1, a2, o1, o2, td, ot, r2, eqS_self, hm, t1, t2, r1, q3, q4, o3, st, eo1, eo2, eo3, rdt, et, nt, nc, sa1, sa2, sa3, sa4, a3, bx, eN, ap, r3, eqS_self', rdc, nc]
  · rw [hm] at me
    simp only [Γs, xp_bind, rb_ok, rb_exc, rb_no, xp_ret, xp_oS, xp_oN, xp_c, xp_v, xp_b, xp_val, xp_op, xp_opw, xp_rd2, xp_rd1, xp_test, xp_ite, xp_and, xp_or, xp_not, xp_andV, xp_orV, xp_notV, xp_onB, xp_if, xp_un, xp_chain, xp_nil, xp_cons, xp_lst, xp_tup, xp_noP, xp_part, xp_sl, xp_1, xp_1W, xp_cbn, xp_is, xp_fld, xp_xf, xp_call, xp_callC, xp_calm, xp_callK, xp_callF, bk_ok, bk_exc, xp_prop, xp_isIns, xp_meth, xp_new, xp_newA, xp_lstC, xp_app, xp_isLst, xp_updS, xp_updR, rd_s, rd_ref, rd_non, rd_bl, rd_int, rd_str, rd_lst, rd_tup, rd_scr, rd_dct, rd_ins, rd_exv, xs_seq, sq_nx, sq_ret, sq_exc, as_E, ts_ok, ts_exc, as_next, as_ret, as_retN, as_do, as_set, as_if, as_ifS, as_for, as_forN, as_forC, fk_nx, fk_cnt, fk_brk, fk_ret, fk_exc, as_it, as_rng, as_asg, as_par, as_par2, as_setO, as_parO, as_parOK, as_ixSet, as_updK, as_fldSet, as_raise1, as_raise1', as_frzO, tf_nx, tf_ret, tf_exc, ti_exc, as_yes, xp_lcV, xp_lstO, xp_tupO, xp_lstCO, xl_1, xl_1f, xl_2, ix_0, ix_1, ix_2, ix_3, to_addI, to_sub, to_le, to_gt, to_ge, to_lt, to_ixL, to_ixT, to_abs, to_int, to_intB, to_lenL, to_lenT, to_lenZ, to_isN, to_allL, to_eqI, to_neI, to_neInts, to_eqInts, to_put0, to_put1, to_put2, as_tryE, as_tryOk, as_tryX, as_keepX, xq_inO, xq_eqO, xq_neO, xq_binO, xq_eqNO, xq_eqN0, xq_eqN1, xq_strO, xq_isSame, xq_blK, xq_strK, xq_join, xq_strOv, xq_js, xq_jn, xq_jc, xq_fmt, xq_callN, xq_callN1, xq_listC, xq_parS, xq_cellT, xq_cellL, wipeT, putBack, tNm, tNo, tCn, tAny, Option.bind_some, startT, startI, List.map_cons, List.map_nil, List.length_cons, List.length_nil, List.cons_append, List.nil_append, List.append_nil, List.getElem?_cons_zero, List.getElem?_cons_succ, List.set_cons_zero, List.set_cons_succ, Nat.reduceAdd, Nat.reduceSub, Nat.reduceEqDiff, Nat.reduceLeDiff, Nat.reduceLT, List.length_append, List.replicate_zero, List.replicate_succ, cellD, blO, intO, itAny, ↓reduceIte, if_true, Bool.false_eq_true, if_false, me, ar, n1, n2, Bool.not_false, d1, d2, od, due, rep2, al, rd_box, io_box, a1, a2, o1, o2, td, ot, r2, eqS_self, hm, t1, t2, r1, q3, q4, o3, st, eo1, eo2, eo3, rdt, et, nt, nc, sa1, sa2, sa3, sa4, a3, bx, eN, ap, r3, eqS_self', rdc, nc]
end Loneboard_k48_boxes

set_option Elab.async false
set_option linter.all false
set_option maxRecDepth 100000
set_option maxHeartbeats 4000000
/-! k48: corners like others but for one of them. -/
namespace Loneboard_k48_boxes
open PySem Fl
open Dl (D Cell eqOk eqD flatD inD rngD putD)
theorem to_put3 {a b c d y : D} {r : List D} : putC (.int 3) y (.lst (a :: b :: c :: d :: r)) = some (.lst (a :: b :: c :: y :: r), ()) := by
  rw [to_put (n := 3) (ix_n (by decide) (by rw [List.length_cons, List.length_cons, List.length_cons, List.length_cons]; omega))]
  exact id rfl
/-- other corners -/
def nearC (l lo r h l' lo' r' h' : Int) : Prop := (l' = l + -1 ∧ lo' = lo ∧ r' = r ∧ h' = h) ∨ (l' = l ∧ lo' = lo + -1 ∧ r' = r ∧ h' = h) ∨ (l' = l ∧ lo' = lo ∧ r' = r + 1 ∧ h' = h) ∨ (l' = l ∧ lo' = lo ∧ r' = r ∧ h' = h + 1)
theorem near_ok {b : Nat} {q : Q} {l lo r h : Int} (hq : OkQ b q) (hb : b ≤ 1000000) : ∃ l' lo' r' h' q', F__law_near [.ref 6, tp4 l lo r h] (PA 6 q) = .ok (tp4 l' lo' r' h') (PA 6 q') ∧ nearC l lo r h l' lo' r' h' ∧ OkQ (b + 1) q' := by
  obtain ⟨v, q1, e1, a1, b1, hq1⟩ := draw_ok (many := 4) hq (by omega) (by decide) (by decide)
  have un : t1I (fun i => D.int (-i)) (.int 1) = some (.int (-1)) := id rfl
  have rdt : ∀ {a b c d : Int} {Γ : SG} {A : AH}, rdO (.v (tp4 a b c d)) Γ A = some (tp4 a b c d) := fun {a b c d Γ A} => id rfl
  have tt : ∀ a b c d : Int, tTuple (.lst [.int a, .int b, .int c, .int d]) = some (tp4 a b c d) := fun a b c d => id rfl
  unfold F__law_near
  rw [run_F (by rfl)]
  unfold B__law_near
  rcases (show v = 0 ∨ v = 1 ∨ v = 2 ∨ v = 3 by omega) with rfl | rfl | rfl | rfl
  · refine ⟨_, _, _, _, q1, ?_, .inl ⟨rfl, rfl, rfl, rfl⟩, hq1⟩
    simp only [xp_bind, rb_ok, rb_exc, rb_no, xp_ret, xp_oS, xp_oN, xp_c, xp_v, xp_b, xp_val, xp_op, xp_opw, xp_rd2, xp_rd1, xp_test, xp_ite, xp_and, xp_or, xp_not, xp_andV, xp_orV, xp_notV, xp_onB, xp_if, xp_un, xp_chain, xp_nil, xp_cons, xp_lst, xp_tup, xp_noP, xp_part, xp_sl, xp_1, xp_1W, xp_cbn, xp_is, xp_fld, xp_xf, xp_call, xp_callC, xp_calm, xp_callK, xp_callF, bk_ok, bk_exc, xp_prop, xp_isIns, xp_meth, xp_new, xp_newA, xp_lstC, xp_app, xp_isLst, xp_updS, xp_updR, rd_s, rd_ref, rd_non, rd_bl, rd_int, rd_str, rd_lst, rd_tup, rd_scr, rd_dct, rd_ins, rd_exv, xs_seq, sq_nx, sq_ret, sq_exc, as_E, ts_ok, ts_exc, as_next, as_ret, as_retN, as_do, as_set, as_if, as_ifS, as_for, as_forN, as_forC, fk_nx, fk_cnt, fk_brk, fk_ret, fk_exc, as_it, as_rng, as_asg, as_par, as_par2, as_setO, as_parO, as_parOK, as_ixSet, as_updK, as_fldSet, as_raise1, as_raise1', as_frzO, tf_nx, tf_ret, tf_exc, ti_exc, as_yes, xp_lcV, xp_lstO, xp_tupO, xp_lstCO, xp_lcRun, xp_lcEnd, xl_nil, xl_cons, xl_1, xl_1f, xl_2, ix_0, ix_1, ix_2, ix_3, to_addI, to_sub, to_le, to_gt, to_ge, to_lt, to_ixL, to_ixT, to_abs, to_int, to_intB, to_lenL, to_lenT, to_lenZ, to_isN, to_allL, to_eqI, to_neI, to_neInts, to_eqInts, to_put0, to_put1, to_put2, as_tryE, as_tryOk, as_tryX, as_keepX, xq_inO, xq_eqO, xq_neO, xq_binO, xq_eqNO, xq_eqN0, xq_eqN1, xq_strO, xq_isSame, xq_blK, xq_strK, xq_join, xq_strOv, xq_js, xq_jn, xq_jc, xq_fmt, xq_callN, xq_callN1, xq_listC, xq_parS, xq_cellT, xq_cellL, wipeT, putBack, tNm, tNo, tCn, tAny, Option.bind_some, startT, startI, List.map_cons, List.map_nil, List.length_cons, List.length_nil, List.cons_append, List.nil_append, List.append_nil, List.getElem?_cons_zero, List.getElem?_cons_succ, List.set_cons_zero, List.set_cons_succ, Nat.reduceAdd, Nat.reduceSub, Nat.reduceEqDiff, Nat.reduceLeDiff, Nat.reduceLT, List.length_append, List.replicate_zero, List.replicate_succ, cellD, blO, intO, itAny, ↓reduceIte, if_true, Bool.false_eq_true, if_false, e1, un, rdt, tt, show decide ((1 : Int) < 0) = false from rfl]
  · refine ⟨_, _, _, _, q1, ?_, .inr (.inl ⟨rfl, rfl, rfl, rfl⟩), hq1⟩
    simp only [xp_bind, rb_ok, rb_exc, rb_no, xp_ret, xp_oS, xp_oN, xp_c, xp_v, xp_b, xp_val, xp_op, xp_opw, xp_rd2, xp_rd1, xp_test, xp_ite, xp_and, xp_or, xp_not, xp_andV, xp_orV, xp_notV, xp_onB, xp_if, xp_un, xp_chain, xp_nil, xp_cons, xp_lst, xp_tup, xp_noP, xp_part, xp_sl, xp_1, xp_1W, xp_cbn, xp_is, xp_fld, xp_xf, xp_call, xp_callC, xp_calm, xp_callK, xp_callF, bk_ok, bk_exc, xp_prop, xp_isIns, xp_meth, xp_new, xp_newA, xp_lstC, xp_app, xp_isLst, xp_updS, xp_updR, rd_s, rd_ref, rd_non, rd_bl, rd_int, rd_str, rd_lst, rd_tup, rd_scr, rd_dct, rd_ins, rd_exv, xs_seq, sq_nx, sq_ret, sq_exc, as_E, ts_ok, ts_exc, as_next, as_ret, as_retN, as_do, as_set, as_if, as_ifS, as_for, as_forN, as_forC, fk_nx, fk_cnt, fk_brk, fk_ret, fk_exc, as_it, as_rng, as_asg, as_par, as_par2, as_setO, as_parO, as_parOK, as_ixSet, as_updK, as_fldSet, as_raise1, as_raise1', as_frzO, tf_nx, tf_ret, tf_exc, ti_exc, as_yes, xp_lcV, xp_lstO, xp_tupO, xp_lstCO, xp_lcRun, xp_lcEnd, xl_nil, xl_cons, xl_1, xl_1f, xl_2, ix_0, ix_1, ix_2, ix_3, to_addI, to_sub, to_le, to_gt, to_ge, to_lt, to_ixL, to_ixT, to_abs, to_int, to_intB, to_lenL, to_lenT, to_lenZ, to_isN, to_allL, to_eqI, to_neI, to_neInts, to_eqInts, to_put0, to_put1, to_put2, as_tryE, as_tryOk, as_tryX, as_keepX, xq_inO, xq_eqO, xq_neO, xq_binO, xq_eqNO, xq_eqN0, xq_eqN1, xq_strO, xq_isSame, xq_blK, xq_strK, xq_join, xq_strOv, xq_js, xq_jn, xq_jc, xq_fmt, xq_callN, xq_callN1, xq_listC, xq_parS, xq_cellT, xq_cellL, wipeT, putBack, tNm, tNo, tCn, tAny, Option.bind_some, startT, startI, List.map_cons, List.map_nil, List.length_cons, List.length_nil, List.cons_append, List.nil_append, List.append_nil, List.getElem?_cons_zero, List.getElem?_cons_succ, List.set_cons_zero, List.set_cons_succ, Nat.reduceAdd, Nat.reduceSub, Nat.reduceEqDiff, Nat.reduceLeDiff, Nat.reduceLT, List.length_append, List.replicate_zero, List.replicate_succ, cellD, blO, intO, itAny, ↓reduceIte, if_true, Bool.false_eq_true, if_false, e1, un, rdt, tt, show decide ((1 : Int) < 1) = false from rfl]
  · refine ⟨_, _, _, _, q1, ?_, .inr (.inr (.inl ⟨rfl, rfl, rfl, rfl⟩)), hq1⟩
    simp only [xp_bind, rb_ok, rb_exc, rb_no, xp_ret, xp_oS, xp_oN, xp_c, xp_v, xp_b, xp_val, xp_op, xp_opw, xp_rd2, xp_rd1, xp_test, xp_ite, xp_and, xp_or, xp_not, xp_andV, xp_orV, xp_notV, xp_onB, xp_if, xp_un, xp_chain, xp_nil, xp_cons, xp_lst, xp_tup, xp_noP, xp_part, xp_sl, xp_1, xp_1W, xp_cbn, xp_is, xp_fld, xp_xf, xp_call, xp_callC, xp_calm, xp_callK, xp_callF, bk_ok, bk_exc, xp_prop, xp_isIns, xp_meth, xp_new, xp_newA, xp_lstC, xp_app, xp_isLst, xp_updS, xp_updR, rd_s, rd_ref, rd_non, rd_bl, rd_int, rd_str, rd_lst, rd_tup, rd_scr, rd_dct, rd_ins, rd_exv, xs_seq, sq_nx, sq_ret, sq_exc, as_E, ts_ok, ts_exc, as_next, as_ret, as_retN, as_do, as_set, as_if, as_ifS, as_for, as_forN, as_forC, fk_nx, fk_cnt, fk_brk, fk_ret, fk_exc, as_it, as_rng, as_asg, as_par, as_par2, as_setO, as_parO, as_parOK, as_ixSet, as_updK, as_fldSet, as_raise1, as_raise1', as_frzO, tf_nx, tf_ret, tf_exc, ti_exc, as_yes, xp_lcV, xp_lstO, xp_tupO, xp_lstCO, xp_lcRun, xp_lcEnd, xl_nil, xl_cons, xl_1, xl_1f, xl_2, ix_0, ix_1, ix_2, ix_3, to_addI, to_sub, to_le, to_gt, to_ge, to_lt, to_ixL, to_ixT, to_abs, to_int, to_intB, to_lenL, to_lenT, to_lenZ, to_isN, to_allL, to_eqI, to_neI, to_neInts, to_eqInts, to_put0, to_put1, to_put2, as_tryE, as_tryOk, as_tryX, as_keepX, xq_inO, xq_eqO, xq_neO, xq_binO, xq_eqNO, xq_eqN0, xq_eqN1, xq_strO, xq_isSame, xq_blK, xq_strK, xq_join, xq_strOv, xq_js, xq_jn, xq_jc, xq_fmt, xq_callN, xq_callN1, xq_listC, xq_parS, xq_cellT, xq_cellL, wipeT, putBack, tNm, tNo, tCn, tAny, Option.bind_some, startT, startI, List.map_cons, List.map_nil, List.length_cons, List.length_nil, List.cons_append, List.nil_append, List.append_nil, List.getElem?_cons_zero, List.getElem?_cons_succ, List.set_cons_zero, List.set_cons_succ, Nat.reduceAdd, Nat.reduceSub, Nat.reduceEqDiff, Nat.reduceLeDiff, Nat.reduceLT, List.length_append, List.replicate_zero, List.replicate_succ, cellD, blO, intO, itAny, ↓reduceIte, if_true, Bool.false_eq_true, if_false, e1, un, rdt, tt, show decide ((1 : Int) < 2) = true from rfl]
  · refine ⟨_, _, _, _, q1, ?_, .inr (.inr (.inr ⟨rfl, rfl, rfl, rfl⟩)), hq1⟩
    simp only [xp_bind, rb_ok, rb_exc, rb_no, xp_ret, xp_oS, xp_oN, xp_c, xp_v, xp_b, xp_val, xp_op, xp_opw, xp_rd2, xp_rd1, xp_test, xp_ite, xp_and, xp_or, xp_not, xp_andV, xp_orV, xp_notV, xp_onB, xp_if, xp_un, xp_chain, xp_nil, xp_cons, xp_lst, xp_tup, xp_noP, xp_part, xp_sl, xp_1, xp_1W, xp_cbn, xp_is, xp_fld, xp_xf, xp_call, xp_callC, xp_calm, xp_callK, xp_callF, bk_ok, bk_exc, xp_prop, xp_isIns, xp_meth, xp_new, xp_newA, xp_lstC, xp_app, xp_isLst, xp_updS, xp_updR, rd_s, rd_ref, rd_non, rd_bl, rd_int, rd_str, rd_lst, rd_tup, rd_scr, rd_dct, rd_ins, rd_exv, xs_seq, sq_nx, sq_ret, sq_exc, as_E, ts_ok, ts_exc, as_next, as_ret, as_retN, as_do, as_set, as_if, as_ifS, as_for, as_forN, as_forC, fk_nx, fk_cnt, fk_brk, fk_ret, fk_exc, as_it, as_rng, as_asg, as_par, as_par2, as_setO, as_parO, as_parOK, as_ixSet, as_updK, as_fldSet, as_raise1, as_raise1', as_frzO, tf_nx, tf_ret, tf_exc, ti_exc, as_yes, xp_lcV, xp_lstO, xp_tupO, xp_lstCO, xp_lcRun, xp_lcEnd, xl_nil, xl_cons, xl_1, xl_1f, xl_2, ix_0, ix_1, ix_2, ix_3, to_addI, to_sub, to_le, to_gt, to_ge, to_lt, to_ixL, to_ixT, to_abs, to_int, to_intB, to_lenL, to_lenT, to_lenZ, to_isN, to_allL, to_eqI, to_neI, to_neInts, to_eqInts, to_put0, to_put1, to_put2, as_tryE, as_tryOk, as_tryX, as_keepX, xq_inO, xq_eqO, xq_neO, xq_binO, xq_eqNO, xq_eqN0, xq_eqN1, xq_strO, xq_isSame, xq_blK, xq_strK, xq_join, xq_strOv, xq_js, xq_jn, xq_jc, xq_fmt, xq_callN, xq_callN1, xq_listC, xq_parS, xq_cellT, xq_cellL, wipeT, putBack, tNm, tNo, tCn, tAny, Option.bind_some, startT, startI, List.map_cons, List.map_nil, List.length_cons, List.length_nil, List.cons_append, List.nil_append, List.append_nil, List.getElem?_cons_zero, List.getElem?_cons_succ, List.set_cons_zero, List.set_cons_succ, Nat.reduceAdd, Nat.reduceSub, Nat.reduceEqDiff, Nat.reduceLeDiff, Nat.reduceLT, List.length_append, List.replicate_zero, List.replicate_succ, cellD, blO, intO, itAny, ↓reduceIte, if_true, Bool.false_eq_true, if_false, e1, un, rdt, tt, to_put3, show decide ((1 : Int) < 3) = true from rfl]
end Loneboard_k48_boxes

set_option Elab.async false
set_option linter.all false
set_option maxRecDepth 100000
set_option maxHeartbeats 4000000
/-! k48: values that are no cells. -/
namespace Loneboard_k48_boxes
open PySem Fl
open Dl (D Cell eqOk eqD flatD inD rngD putD)
theorem odd_ok (A : AH) : F__law_odd_cells [.ref 6] A = .ok (.bl true) A := by
  kernel_rfl
end Loneboard_k48_boxes

set_option Elab.async false
set_option linter.all false
set_option maxRecDepth 100000
set_option maxHeartbeats 4000000
/-! k48: boxes far out. -/
namespace Loneboard_k48_boxes
open PySem Fl
open Dl (D Cell eqOk eqD flatD inD rngD putD)
theorem lg_far {i : Int} (h1 : -(2 ^ 200) < i) (h2 : i < 2 ^ 200) : Lg i := Nat.lt_of_lt_of_le (log_lt (n := 200) h1 h2 (by decide)) (by decide)
theorem lg_mulF {a b : Int} (h1 : -(2 ^ 50) < a ∧ a < 2 ^ 50) (h2 : -(2 ^ 130) < b ∧ b < 2 ^ 130) : Lg (a * b) := by
  have e1 : a.natAbs ≤ 2 ^ 50 := by omega
  have e2 : b.natAbs ≤ 2 ^ 130 := by omega
  have h3 : (a * b).natAbs ≤ 2 ^ 50 * 2 ^ 130 := by
    rw [Int.natAbs_mul]
    exact Nat.mul_le_mul e1 e2
  generalize a * b = c at *
  have h4 : (2 : Nat) ^ 50 * 2 ^ 130 = 2 ^ 180 := by decide +kernel
  rw [h4] at h3
  exact lg_far (by omega) (by omega)
/-- great corners -/
structure Fr (l lo r h : Int) : Prop where
  kl : 0 ≤ l ∧ l ≤ 10000000000000000000000000000000000000000
  klo : -1000000000000000000000000000000000000010 ≤ lo ∧ lo ≤ 0
  kr : l ≤ r ∧ r ≤ l + 2000000000000
  kh : lo ≤ h ∧ h ≤ lo + 2000000000000000000000000000000000000
theorem Fr.told {l lo r h : Int} (m : Fr l lo r h) (A : AH) : F__law_told [boxD l lo r h] A = .ok (told l lo r h) A := by
  obtain ⟨h1, h2, h3, h4⟩ := m
  exact told_ok (lg_far (by omega) (by omega)) (lg_far (by omega) (by omega)) (lg_far (by omega) (by omega)) (lg_far (by omega) (by omega)) (mulL (by omega) (by omega)) A
theorem Fr.due {l lo r h : Int} (m : Fr l lo r h) (A : AH) : F__law_due [tp4 l lo r h] A = .ok (Loneboard_k48_boxes.told l lo r h) A := by
  obtain ⟨h1, h2, h3, h4⟩ := m
  exact due_ok (lg_far (by omega) (by omega)) (lg_far (by omega) (by omega)) (lg_far (by omega) (by omega)) (lg_far (by omega) (by omega)) (mulL (by omega) (by omega)) A
theorem Fr.sh {l lo r h : Int} (m : Fr l lo r h) {e : Nat} : ShOk (Loneboard_k48_boxes.told l lo r h) (e + 1) 100000 := by
  obtain ⟨h1, h2, h3, h4⟩ := m
  exact sh_told (lg_far (by omega) (by omega)) (lg_far (by omega) (by omega)) (lg_far (by omega) (by omega)) (lg_far (by omega) (by omega)) (lg_mulF (by omega) (by omega))
theorem near_or {l lo r h l' lo' r' h' : Int} (n : nearC l lo r h l' lo' r' h') : mn l l' = l' ∧ mn lo lo' = lo' ∧ mx r r' = r' ∧ mx h h' = h' := by
  unfold nearC at n
  unfold mn mx
  rcases n with ⟨rfl, rfl, rfl, rfl⟩ | ⟨rfl, rfl, rfl, rfl⟩ | ⟨rfl, rfl, rfl, rfl⟩ | ⟨rfl, rfl, rfl, rfl⟩ <;> refine ⟨?_, ?_, ?_, ?_⟩ <;> split <;> omega
theorem near_eq {l lo r h l' lo' r' h' : Int} (n : nearC l lo r h l' lo' r' h') : ((decide (l = l') && decide (lo = lo')) && (decide (r = r') && decide (h = h'))) = false ∧ ((decide (l' = l) && decide (lo' = lo)) && (decide (r' = r) && decide (h' = h))) = false := by
  unfold nearC at n
  constructor <;> rw [Bool.eq_false_iff] <;> simp only [ne_eq, Bool.and_eq_true, decide_eq_true_eq, not_and] <;> omega
theorem p_40 : tPow (.int 10) (.int 40) = some (.int 10000000000000000000000000000000000000000) := by kernel_rfl
theorem p_39 : tPow (.int 10) (.int 39) = some (.int 1000000000000000000000000000000000000000) := by kernel_rfl
theorem p_30 : tPow (.int 10) (.int 30) = some (.int 1000000000000000000000000000000) := by kernel_rfl
theorem p_20 : tPow (.int 10) (.int 20) = some (.int 100000000000000000000) := by kernel_rfl
theorem p_12 : tPow (.int 10) (.int 12) = some (.int 1000000000000) := by kernel_rfl
theorem p_6 : tPow (.int 10) (.int 6) = some (.int 1000000) := by kernel_rfl
theorem far_ok {b : Nat} {q : Q} (hq : OkQ b q) (hb : b ≤ 900000) : ∃ q', F__law_far_right [.ref 6] (PA 6 q) = .ok (.bl true) (PA 6 q') ∧ OkQ (b + 5) q' := by
  obtain ⟨v1, q1, e1, a1, b1, hq1⟩ := draw_ok (many := 100000000000000000000) hq (by omega) (by decide) (by decide +kernel)
  obtain ⟨v2, q2, e2, a2, b2, hq2⟩ := draw_ok (many := 1000000000000000000000000000000) hq1 (by omega) (by decide) (by decide +kernel)
  obtain ⟨v3, q3, e3, a3, b3, hq3⟩ := draw_ok (many := 1000000000000) hq2 (by omega) (by decide) (by decide +kernel)
  obtain ⟨v4, q4, e4, a4, b4, hq4⟩ := draw_ok (many := 1000000) hq3 (by omega) (by decide) (by decide +kernel)
  have m4 : tMul (.int v4) (.int 1000000000000000000000000000000) = some (.int (v4 * 1000000000000000000000000000000)) := to_mul (mulL (by omega) (by omega))
  have s39 : tSub (.int 5) (.int 1000000000000000000000000000000000000000) = some (.int (-999999999999999999999999999999999999995)) := by kernel_rfl
  obtain ⟨l, hl⟩ : ∃ l, l = (10000000000000000000000000000000000000000 : Int) - v1 := ⟨_, rfl⟩
  obtain ⟨lo, hlo⟩ : ∃ lo, lo = (-999999999999999999999999999999999999995 : Int) + v2 := ⟨_, rfl⟩
  obtain ⟨r, hr⟩ : ∃ r, r = l + v3 := ⟨_, rfl⟩
  obtain ⟨h, hh⟩ : ∃ h, h = lo + v4 * 1000000000000000000000000000000 := ⟨_, rfl⟩
  have F1 : Fr l lo r h := ⟨by omega, by omega, by omega, by omega⟩
  obtain ⟨l', lo', r', h', q5, e5, n, hq5⟩ := near_ok (l := l) (lo := lo) (r := r) (h := h) hq4 (by omega)
  have F2 : l' ≤ r' ∧ lo' ≤ h' ∧ Fr l' lo' r' h' := by
    have n' := n
    obtain ⟨k1, k2, k3, k4⟩ := F1
    unfold nearC at n'
    clear n e5
    rcases n' with ⟨rfl, rfl, rfl, rfl⟩ | ⟨rfl, rfl, rfl, rfl⟩ | ⟨rfl, rfl, rfl, rfl⟩ | ⟨rfl, rfl, rfl, rfl⟩ <;> refine ⟨by omega, by omega, ⟨by omega, by omega, by omega, by omega⟩⟩
  obtain ⟨k1, k2, F2⟩ := F2
  have bx := box_ok F1.kr.1 F1.kh.1
  have by' := box_ok k1 k2
  have t1 := F1.told
  have t2 := F2.told
  have d1 := F1.due
  have d2 := F2.due
  have o := or_ok (l := l) (lo := lo) (r := r) (h := h) (l' := l') (lo' := lo') (r' := r') (h' := h') F1.kr.1 F1.kh.1 k1 k2
  obtain ⟨n1, n2, n3, n4⟩ := near_or n
  rw [n1, n2, n3, n4] at o
  obtain ⟨m1, m2⟩ := near_eq n
  have q1' := eq_ok (l := l) (lo := lo) (r := r) (h := h) (l' := l') (lo' := lo') (r' := r') (h' := h')
  have q2' := eq_ok (l := l') (lo := lo') (r := r') (h := h') (l' := l) (lo' := lo) (r' := r) (h' := h)
  rw [m1] at q1'
  rw [m2] at q2'
  have q3' : ∀ A, F_Box_eq [boxD l lo r h, boxD l lo r h] A = .ok (.bl true) A := fun A => by
    rw [eq_ok]
    simp
  have sa1 : sameTy 5 (boxD l lo r h) = true := by kernel_rfl
  have sa2 : sameTy 5 (boxD l' lo' r' h') = true := by kernel_rfl
  have rdt : ∀ {a b c d : Int} {Γ : SG} {A : AH}, rdO (.v (tp4 a b c d)) Γ A = some (tp4 a b c d) := fun {a b c d Γ A} => id rfl
  have hT := F1.sh (e := 0)
  have hT' := F2.sh (e := 0)
  obtain ⟨s, rp⟩ : ∃ s : Str, tRepr (.lst [Loneboard_k48_boxes.told l lo r h, Loneboard_k48_boxes.told l' lo' r' h', Loneboard_k48_boxes.told l' lo' r' h', .bl false, .bl true, .bl true]) = some (.str s) :=
    ⟨_, sh_repr (sh_lst (shs_cons hT (shs_cons hT' (shs_cons hT' (shs_cons sh_bl (shs_cons sh_bl (shs_cons sh_bl shs_nil))))))) (by decide) (by decide)⟩
  have inE : ∀ x y A, F_Box_contains [boxD l lo r h, pt x y] A = .ok (.bl (inB x y l lo r h)) A := fun x y A => contains_ok A
  have c1 : inB l lo l lo r h = (decide (l < r) && decide (lo < h)) := by
    unfold inB
    simp
  have c2 : inB (r - 1) (h - 1) l lo r h = (decide (l < r) && decide (lo < h)) := by
    unfold inB
    rw [Bool.eq_iff_iff]
    simp only [Bool.and_eq_true, decide_eq_true_eq]
    omega
  have c3 : inB r lo l lo r h = false := by
    unfold inB
    simp
  have c4 : inB l h l lo r h = false := by
    unfold inB
    simp
  have c5 : inB (l - 1) lo l lo r h = false := by
    unfold inB
    rw [Bool.eq_false_iff]
    simp only [ne_eq, Bool.and_eq_true, decide_eq_true_eq, not_and]
    omega
  have c6 : inB l (lo - 1) l lo r h = false := by
    unfold inB
    rw [Bool.eq_false_iff]
    simp only [ne_eq, Bool.and_eq_true, decide_eq_true_eq, not_and]
    omega
  have al : ∀ a b c d e f : D, tAdd (.lst [a, b, c, d]) (.lst [e, f]) = some (.lst [a, b, c, d, e, f]) := fun a b c d e f => add_lst (by show 4 + 2 ≤ 16777216; decide)
  have ef : ∀ v : Bool, tEq false (.lst [.bl v, .bl v, .bl false, .bl false, .bl false, .bl false]) (.lst [.bl v, .bl v, .bl false, .bl false, .bl false, .bl false]) = some (.bl true) := fun v => by
    cases v <;> kernel_rfl
  refine ⟨q5, ?_, hq5⟩
  unfold F__law_far_right
  rw [run_F (by rfl)]
  unfold B__law_far_right
  simp only [xp_bind, rb_ok, rb_exc, rb_no, xp_ret, xp_oS, xp_oN, xp_c, xp_v, xp_b, xp_val, xp_op, xp_opw, xp_rd2, xp_rd1, xp_test, xp_ite, xp_and, xp_or, xp_not, xp_andV, xp_orV, xp_notV, xp_onB, xp_if, xp_un, xp_chain, xp_nil, xp_cons, xp_lst, xp_tup, xp_noP, xp_part, xp_sl, xp_1, xp_1W, xp_cbn, xp_is, xp_fld, xp_xf, xp_call, xp_callC, xp_calm, xp_callK, xp_callF, bk_ok, bk_exc, xp_prop, xp_isIns, xp_meth, xp_new, xp_newA, xp_lstC, xp_app, xp_isLst, xp_updS, xp_updR, rd_s, rd_ref, rd_non, rd_bl, rd_int, rd_str, rd_lst, rd_tup, rd_scr, rd_dct, rd_ins, rd_exv, xs_seq, sq_nx, sq_ret, sq_exc, as_E, ts_ok, ts_exc, as_next, as_ret, as_retN, as_do, as_set, as_if, as_ifS, as_for, as_forN, as_forC, fk_nx, fk_cnt, fk_brk, fk_ret, fk_exc, as_it, as_rng, as_asg, as_par, as_par2, as_setO, as_parO, as_parOK, as_ixSet, as_updK, as_fldSet, as_raise1, as_raise1', as_frzO, tf_nx, tf_ret, tf_exc, ti_exc, as_yes, xp_lcV, xp_lstO, xp_tupO, xp_lstCO, xp_lcRun, xp_lcEnd, xl_nil, xl_cons, xl_1, xl_1f, xl_2, ix_0, ix_1, ix_2, ix_3, to_addI, to_sub, to_le, to_gt, to_ge, to_lt, to_ixL, to_ixT, to_abs, to_int, to_intB, to_lenL, to_lenT, to_lenZ, to_isN, to_allL, to_eqI, to_neI, to_neInts, to_eqInts, to_put0, to_put1, to_put2, as_tryE, as_tryOk, as_tryX, as_keepX, xq_inO, xq_eqO, xq_neO, xq_binO, xq_eqNO, xq_eqN0, xq_eqN1, xq_strO, xq_isSame, xq_blK, xq_strK, xq_join, xq_strOv, xq_js, xq_jn, xq_jc, xq_fmt, xq_callN, xq_callN1, xq_listC, xq_parS, xq_cellT, xq_cellL, wipeT, putBack, tNm, tNo, tCn, tAny, Option.bind_some, startT, startI, List.map_cons, List.map_nil, List.length_cons, List.length_nil, List.cons_append, List.nil_append, List.append_nil, List.getElem?_cons_zero, List.getElem?_cons_succ, List.set_cons_zero, List.set_cons_succ, Nat.reduceAdd, Nat.reduceSub, Nat.reduceEqDiff, Nat.reduceLeDiff, Nat.reduceLT, List.length_append, List.replicate_zero, List.replicate_succ, cellD, blO, intO, itAny, ↓reduceIte, if_true, Bool.false_eq_true, if_false, p_40, p_39, p_30, p_20, p_12, p_6, e1, e2, e3, e4, m4, s39]
  rw [← hl]
  simp only [← hlo, ← hr, ← hh]
  simp only [xp_bind, rb_ok, rb_exc, rb_no, xp_ret, xp_oS, xp_oN, xp_c, xp_v, xp_b, xp_val, xp_op, xp_opw, xp_rd2, xp_rd1, xp_test, xp_ite, xp_and, xp_or, xp_not, xp_andV, xp_orV, xp_notV, xp_onB, xp_if, xp_un, xp_chain, xp_nil, xp_cons, xp_lst, xp_tup, xp_noP, xp_part, xp_sl, xp_1, xp_1W, xp_cbn, xp_is, xp_fld, xp_xf, xp_call, xp_callC, xp_calm, xp_callK, xp_callF, bk_ok, bk_exc, xp_prop, xp_isIns, xp_meth, xp_new, xp_newA, xp_lstC, xp_app, xp_isLst, xp_updS, xp_updR, rd_s, rd_ref, rd_non, rd_bl, rd_int, rd_str, rd_lst, rd_tup, rd_scr, rd_dct, rd_ins, rd_exv, xs_seq, sq_nx, sq_ret, sq_exc, as_E, ts_ok, ts_exc, as_next, as_ret, as_retN, as_do, as_set, as_if, as_ifS, as_for, as_forN, as_forC, fk_nx, fk_cnt, fk_brk, fk_ret, fk_exc, as_it, as_rng, as_asg, as_par, as_par2, as_setO, as_parO, as_parOK, as_ixSet, as_updK, as_fldSet, as_raise1, as_raise1', as_frzO, tf_nx, tf_ret, tf_exc, ti_exc, as_yes, xp_lcV, xp_lstO, xp_tupO, xp_lstCO, xp_lcRun, xp_lcEnd, xl_nil, xl_cons, xl_1, xl_1f, xl_2, ix_0, ix_1, ix_2, ix_3, to_addI, to_sub, to_le, to_gt, to_ge, to_lt, to_ixL, to_ixT, to_abs, to_int, to_intB, to_lenL, to_lenT, to_lenZ, to_isN, to_allL, to_eqI, to_neI, to_neInts, to_eqInts, to_put0, to_put1, to_put2, as_tryE, as_tryOk, as_tryX, as_keepX, xq_inO, xq_eqO, xq_neO, xq_binO, xq_eqNO, xq_eqN0, xq_eqN1, xq_strO, xq_isSame, xq_blK, xq_strK, xq_join, xq_strOv, xq_js, xq_jn, xq_jc, xq_fmt, xq_callN, xq_callN1, xq_listC, xq_parS, xq_cellT, xq_cellL, wipeT, putBack, tNm, tNo, tCn, tAny, Option.bind_some, startT, startI, List.map_cons, List.map_nil, List.length_cons, List.length_nil, List.cons_append, List.nil_append, List.append_nil, List.getElem?_cons_zero, List.getElem?_cons_succ, List.set_cons_zero, List.set_cons_succ, Nat.reduceAdd, Nat.reduceSub, Nat.reduceEqDiff, Nat.reduceLeDiff, Nat.reduceLT, List.length_append, List.replicate_zero, List.replicate_succ, cellD, blO, intO, itAny, ↓reduceIte, if_true, Bool.false_eq_true, if_false, e5, bx, by', t1, t2, d1, d2, o, q1', q2', q3', sa1, sa2, rd_box, io_box, rp, eqS_self, rdt, inE, rd_pt, al, Bool.not_false]
  cases w1 : decide (l < r) <;> cases w2 : decide (lo < h) <;> rw [w1, w2] at c1 c2 <;> simp only [xp_bind, rb_ok, rb_exc, rb_no, xp_ret, xp_oS, xp_oN, xp_c, xp_v, xp_b, xp_val, xp_op, xp_opw, xp_rd2, xp_rd1, xp_test, xp_ite, xp_and, xp_or, xp_not, xp_andV, xp_orV, xp_notV, xp_onB, xp_if, xp_un, xp_chain, xp_nil, xp_cons, xp_lst, xp_tup, xp_noP, xp_part, xp_sl, xp_1, xp_1W, xp_cbn, xp_is, xp_fld, xp_xf, xp_call, xp_callC, xp_calm, xp_callK, xp_callF, bk_ok, bk_exc, xp_prop, xp_isIns, xp_meth, xp_new, xp_newA, xp_lstC, xp_app, xp_isLst, xp_updS, xp_updR, rd_s, rd_ref, rd_non, rd_bl, rd_int, rd_str, rd_lst, rd_tup, rd_scr, rd_dct, rd_ins, rd_exv, xs_seq, sq_nx, sq_ret, sq_exc, as_E, ts_ok, ts_exc, as_next, as_ret, as_retN, as_do, as_set, as_if, as_ifS, as_for, as_forN, as_forC, fk_nx, fk_cnt, fk_brk, fk_ret, fk_exc, as_it, as_rng, as_asg, as_par, as_par2, as_setO, as_parO, as_parOK, as_ixSet, as_updK, as_fldSet, as_raise1, as_raise1', as_frzO, tf_nx, tf_ret, tf_exc, ti_exc, as_yes, xp_lcV, xp_lstO, xp_tupO, xp_lstCO, xp_lcRun, xp_lcEnd, xl_nil, xl_cons, xl_1, xl_1f, xl_2, ix_0, ix_1, ix_2, ix_3, to_addI, to_sub, to_le, to_gt, to_ge, to_lt, to_ixL, to_ixT, to_abs, to_int, to_intB, to_lenL, to_lenT, to_lenZ, to_isN, to_allL, to_eqI, to_neI, to_neInts, to_eqInts, to_put0, to_put1, to_put2, as_tryE, as_tryOk, as_tryX, as_keepX, xq_inO, xq_eqO, xq_neO, xq_binO, xq_eqNO, xq_eqN0, xq_eqN1, xq_strO, xq_isSame, xq_blK, xq_strK, xq_join, xq_strOv, xq_js, xq_jn, xq_jc, xq_fmt, xq_callN, xq_callN1, xq_listC, xq_parS, xq_cellT, xq_cellL, wipeT, putBack, tNm, tNo, tCn, tAny, Option.bind_some, startT, startI, List.map_cons, List.map_nil, List.length_cons, List.length_nil, List.cons_append, List.nil_append, List.append_nil, List.getElem?_cons_zero, List.getElem?_cons_succ, List.set_cons_zero, List.set_cons_succ, Nat.reduceAdd, Nat.reduceSub, Nat.reduceEqDiff, Nat.reduceLeDiff, Nat.reduceLT, List.length_append, List.replicate_zero, List.replicate_succ, cellD, blO, intO, itAny, ↓reduceIte, if_true, Bool.false_eq_true, if_false, c1, c2, c3, c4, c5, c6, ef, Bool.and_true, Bool.and_false, inE, rd_box, rd_pt, io_box]
end Loneboard_k48_boxes

set_option Elab.async false
set_option linter.all false
set_option maxRecDepth 100000
set_option maxHeartbeats 4000000
/-! k48: what is refused. -/
namespace Loneboard_k48_boxes
open PySem Fl
open Dl (D Cell eqOk eqD flatD inD rngD putD)
abbrev oddC : List D := [.non, .bl true, .bl false, .str "1", .tup [], .tup [.int 1], .lst [.int 1], .dct []]
abbrev wordsC : List D := [.str "left", .str "low", .str "right", .str "high"]
/-- an int, or an odd one: whether the first, told to the program -/
structure Io (d : D) (p : Bool) : Prop where
  int : ∀ A, F_is_integer [d] A = .ok (.bl p) A
  tst : ∀ (s0 s1 s2 s3 s4 s5 s6 s7 s8 s9 s10 s11 s12 s13 s14 : Sl) (A : AH), (mOr (mTest (mIs tabD.tab (.ty "bool") (mB 15))) (mNot (mTest (mIs tabD.tab (.ty "int") (mB 15))))) [s0, s1, s2, s3, s4, s5, s6, s7, s8, s9, s10, s11, s12, s13, s14, .val d] A = .ok (!p) [s0, s1, s2, s3, s4, s5, s6, s7, s8, s9, s10, s11, s12, s13, s14, .val d] A
theorem io_int (i : Int) : Io (.int i) true := ⟨fun A => isint_int A, fun _ _ _ _ _ _ _ _ _ _ _ _ _ _ _ A => by
  simp only [xp_bind, rb_ok, rb_exc, rb_no, xp_ret, xp_oS, xp_oN, xp_c, xp_v, xp_b, xp_val, xp_op, xp_opw, xp_rd2, xp_rd1, xp_test, xp_ite, xp_and, xp_or, xp_not, xp_andV, xp_orV, xp_notV, xp_onB, xp_if, xp_un, xp_chain, xp_nil, xp_cons, xp_lst, xp_tup, xp_noP, xp_part, xp_sl, xp_1, xp_1W, xp_cbn, xp_is, xp_fld, xp_xf, xp_call, xp_callC, xp_calm, xp_callK, xp_callF, bk_ok, bk_exc, xp_prop, xp_isIns, xp_meth, xp_new, xp_newA, xp_lstC, xp_app, xp_isLst, xp_updS, xp_updR, rd_s, rd_ref, rd_non, rd_bl, rd_int, rd_str, rd_lst, rd_tup, rd_scr, rd_dct, rd_ins, rd_exv, xs_seq, sq_nx, sq_ret, sq_exc, as_E, ts_ok, ts_exc, as_next, as_ret, as_retN, as_do, as_set, as_if, as_ifS, as_for, as_forN, as_forC, fk_nx, fk_cnt, fk_brk, fk_ret, fk_exc, as_it, as_rng, as_asg, as_par, as_par2, as_setO, as_parO, as_parOK, as_ixSet, as_updK, as_fldSet, as_raise1, as_raise1', as_frzO, tf_nx, tf_ret, tf_exc, ti_exc, as_yes, xp_lcV, xp_lstO, xp_tupO, xp_lstCO, xp_lcRun, xp_lcEnd, xl_nil, xl_cons, xl_1, xl_1f, xl_2, ix_0, ix_1, ix_2, ix_3, to_addI, to_sub, to_le, to_gt, to_ge, to_lt, to_ixL, to_ixT, to_abs, to_int, to_intB, to_lenL, to_lenT, to_lenZ, to_isN, to_allL, to_eqI, to_neI, to_neInts, to_eqInts, to_put0, to_put1, to_put2, as_tryE, as_tryOk, as_tryX, as_keepX, xq_inO, xq_eqO, xq_neO, xq_binO, xq_eqNO, xq_eqN0, xq_eqN1, xq_strO, xq_isSame, xq_blK, xq_strK, xq_join, xq_strOv, xq_js, xq_jn, xq_jc, xq_fmt, xq_callN, xq_callN1, xq_listC, xq_parS, xq_cellT, xq_cellL, wipeT, putBack, tNm, tNo, tCn, tAny, Option.bind_some, startT, startI, List.map_cons, List.map_nil, List.length_cons, List.length_nil, List.cons_append, List.nil_append, List.append_nil, List.getElem?_cons_zero, List.getElem?_cons_succ, List.set_cons_zero, List.set_cons_succ, Nat.reduceAdd, Nat.reduceSub, Nat.reduceEqDiff, Nat.reduceLeDiff, Nat.reduceLT, List.length_append, List.replicate_zero, List.replicate_succ, cellD, blO, intO, itAny, ↓reduceIte, if_true, Bool.false_eq_true, if_false, it_int_int, it_bool_int, Bool.not_true]⟩
theorem io_odd : ∀ d ∈ oddC, Io d false := by
  intro d hd
  simp only [List.mem_cons, List.not_mem_nil, or_false] at hd
  rcases hd with rfl | rfl | rfl | rfl | rfl | rfl | rfl | rfl <;> exact ⟨fun A => by kernel_rfl, fun s0 s1 s2 s3 s4 s5 s6 s7 s8 s9 s10 s11 s12 s13 s14 A => by kernel_rfl⟩
def wordC (pa pb pc : Bool) : Str := if pa = false then "left" else if pb = false then "low" else if pc = false then "right" else "high"
theorem init_bad {a b c d : D} {pa pb pc pd : Bool} (ha : Io a pa) (hb : Io b pb) (hc : Io c pc) (hd : Io d pd) (h : (pa && (pb && (pc && pd))) = false) (A : AH) : F_Box_init [a, b, c, d] A = .exc 2 [("part", .str (wordC pa pb pc))] A := by
  have ea := ha.int
  have eb := hb.int
  have ec := hc.int
  have ed := hd.int
  unfold F_Box_init
  rw [run_I (by rfl)]
  unfold B_Box_init
  cases pa
  · simp only [xp_bind, rb_ok, rb_exc, rb_no, xp_ret, xp_oS, xp_oN, xp_c, xp_v, xp_b, xp_val, xp_op, xp_opw, xp_rd2, xp_rd1, xp_test, xp_ite, xp_and, xp_or, xp_not, xp_andV, xp_orV, xp_notV, xp_onB, xp_if, xp_un, xp_chain, xp_nil, xp_cons, xp_lst, xp_tup, xp_noP, xp_part, xp_sl, xp_1, xp_1W, xp_cbn, xp_is, xp_fld, xp_xf, xp_call, xp_callC, xp_calm, xp_callK, xp_callF, bk_ok, bk_exc, xp_prop, xp_isIns, xp_meth, xp_new, xp_newA, xp_lstC, xp_app, xp_isLst, xp_updS, xp_updR, rd_s, rd_ref, rd_non, rd_bl, rd_int, rd_str, rd_lst, rd_tup, rd_scr, rd_dct, rd_ins, rd_exv, xs_seq, sq_nx, sq_ret, sq_exc, as_E, ts_ok, ts_exc, as_next, as_ret, as_retN, as_do, as_set, as_if, as_ifS, as_for, as_forN, as_forC, fk_nx, fk_cnt, fk_brk, fk_ret, fk_exc, as_it, as_rng, as_asg, as_par, as_par2, as_setO, as_parO, as_parOK, as_ixSet, as_updK, as_fldSet, as_raise1, as_raise1', as_frzO, tf_nx, tf_ret, tf_exc, ti_exc, as_yes, xp_lcV, xp_lstO, xp_tupO, xp_lstCO, xp_lcRun, xp_lcEnd, xl_nil, xl_cons, xl_1, xl_1f, xl_2, ix_0, ix_1, ix_2, ix_3, to_addI, to_sub, to_le, to_gt, to_ge, to_lt, to_ixL, to_ixT, to_abs, to_int, to_intB, to_lenL, to_lenT, to_lenZ, to_isN, to_allL, to_eqI, to_neI, to_neInts, to_eqInts, to_put0, to_put1, to_put2, as_tryE, as_tryOk, as_tryX, as_keepX, xq_inO, xq_eqO, xq_neO, xq_binO, xq_eqNO, xq_eqN0, xq_eqN1, xq_strO, xq_isSame, xq_blK, xq_strK, xq_join, xq_strOv, xq_js, xq_jn, xq_jc, xq_fmt, xq_callN, xq_callN1, xq_listC, xq_parS, xq_cellT, xq_cellL, wipeT, putBack, tNm, tNo, tCn, tAny, Option.bind_some, startT, startI, List.map_cons, List.map_nil, List.length_cons, List.length_nil, List.cons_append, List.nil_append, List.append_nil, List.getElem?_cons_zero, List.getElem?_cons_succ, List.set_cons_zero, List.set_cons_succ, Nat.reduceAdd, Nat.reduceSub, Nat.reduceEqDiff, Nat.reduceLeDiff, Nat.reduceLT, List.length_append, List.replicate_zero, List.replicate_succ, cellD, blO, intO, itAny, ↓reduceIte, if_true, Bool.false_eq_true, if_false, ea, Bool.not_false]
    exact id rfl
  · cases pb
    · simp only [xp_bind, rb_ok, rb_exc, rb_no, xp_ret, xp_oS, xp_oN, xp_c, xp_v, xp_b, xp_val, xp_op, xp_opw, xp_rd2, xp_rd1, xp_test, xp_ite, xp_and, xp_or, xp_not, xp_andV, xp_orV, xp_notV, xp_onB, xp_if, xp_un, xp_chain, xp_nil, xp_cons, xp_lst, xp_tup, xp_noP, xp_part, xp_sl, xp_1, xp_1W, xp_cbn, xp_is, xp_fld, xp_xf, xp_call, xp_callC, xp_calm, xp_callK, xp_callF, bk_ok, bk_exc, xp_prop, xp_isIns, xp_meth, xp_new, xp_newA, xp_lstC, xp_app, xp_isLst, xp_updS, xp_updR, rd_s, rd_ref, rd_non, rd_bl, rd_int, rd_str, rd_lst, rd_tup, rd_scr, rd_dct, rd_ins, rd_exv, xs_seq, sq_nx, sq_ret, sq_exc, as_E, ts_ok, ts_exc, as_next, as_ret, as_retN, as_do, as_set, as_if, as_ifS, as_for, as_forN, as_forC, fk_nx, fk_cnt, fk_brk, fk_ret, fk_exc, as_it, as_rng, as_asg, as_par, as_par2, as_setO, as_parO, as_parOK, as_ixSet, as_updK, as_fldSet, as_raise1, as_raise1', as_frzO, tf_nx, tf_ret, tf_exc, ti_exc, as_yes, xp_lcV, xp_lstO, xp_tupO, xp_lstCO, xp_lcRun, xp_lcEnd, xl_nil, xl_cons, xl_1, xl_1f, xl_2, ix_0, ix_1, ix_2, ix_3, to_addI, to_sub, to_le, to_gt, to_ge, to_lt, to_ixL, to_ixT, to_abs, to_int, to_intB, to_lenL, to_lenT, to_lenZ, to_isN, to_allL, to_eqI, to_neI, to_neInts, to_eqInts, to_put0, to_put1, to_put2, as_tryE, as_tryOk, as_tryX, as_keepX, xq_inO, xq_eqO, xq_neO, xq_binO, xq_eqNO, xq_eqN0, xq_eqN1, xq_strO, xq_isSame, xq_blK, xq_strK, xq_join, xq_strOv, xq_js, xq_jn, xq_jc, xq_fmt, xq_callN, xq_callN1, xq_listC, xq_parS, xq_cellT, xq_cellL, wipeT, putBack, tNm, tNo, tCn, tAny, Option.bind_some, startT, startI, List.map_cons, List.map_nil, List.length_cons, List.length_nil, List.cons_append, List.nil_append, List.append_nil, List.getElem?_cons_zero, List.getElem?_cons_succ, List.set_cons_zero, List.set_cons_succ, Nat.reduceAdd, Nat.reduceSub, Nat.reduceEqDiff, Nat.reduceLeDiff, Nat.reduceLT, List.length_append, List.replicate_zero, List.replicate_succ, cellD, blO, intO, itAny, ↓reduceIte, if_true, Bool.false_eq_true, if_false, ea, eb, Bool.not_false, Bool.not_true]
      exact id rfl
    · cases pc
      · simp only [xp_bind, rb_ok, rb_exc, rb_no, xp_ret, xp_oS, xp_oN, xp_c, xp_v, xp_b, xp_val, xp_op, xp_opw, xp_rd2, xp_rd1, xp_test, xp_ite, xp_and, xp_or, xp_not, xp_andV, xp_orV, xp_notV, xp_onB, xp_if, xp_un, xp_chain, xp_nil, xp_cons, xp_lst, xp_tup, xp_noP, xp_part, xp_sl, xp_1, xp_1W, xp_cbn, xp_is, xp_fld, xp_xf, xp_call, xp_callC, xp_calm, xp_callK, xp_callF, bk_ok, bk_exc, xp_prop, xp_isIns, xp_meth, xp_new, xp_newA, xp_lstC, xp_app, xp_isLst, xp_updS, xp_updR, rd_s, rd_ref, rd_non, rd_bl, rd_int, rd_str, rd_lst, rd_tup, rd_scr, rd_dct, rd_ins, rd_exv, xs_seq, sq_nx, sq_ret, sq_exc, as_E, ts_ok, ts_exc, as_next, as_ret, as_retN, as_do, as_set, as_if, as_ifS, as_for, as_forN, as_forC, fk_nx, fk_cnt, fk_brk, fk_ret, fk_exc, as_it, as_rng, as_asg, as_par, as_par2, as_setO, as_parO, as_parOK, as_ixSet, as_updK, as_fldSet, as_raise1, as_raise1', as_frzO, tf_nx, tf_ret, tf_exc, ti_exc, as_yes, xp_lcV, xp_lstO, xp_tupO, xp_lstCO, xp_lcRun, xp_lcEnd, xl_nil, xl_cons, xl_1, xl_1f, xl_2, ix_0, ix_1, ix_2, ix_3, to_addI, to_sub, to_le, to_gt, to_ge, to_lt, to_ixL, to_ixT, to_abs, to_int, to_intB, to_lenL, to_lenT, to_lenZ, to_isN, to_allL, to_eqI, to_neI, to_neInts, to_eqInts, to_put0, to_put1, to_put2, as_tryE, as_tryOk, as_tryX, as_keepX, xq_inO, xq_eqO, xq_neO, xq_binO, xq_eqNO, xq_eqN0, xq_eqN1, xq_strO, xq_isSame, xq_blK, xq_strK, xq_join, xq_strOv, xq_js, xq_jn, xq_jc, xq_fmt, xq_callN, xq_callN1, xq_listC, xq_parS, xq_cellT, xq_cellL, wipeT, putBack, tNm, tNo, tCn, tAny, Option.bind_some, startT, startI, List.map_cons, List.map_nil, List.length_cons, List.length_nil, List.cons_append, List.nil_append, List.append_nil, List.getElem?_cons_zero, List.getElem?_cons_succ, List.set_cons_zero, List.set_cons_succ, Nat.reduceAdd, Nat.reduceSub, Nat.reduceEqDiff, Nat.reduceLeDiff, Nat.reduceLT, List.length_append, List.replicate_zero, List.replicate_succ, cellD, blO, intO, itAny, ↓reduceIte, if_true, Bool.false_eq_true, if_false, ea, eb, ec, Bool.not_false, Bool.not_true]
        exact id rfl
      · cases pd
        · simp only [xp_bind, rb_ok, rb_exc, rb_no, xp_ret, xp_oS, xp_oN, xp_c, xp_v, xp_b, xp_val, xp_op, xp_opw, xp_rd2, xp_rd1, xp_test, xp_ite, xp_and, xp_or, xp_not, xp_andV, xp_orV, xp_notV, xp_onB, xp_if, xp_un, xp_chain, xp_nil, xp_cons, xp_lst, xp_tup, xp_noP, xp_part, xp_sl, xp_1, xp_1W, xp_cbn, xp_is, xp_fld, xp_xf, xp_call, xp_callC, xp_calm, xp_callK, xp_callF, bk_ok, bk_exc, xp_prop, xp_isIns, xp_meth, xp_new, xp_newA, xp_lstC, xp_app, xp_isLst, xp_updS, xp_updR, rd_s, rd_ref, rd_non, rd_bl, rd_int, rd_str, rd_lst, rd_tup, rd_scr, rd_dct, rd_ins, rd_exv, xs_seq, sq_nx, sq_ret, sq_exc, as_E, ts_ok, ts_exc, as_next, as_ret, as_retN, as_do, as_set, as_if, as_ifS, as_for, as_forN, as_forC, fk_nx, fk_cnt, fk_brk, fk_ret, fk_exc, as_it, as_rng, as_asg, as_par, as_par2, as_setO, as_parO, as_parOK, as_ixSet, as_updK, as_fldSet, as_raise1, as_raise1', as_frzO, tf_nx, tf_ret, tf_exc, ti_exc, as_yes, xp_lcV, xp_lstO, xp_tupO, xp_lstCO, xp_lcRun, xp_lcEnd, xl_nil, xl_cons, xl_1, xl_1f, xl_2, ix_0, ix_1, ix_2, ix_3, to_addI, to_sub, to_le, to_gt, to_ge, to_lt, to_ixL, to_ixT, to_abs, to_int, to_intB, to_lenL, to_lenT, to_lenZ, to_isN, to_allL, to_eqI, to_neI, to_neInts, to_eqInts, to_put0, to_put1, to_put2, as_tryE, as_tryOk, as_tryX, as_keepX, xq_inO, xq_eqO, xq_neO, xq_binO, xq_eqNO, xq_eqN0, xq_eqN1, xq_strO, xq_isSame, xq_blK, xq_strK, xq_join, xq_strOv, xq_js, xq_jn, xq_jc, xq_fmt, xq_callN, xq_callN1, xq_listC, xq_parS, xq_cellT, xq_cellL, wipeT, putBack, tNm, tNo, tCn, tAny, Option.bind_some, startT, startI, List.map_cons, List.map_nil, List.length_cons, List.length_nil, List.cons_append, List.nil_append, List.append_nil, List.getElem?_cons_zero, List.getElem?_cons_succ, List.set_cons_zero, List.set_cons_succ, Nat.reduceAdd, Nat.reduceSub, Nat.reduceEqDiff, Nat.reduceLeDiff, Nat.reduceLT, List.length_append, List.replicate_zero, List.replicate_succ, cellD, blO, intO, itAny, ↓reduceIte, if_true, Bool.false_eq_true, if_false, ea, eb, ec, ed, Bool.not_false, Bool.not_true]
          exact id rfl
        · cases h
theorem init_ref {l lo r h : Int} (h0 : r < l ∨ h < lo) (A : AH) : F_Box_init [.int l, .int lo, .int r, .int h] A = .exc 2 [("part", .str (if r < l then "right" else "high"))] A := by
  unfold F_Box_init
  rw [run_I (by rfl)]
  unfold B_Box_init
  by_cases h1 : r < l
  · rw [if_pos h1]
    have d1 := decide_eq_true h1
    simp only [xp_bind, rb_ok, rb_exc, rb_no, xp_ret, xp_oS, xp_oN, xp_c, xp_v, xp_b, xp_val, xp_op, xp_opw, xp_rd2, xp_rd1, xp_test, xp_ite, xp_and, xp_or, xp_not, xp_andV, xp_orV, xp_notV, xp_onB, xp_if, xp_un, xp_chain, xp_nil, xp_cons, xp_lst, xp_tup, xp_noP, xp_part, xp_sl, xp_1, xp_1W, xp_cbn, xp_is, xp_fld, xp_xf, xp_call, xp_callC, xp_calm, xp_callK, xp_callF, bk_ok, bk_exc, xp_prop, xp_isIns, xp_meth, xp_new, xp_newA, xp_lstC, xp_app, xp_isLst, xp_updS, xp_updR, rd_s, rd_ref, rd_non, rd_bl, rd_int, rd_str, rd_lst, rd_tup, rd_scr, rd_dct, rd_ins, rd_exv, xs_seq, sq_nx, sq_ret, sq_exc, as_E, ts_ok, ts_exc, as_next, as_ret, as_retN, as_do, as_set, as_if, as_ifS, as_for, as_forN, as_forC, fk_nx, fk_cnt, fk_brk, fk_ret, fk_exc, as_it, as_rng, as_asg, as_par, as_par2, as_setO, as_parO, as_parOK, as_ixSet, as_updK, as_fldSet, as_raise1, as_raise1', as_frzO, tf_nx, tf_ret, tf_exc, ti_exc, as_yes, xp_lcV, xp_lstO, xp_tupO, xp_lstCO, xp_lcRun, xp_lcEnd, xl_nil, xl_cons, xl_1, xl_1f, xl_2, ix_0, ix_1, ix_2, ix_3, to_addI, to_sub, to_le, to_gt, to_ge, to_lt, to_ixL, to_ixT, to_abs, to_int, to_intB, to_lenL, to_lenT, to_lenZ, to_isN, to_allL, to_eqI, to_neI, to_neInts, to_eqInts, to_put0, to_put1, to_put2, as_tryE, as_tryOk, as_tryX, as_keepX, xq_inO, xq_eqO, xq_neO, xq_binO, xq_eqNO, xq_eqN0, xq_eqN1, xq_strO, xq_isSame, xq_blK, xq_strK, xq_join, xq_strOv, xq_js, xq_jn, xq_jc, xq_fmt, xq_callN, xq_callN1, xq_listC, xq_parS, xq_cellT, xq_cellL, wipeT, putBack, tNm, tNo, tCn, tAny, Option.bind_some, startT, startI, List.map_cons, List.map_nil, List.length_cons, List.length_nil, List.cons_append, List.nil_append, List.append_nil, List.getElem?_cons_zero, List.getElem?_cons_succ, List.set_cons_zero, List.set_cons_succ, Nat.reduceAdd, Nat.reduceSub, Nat.reduceEqDiff, Nat.reduceLeDiff, Nat.reduceLT, List.length_append, List.replicate_zero, List.replicate_succ, cellD, blO, intO, itAny, ↓reduceIte, if_true, Bool.false_eq_true, if_false, isint_int, Bool.not_true, d1]
  · rw [if_neg h1]
    have d1 := decide_eq_false h1
    have d2 := decide_eq_true (show h < lo by omega)
    simp only [xp_bind, rb_ok, rb_exc, rb_no, xp_ret, xp_oS, xp_oN, xp_c, xp_v, xp_b, xp_val, xp_op, xp_opw, xp_rd2, xp_rd1, xp_test, xp_ite, xp_and, xp_or, xp_not, xp_andV, xp_orV, xp_notV, xp_onB, xp_if, xp_un, xp_chain, xp_nil, xp_cons, xp_lst, xp_tup, xp_noP, xp_part, xp_sl, xp_1, xp_1W, xp_cbn, xp_is, xp_fld, xp_xf, xp_call, xp_callC, xp_calm, xp_callK, xp_callF, bk_ok, bk_exc, xp_prop, xp_isIns, xp_meth, xp_new, xp_newA, xp_lstC, xp_app, xp_isLst, xp_updS, xp_updR, rd_s, rd_ref, rd_non, rd_bl, rd_int, rd_str, rd_lst, rd_tup, rd_scr, rd_dct, rd_ins, rd_exv, xs_seq, sq_nx, sq_ret, sq_exc, as_E, ts_ok, ts_exc, as_next, as_ret, as_retN, as_do, as_set, as_if, as_ifS, as_for, as_forN, as_forC, fk_nx, fk_cnt, fk_brk, fk_ret, fk_exc, as_it, as_rng, as_asg, as_par, as_par2, as_setO, as_parO, as_parOK, as_ixSet, as_updK, as_fldSet, as_raise1, as_raise1', as_frzO, tf_nx, tf_ret, tf_exc, ti_exc, as_yes, xp_lcV, xp_lstO, xp_tupO, xp_lstCO, xp_lcRun, xp_lcEnd, xl_nil, xl_cons, xl_1, xl_1f, xl_2, ix_0, ix_1, ix_2, ix_3, to_addI, to_sub, to_le, to_gt, to_ge, to_lt, to_ixL, to_ixT, to_abs, to_int, to_intB, to_lenL, to_lenT, to_lenZ, to_isN, to_allL, to_eqI, to_neI, to_neInts, to_eqInts, to_put0, to_put1, to_put2, as_tryE, as_tryOk, as_tryX, as_keepX, xq_inO, xq_eqO, xq_neO, xq_binO, xq_eqNO, xq_eqN0, xq_eqN1, xq_strO, xq_isSame, xq_blK, xq_strK, xq_join, xq_strOv, xq_js, xq_jn, xq_jc, xq_fmt, xq_callN, xq_callN1, xq_listC, xq_parS, xq_cellT, xq_cellL, wipeT, putBack, tNm, tNo, tCn, tAny, Option.bind_some, startT, startI, List.map_cons, List.map_nil, List.length_cons, List.length_nil, List.cons_append, List.nil_append, List.append_nil, List.getElem?_cons_zero, List.getElem?_cons_succ, List.set_cons_zero, List.set_cons_succ, Nat.reduceAdd, Nat.reduceSub, Nat.reduceEqDiff, Nat.reduceLeDiff, Nat.reduceLT, List.length_append, List.replicate_zero, List.replicate_succ, cellD, blO, intO, itAny, ↓reduceIte, if_true, Bool.false_eq_true, if_false, isint_int, Bool.not_true, d1, d2]
/-- what the first wrong one is called, by the comprehension -/
theorem bad_ok {a b c d : D} {pa pb pc pd : Bool} (ha : Io a pa) (hb : Io b pb) (hc : Io c pc) (hd : Io d pd) (h : (pa && (pb && (pc && pd))) = false) {s0 s2 s4 s5 s6 s7 s8 s9 s10 s11 s12 s13 : Sl} (A : AH) :
    ∃ xs, mLcV (mRng zipO (mCons (mV 3) (mCons (mV 1) mNil))) (tAny 2 (tCn (tNm 14) (tCn (tNm 15) tNo))) (mOr (mTest (mIs tabD.tab (.ty "bool") (mB 15))) (mNot (mTest (mIs tabD.tab (.ty "int") (mB 15))))) (mV 14) [14, 15]
      [s0, .val (.lst [a, b, c, d]), s2, .val (.lst wordsC), s4, s5, s6, s7, s8, s9, s10, s11, s12, s13, .no, .no] A = .ok (.lst (.str (wordC pa pb pc) :: xs)) [s0, .val (.lst [a, b, c, d]), s2, .val (.lst wordsC), s4, s5, s6, s7, s8, s9, s10, s11, s12, s13, .no, .no] A := by
  have ta := ha.tst
  have tb := hb.tst
  have tc := hc.tst
  have td := hd.tst
  have z : zipO [.lst wordsC, .lst [a, b, c, d]] = some [.tup [.str "left", a], .tup [.str "low", b], .tup [.str "right", c], .tup [.str "high", d]] := by kernel_rfl
  generalize (mOr (mTest (mIs tabD.tab (.ty "bool") (mB 15))) (mNot (mTest (mIs tabD.tab (.ty "int") (mB 15))))) = tt at *
  obtain ⟨pa', ja⟩ : ∃ p, p = pa := ⟨_, rfl⟩
  obtain ⟨pb', jb⟩ : ∃ p, p = pb := ⟨_, rfl⟩
  obtain ⟨pc', jc⟩ : ∃ p, p = pc := ⟨_, rfl⟩
  obtain ⟨pd', jd⟩ : ∃ p, p = pd := ⟨_, rfl⟩
  cases pa <;> cases pb <;> cases pc <;> cases pd <;> first
    | (cases h; done)
    | (refine ⟨((if pa' = true then [] else [D.str "left"]) ++ ((if pb' = true then [] else [D.str "low"]) ++ ((if pc' = true then [] else [D.str "right"]) ++ (if pd' = true then [] else [D.str "high"])))).tail, ?_⟩
       subst ja jb jc jd
       simp only [xp_bind, rb_ok, rb_exc, rb_no, xp_ret, xp_oS, xp_oN, xp_c, xp_v, xp_b, xp_val, xp_op, xp_opw, xp_rd2, xp_rd1, xp_test, xp_ite, xp_and, xp_or, xp_not, xp_andV, xp_orV, xp_notV, xp_onB, xp_if, xp_un, xp_chain, xp_nil, xp_cons, xp_lst, xp_tup, xp_noP, xp_part, xp_sl, xp_1, xp_1W, xp_cbn, xp_is, xp_fld, xp_xf, xp_call, xp_callC, xp_calm, xp_callK, xp_callF, bk_ok, bk_exc, xp_prop, xp_isIns, xp_meth, xp_new, xp_newA, xp_lstC, xp_app, xp_isLst, xp_updS, xp_updR, rd_s, rd_ref, rd_non, rd_bl, rd_int, rd_str, rd_lst, rd_tup, rd_scr, rd_dct, rd_ins, rd_exv, xs_seq, sq_nx, sq_ret, sq_exc, as_E, ts_ok, ts_exc, as_next, as_ret, as_retN, as_do, as_set, as_if, as_ifS, as_for, as_forN, as_forC, fk_nx, fk_cnt, fk_brk, fk_ret, fk_exc, as_it, as_rng, as_asg, as_par, as_par2, as_setO, as_parO, as_parOK, as_ixSet, as_updK, as_fldSet, as_raise1, as_raise1', as_frzO, tf_nx, tf_ret, tf_exc, ti_exc, as_yes, xp_lcV, xp_lstO, xp_tupO, xp_lstCO, xp_lcRun, xp_lcEnd, xl_nil, xl_cons, xl_1, xl_1f, xl_2, ix_0, ix_1, ix_2, ix_3, to_addI, to_sub, to_le, to_gt, to_ge, to_lt, to_ixL, to_ixT, to_abs, to_int, to_intB, to_lenL, to_lenT, to_lenZ, to_isN, to_allL, to_eqI, to_neI, to_neInts, to_eqInts, to_put0, to_put1, to_put2, as_tryE, as_tryOk, as_tryX, as_keepX, xq_inO, xq_eqO, xq_neO, xq_binO, xq_eqNO, xq_eqN0, xq_eqN1, xq_strO, xq_isSame, xq_blK, xq_strK, xq_join, xq_strOv, xq_js, xq_jn, xq_jc, xq_fmt, xq_callN, xq_callN1, xq_listC, xq_parS, xq_cellT, xq_cellL, wipeT, putBack, tNm, tNo, tCn, tAny, Option.bind_some, startT, startI, List.map_cons, List.map_nil, List.length_cons, List.length_nil, List.cons_append, List.nil_append, List.append_nil, List.getElem?_cons_zero, List.getElem?_cons_succ, List.set_cons_zero, List.set_cons_succ, Nat.reduceAdd, Nat.reduceSub, Nat.reduceEqDiff, Nat.reduceLeDiff, Nat.reduceLT, List.length_append, List.replicate_zero, List.replicate_succ, cellD, blO, intO, itAny, ↓reduceIte, if_true, Bool.false_eq_true, if_false, z, ta, tb, tc, td, Bool.not_true, Bool.not_false]
       exact id rfl)
/-- corners, some of them odd -/
structure St (n : Nat) (a b c d : D) (pa pb pc pd : Bool) : Prop where
  a : Io a pa
  b : Io b pb
  c : Io c pc
  d : Io d pd
  h : 1 ≤ n → (pa && (pb && (pc && pd))) = false
def bodyO : Ms := (mIxSet (mCall F__law_pick [] (mCons (mV 0) (mCons (mV 2) mNil))) (mB 1) (mCall F__law_draw [] (mCons (mV 0) (mCons (mC (.int 4)) mNil))))
abbrev Γo (a b c d : D) (s4 : Sl) : SG := [.val (.ref 6), .own (.lst [a, b, c, d]), .val (.lst oddC), .val (.lst wordsC), s4, .no, .no, .no, .no, .no, .no, .no, .no, .no, .no, .no]
theorem stepO {b n : Nat} {q : Q} {a0 b0 c0 d0 : D} {pa pb pc pd : Bool} {s4 : Sl} (hq : OkQ b q) (hb : b ≤ 1000000) (h : St n a0 b0 c0 d0 pa pb pc pd) :
    ∃ a1 b1 c1 d1 p1 p2 p3 p4 q', bodyO (Γo a0 b0 c0 d0 s4) (PA 6 q) = .nx (Γo a1 b1 c1 d1 s4) (PA 6 q') ∧ St (n + 1) a1 b1 c1 d1 p1 p2 p3 p4 ∧ OkQ (b + 2) q' := by
  obtain ⟨d, q1, e1, w, hq1⟩ := pick_ok hq (by omega) (by decide) (by decide) io_odd
  obtain ⟨v, q2, e2, v0, v1, hq2⟩ := draw_ok (many := 4) hq1 (by omega) (by decide) (by decide)
  unfold bodyO
  rcases (show v = 0 ∨ v = 1 ∨ v = 2 ∨ v = 3 by omega) with rfl | rfl | rfl | rfl
  · refine ⟨d, b0, c0, d0, false, pb, pc, pd, q2, ?_, ⟨w, h.b, h.c, h.d, fun _ => by simp⟩, hq2⟩
    simp only [xp_bind, rb_ok, rb_exc, rb_no, xp_ret, xp_oS, xp_oN, xp_c, xp_v, xp_b, xp_val, xp_op, xp_opw, xp_rd2, xp_rd1, xp_test, xp_ite, xp_and, xp_or, xp_not, xp_andV, xp_orV, xp_notV, xp_onB, xp_if, xp_un, xp_chain, xp_nil, xp_cons, xp_lst, xp_tup, xp_noP, xp_part, xp_sl, xp_1, xp_1W, xp_cbn, xp_is, xp_fld, xp_xf, xp_call, xp_callC, xp_calm, xp_callK, xp_callF, bk_ok, bk_exc, xp_prop, xp_isIns, xp_meth, xp_new, xp_newA, xp_lstC, xp_app, xp_isLst, xp_updS, xp_updR, rd_s, rd_ref, rd_non, rd_bl, rd_int, rd_str, rd_lst, rd_tup, rd_scr, rd_dct, rd_ins, rd_exv, xs_seq, sq_nx, sq_ret, sq_exc, as_E, ts_ok, ts_exc, as_next, as_ret, as_retN, as_do, as_set, as_if, as_ifS, as_for, as_forN, as_forC, fk_nx, fk_cnt, fk_brk, fk_ret, fk_exc, as_it, as_rng, as_asg, as_par, as_par2, as_setO, as_parO, as_parOK, as_ixSet, as_updK, as_fldSet, as_raise1, as_raise1', as_frzO, tf_nx, tf_ret, tf_exc, ti_exc, as_yes, xp_lcV, xp_lstO, xp_tupO, xp_lstCO, xp_lcRun, xp_lcEnd, xl_nil, xl_cons, xl_1, xl_1f, xl_2, ix_0, ix_1, ix_2, ix_3, to_addI, to_sub, to_le, to_gt, to_ge, to_lt, to_ixL, to_ixT, to_abs, to_int, to_intB, to_lenL, to_lenT, to_lenZ, to_isN, to_allL, to_eqI, to_neI, to_neInts, to_eqInts, to_put0, to_put1, to_put2, as_tryE, as_tryOk, as_tryX, as_keepX, xq_inO, xq_eqO, xq_neO, xq_binO, xq_eqNO, xq_eqN0, xq_eqN1, xq_strO, xq_isSame, xq_blK, xq_strK, xq_join, xq_strOv, xq_js, xq_jn, xq_jc, xq_fmt, xq_callN, xq_callN1, xq_listC, xq_parS, xq_cellT, xq_cellL, wipeT, putBack, tNm, tNo, tCn, tAny, Option.bind_some, startT, startI, List.map_cons, List.map_nil, List.length_cons, List.length_nil, List.cons_append, List.nil_append, List.append_nil, List.getElem?_cons_zero, List.getElem?_cons_succ, List.set_cons_zero, List.set_cons_succ, Nat.reduceAdd, Nat.reduceSub, Nat.reduceEqDiff, Nat.reduceLeDiff, Nat.reduceLT, List.length_append, List.replicate_zero, List.replicate_succ, cellD, blO, intO, itAny, ↓reduceIte, if_true, Bool.false_eq_true, if_false, e1, e2]
  · refine ⟨a0, d, c0, d0, pa, false, pc, pd, q2, ?_, ⟨h.a, w, h.c, h.d, fun _ => by simp⟩, hq2⟩
    simp only [xp_bind, rb_ok, rb_exc, rb_no, xp_ret, xp_oS, xp_oN, xp_c, xp_v, xp_b, xp_val, xp_op, xp_opw, xp_rd2, xp_rd1, xp_test, xp_ite, xp_and, xp_or, xp_not, xp_andV, xp_orV, xp_notV, xp_onB, xp_if, xp_un, xp_chain, xp_nil, xp_cons, xp_lst, xp_tup, xp_noP, xp_part, xp_sl, xp_1, xp_1W, xp_cbn, xp_is, xp_fld, xp_xf, xp_call, xp_callC, xp_calm, xp_callK, xp_callF, bk_ok, bk_exc, xp_prop, xp_isIns, xp_meth, xp_new, xp_newA, xp_lstC, xp_app, xp_isLst, xp_updS, xp_updR, rd_s, rd_ref, rd_non, rd_bl, rd_int, rd_str, rd_lst, rd_tup, rd_scr, rd_dct, rd_ins, rd_exv, xs_seq, sq_nx, sq_ret, sq_exc, as_E, ts_ok, ts_exc, as_next, as_ret, as_retN, as_do, as_set, as_if, as_ifS, as_for, as_forN, as_forC, fk_nx, fk_cnt, fk_brk, fk_ret, fk_exc, as_it, as_rng, as_asg, as_par, as_par2, as_setO, as_parO, as_parOK, as_ixSet, as_updK, as_fldSet, as_raise1, as_raise1', as_frzO, tf_nx, tf_ret, tf_exc, ti_exc, as_yes, xp_lcV, xp_lstO, xp_tupO, xp_lstCO, xp_lcRun, xp_lcEnd, xl_nil, xl_cons, xl_1, xl_1f, xl_2, ix_0, ix_1, ix_2, ix_3, to_addI, to_sub, to_le, to_gt, to_ge, to_lt, to_ixL, to_ixT, to_abs, to_int, to_intB, to_lenL, to_lenT, to_lenZ, to_isN, to_allL, to_eqI, to_neI, to_neInts, to_eqInts, to_put0, to_put1, to_put2, as_tryE, as_tryOk, as_tryX, as_keepX, xq_inO, xq_eqO, xq_neO, xq_binO, xq_eqNO, xq_eqN0, xq_eqN1, xq_strO, xq_isSame, xq_blK, xq_strK, xq_join, xq_strOv, xq_js, xq_jn, xq_jc, xq_fmt, xq_callN, xq_callN1, xq_listC, xq_parS, xq_cellT, xq_cellL, wipeT, putBack, tNm, tNo, tCn, tAny, Option.bind_some, startT, startI, List.map_cons, List.map_nil, List.length_cons, List.length_nil, List.cons_append, List.nil_append, List.append_nil, List.getElem?_cons_zero, List.getElem?_cons_succ, List.set_cons_zero, List.set_cons_succ, Nat.reduceAdd, Nat.reduceSub, Nat.reduceEqDiff, Nat.reduceLeDiff, Nat.reduceLT, List.length_append, List.replicate_zero, List.replicate_succ, cellD, blO, intO, itAny, ↓reduceIte, if_true, Bool.false_eq_true, if_false, e1, e2]
  · refine ⟨a0, b0, d, d0, pa, pb, false, pd, q2, ?_, ⟨h.a, h.b, w, h.d, fun _ => by simp⟩, hq2⟩
    simp only [xp_bind, rb_ok, rb_exc, rb_no, xp_ret, xp_oS, xp_oN, xp_c, xp_v, xp_b, xp_val, xp_op, xp_opw, xp_rd2, xp_rd1, xp_test, xp_ite, xp_and, xp_or, xp_not, xp_andV, xp_orV, xp_notV, xp_onB, xp_if, xp_un, xp_chain, xp_nil, xp_cons, xp_lst, xp_tup, xp_noP, xp_part, xp_sl, xp_1, xp_1W, xp_cbn, xp_is, xp_fld, xp_xf, xp_call, xp_callC, xp_calm, xp_callK, xp_callF, bk_ok, bk_exc, xp_prop, xp_isIns, xp_meth, xp_new, xp_newA, xp_lstC, xp_app, xp_isLst, xp_updS, xp_updR, rd_s, rd_ref, rd_non, rd_bl, rd_int, rd_str, rd_lst, rd_tup, rd_scr, rd_dct, rd_ins, rd_exv, xs_seq, sq_nx, sq_ret, sq_exc, as_E, ts_ok, ts_exc, as_next, as_ret, as_retN, as_do, as_set, as_if, as_ifS, as_for, as_forN, as_forC, fk_nx, fk_cnt, fk_brk, fk_ret, fk_exc, as_it, as_rng, as_asg, as_par, as_par2, as_setO, as_parO, as_parOK, as_ixSet, as_updK, as_fldSet, as_raise1, as_raise1', as_frzO, tf_nx, tf_ret, tf_exc, ti_exc, as_yes, xp_lcV, xp_lstO, xp_tupO, xp_lstCO, xp_lcRun, xp_lcEnd, xl_nil, xl_cons, xl_1, xl_1f, xl_2, ix_0, ix_1, ix_2, ix_3, to_addI, to_sub, to_le, to_gt, to_ge, to_lt, to_ixL, to_ixT, to_abs, to_int, to_intB, to_lenL, to_lenT, to_lenZ, to_isN, to_allL, to_eqI, to_neI, to_neInts, to_eqInts, to_put0, to_put1, to_put2, as_tryE, as_tryOk, as_tryX, as_keepX, xq_inO, xq_eqO, xq_neO, xq_binO, xq_eqNO, xq_eqN0, xq_eqN1, xq_strO, xq_isSame, xq_blK, xq_strK, xq_join, xq_strOv, xq_js, xq_jn, xq_jc, xq_fmt, xq_callN, xq_callN1, xq_listC, xq_parS, xq_cellT, xq_cellL, wipeT, putBack, tNm, tNo, tCn, tAny, Option.bind_some, startT, startI, List.map_cons, List.map_nil, List.length_cons, List.length_nil, List.cons_append, List.nil_append, List.append_nil, List.getElem?_cons_zero, List.getElem?_cons_succ, List.set_cons_zero, List.set_cons_succ, Nat.reduceAdd, Nat.reduceSub, Nat.reduceEqDiff, Nat.reduceLeDiff, Nat.reduceLT, List.length_append, List.replicate_zero, List.replicate_succ, cellD, blO, intO, itAny, ↓reduceIte, if_true, Bool.false_eq_true, if_false, e1, e2]
  · refine ⟨a0, b0, c0, d, pa, pb, pc, false, q2, ?_, ⟨h.a, h.b, h.c, w, fun _ => by simp⟩, hq2⟩
    simp only [xp_bind, rb_ok, rb_exc, rb_no, xp_ret, xp_oS, xp_oN, xp_c, xp_v, xp_b, xp_val, xp_op, xp_opw, xp_rd2, xp_rd1, xp_test, xp_ite, xp_and, xp_or, xp_not, xp_andV, xp_orV, xp_notV, xp_onB, xp_if, xp_un, xp_chain, xp_nil, xp_cons, xp_lst, xp_tup, xp_noP, xp_part, xp_sl, xp_1, xp_1W, xp_cbn, xp_is, xp_fld, xp_xf, xp_call, xp_callC, xp_calm, xp_callK, xp_callF, bk_ok, bk_exc, xp_prop, xp_isIns, xp_meth, xp_new, xp_newA, xp_lstC, xp_app, xp_isLst, xp_updS, xp_updR, rd_s, rd_ref, rd_non, rd_bl, rd_int, rd_str, rd_lst, rd_tup, rd_scr, rd_dct, rd_ins, rd_exv, xs_seq, sq_nx, sq_ret, sq_exc, as_E, ts_ok, ts_exc, as_next, as_ret, as_retN, as_do, as_set, as_if, as_ifS, as_for, as_forN, as_forC, fk_nx, fk_cnt, fk_brk, fk_ret, fk_exc, as_it, as_rng, as_asg, as_par, as_par2, as_setO, as_parO, as_parOK, as_ixSet, as_updK, as_fldSet, as_raise1, as_raise1', as_frzO, tf_nx, tf_ret, tf_exc, ti_exc, as_yes, xp_lcV, xp_lstO, xp_tupO, xp_lstCO, xp_lcRun, xp_lcEnd, xl_nil, xl_cons, xl_1, xl_1f, xl_2, ix_0, ix_1, ix_2, ix_3, to_addI, to_sub, to_le, to_gt, to_ge, to_lt, to_ixL, to_ixT, to_abs, to_int, to_intB, to_lenL, to_lenT, to_lenZ, to_isN, to_allL, to_eqI, to_neI, to_neInts, to_eqInts, to_put0, to_put1, to_put2, as_tryE, as_tryOk, as_tryX, as_keepX, xq_inO, xq_eqO, xq_neO, xq_binO, xq_eqNO, xq_eqN0, xq_eqN1, xq_strO, xq_isSame, xq_blK, xq_strK, xq_join, xq_strOv, xq_js, xq_jn, xq_jc, xq_fmt, xq_callN, xq_callN1, xq_listC, xq_parS, xq_cellT, xq_cellL, wipeT, putBack, tNm, tNo, tCn, tAny, Option.bind_some, startT, startI, List.map_cons, List.map_nil, List.length_cons, List.length_nil, List.cons_append, List.nil_append, List.append_nil, List.getElem?_cons_zero, List.getElem?_cons_succ, List.set_cons_zero, List.set_cons_succ, Nat.reduceAdd, Nat.reduceSub, Nat.reduceEqDiff, Nat.reduceLeDiff, Nat.reduceLT, List.length_append, List.replicate_zero, List.replicate_succ, cellD, blO, intO, itAny, ↓reduceIte, if_true, Bool.false_eq_true, if_false, e1, e2, to_put3]
theorem is_2 {fs : List (Str × D)} : tIs tabD.tab (.ref 2) (.exv 2 fs) = some (.bl true) := by kernel_rfl
theorem is_134 {fs : List (Str × D)} : tIs tabD.tab (.tup [.ref 1, .ref 3, .ref 4]) (.exv 2 fs) = some (.bl false) := by kernel_rfl
theorem em_2 : emOf em_BoardError 2 = some true := by kernel_rfl
theorem xf_2 {s : Str} : tXf [2] "part" (.exv 2 [("part", .str s)]) = some (.str s) := by kernel_rfl
theorem rd_exv {c : Nat} {fs : List (Str × D)} {Γ : SG} {A : AH} : rdO (.v (.exv c fs)) Γ A = some (.exv c fs) := id rfl
theorem neS_self {pa pb pc : Bool} : tEq true (.str (wordC pa pb pc)) (.str (wordC pa pb pc)) = some (.bl false) := by
  cases pa <;> cases pb <;> cases pc <;> kernel_rfl
theorem rng_1 {v : Int} (h0 : 0 ≤ v) (h1 : v < 2) : ∃ is, rng1 [.int (1 + v)] = some is ∧ 1 ≤ is.length ∧ is.length ≤ 2 := by
  rcases (show v = 0 ∨ v = 1 by omega) with rfl | rfl
  · exact ⟨[.int 0], by kernel_rfl, by decide, by decide⟩
  · exact ⟨[.int 0, .int 1], by kernel_rfl, by decide, by decide⟩
theorem refused_ok {b : Nat} {q : Q} (hq : OkQ b q) (hb : b ≤ 900000) : ∃ q', F__law_refused [.ref 6] (PA 6 q) = .ok (.bl true) (PA 6 q') ∧ OkQ (b + 15) q' := by
  obtain ⟨l, lo, r, h, q1, e1, S1, hq1⟩ := corners_ok hq (by omega)
  obtain ⟨v, q2, e2, v0, v1, hq2⟩ := draw_ok (many := 2) hq1 (by omega) (by decide) (by decide)
  obtain ⟨is, er, l1, l2⟩ := rng_1 v0 v1
  have L := for_run (t := tNm 4) (b := bodyO) (E := fun _ => False) (J := fun n Γ A => ∃ a0 b0 c0 d0 pa pb pc pd s4 q', Γ = Γo a0 b0 c0 d0 s4 ∧ A = PA 6 q' ∧ OkQ (b + 5 + 2 * n) q' ∧ St n a0 b0 c0 d0 pa pb pc pd) is 0 (Γo (.int l) (.int lo) (.int r) (.int h) .no) (PA 6 q2)
    ⟨_, _, _, _, true, true, true, true, _, q2, rfl, rfl, hq2, ⟨io_int _, io_int _, io_int _, io_int _, fun z => by omega⟩⟩ (fun i x hx Γ A hJ => by
      obtain ⟨a0, b0, c0, d0, pa, pb, pc, pd, s4, q3, rfl, rfl, hq3, hs⟩ := hJ
      rw [Nat.zero_add] at hq3 hs
      have hi : i < is.length := (List.getElem?_eq_some_iff.mp hx).1
      obtain ⟨a1, b1, c1, d1, p1, p2, p3, p4, q4, e4, hs4, hq4⟩ := stepO (s4 := .val x) hq3 (by omega) hs
      refine ⟨_, rfl, .inl ⟨_, _, e4, a1, b1, c1, d1, p1, p2, p3, p4, _, q4, rfl, rfl, hq4.le (by omega), ?_⟩⟩
      rw [Nat.zero_add]
      exact hs4)
  rcases L with ⟨Γ', A', eL, a0, b0, c0, d0, pa, pb, pc, pd, s4, q3, rfl, rfl, hq3, hs⟩ | L
  · rw [Nat.zero_add] at hq3 hs
    have hbad := hs.h l1
    have tb := init_bad hs.a hs.b hs.c hs.d hbad
    obtain ⟨bad, eb⟩ := bad_ok hs.a hs.b hs.c hs.d hbad (s0 := .val (.ref 6)) (s2 := .val (.lst oddC)) (s4 := s4) (s5 := .val (.exv 2 [("part", .str (wordC pa pb pc))])) (s6 := .no) (s7 := .no) (s8 := .no) (s9 := .no) (s10 := .no) (s11 := .no) (s12 := .no) (s13 := .no) (PA 6 q3)
    have ns := neS_self (pa := pa) (pb := pb) (pc := pc)
    obtain ⟨l', lo', r', h', q4, e4, S4, hq4⟩ := corners_ok hq3 (by omega)
    obtain ⟨w, q5, e5, w0, w1, hq5⟩ := draw_ok (many := 2) hq4 (by omega) (by decide) (by decide)
    obtain ⟨u, q6, e6, u0, u1, hq6⟩ := draw_ok (many := 2) hq5 (by omega) (by decide) (by decide)
    have bxC : ∀ A, F__law_box [.lst [a0, b0, c0, d0]] A = .exc 2 [("part", .str (wordC pa pb pc))] A := fun A => by
      unfold F__law_box
      rw [run_F (by rfl)]
      unfold B__law_box
      simp only [xp_bind, rb_ok, rb_exc, rb_no, xp_ret, xp_oS, xp_oN, xp_c, xp_v, xp_b, xp_val, xp_op, xp_opw, xp_rd2, xp_rd1, xp_test, xp_ite, xp_and, xp_or, xp_not, xp_andV, xp_orV, xp_notV, xp_onB, xp_if, xp_un, xp_chain, xp_nil, xp_cons, xp_lst, xp_tup, xp_noP, xp_part, xp_sl, xp_1, xp_1W, xp_cbn, xp_is, xp_fld, xp_xf, xp_call, xp_callC, xp_calm, xp_callK, xp_callF, bk_ok, bk_exc, xp_prop, xp_isIns, xp_meth, xp_new, xp_newA, xp_lstC, xp_app, xp_isLst, xp_updS, xp_updR, rd_s, rd_ref, rd_non, rd_bl, rd_int, rd_str, rd_lst, rd_tup, rd_scr, rd_dct, rd_ins, rd_exv, xs_seq, sq_nx, sq_ret, sq_exc, as_E, ts_ok, ts_exc, as_next, as_ret, as_retN, as_do, as_set, as_if, as_ifS, as_for, as_forN, as_forC, fk_nx, fk_cnt, fk_brk, fk_ret, fk_exc, as_it, as_rng, as_asg, as_par, as_par2, as_setO, as_parO, as_parOK, as_ixSet, as_updK, as_fldSet, as_raise1, as_raise1', as_frzO, tf_nx, tf_ret, tf_exc, ti_exc, as_yes, xp_lcV, xp_lstO, xp_tupO, xp_lstCO, xp_lcRun, xp_lcEnd, xl_nil, xl_cons, xl_1, xl_1f, xl_2, ix_0, ix_1, ix_2, ix_3, to_addI, to_sub, to_le, to_gt, to_ge, to_lt, to_ixL, to_ixT, to_abs, to_int, to_intB, to_lenL, to_lenT, to_lenZ, to_isN, to_allL, to_eqI, to_neI, to_neInts, to_eqInts, to_put0, to_put1, to_put2, as_tryE, as_tryOk, as_tryX, as_keepX, xq_inO, xq_eqO, xq_neO, xq_binO, xq_eqNO, xq_eqN0, xq_eqN1, xq_strO, xq_isSame, xq_blK, xq_strK, xq_join, xq_strOv, xq_js, xq_jn, xq_jc, xq_fmt, xq_callN, xq_callN1, xq_listC, xq_parS, xq_cellT, xq_cellL, wipeT, putBack, tNm, tNo, tCn, tAny, Option.bind_some, startT, startI, List.map_cons, List.map_nil, List.length_cons, List.length_nil, List.cons_append, List.nil_append, List.append_nil, List.getElem?_cons_zero, List.getElem?_cons_succ, List.set_cons_zero, List.set_cons_succ, Nat.reduceAdd, Nat.reduceSub, Nat.reduceEqDiff, Nat.reduceLeDiff, Nat.reduceLT, List.length_append, List.replicate_zero, List.replicate_succ, cellD, blO, intO, itAny, ↓reduceIte, if_true, Bool.false_eq_true, if_false, tb]
    generalize wordC pa pb pc = wd at *
    refine ⟨q6, ?_, hq6.le (by omega)⟩
    unfold F__law_refused
    rw [run_F (by rfl)]
    unfold B__law_refused
    unfold bodyO at eL
    have p20 := p_20
    generalize mLcV (mRng zipO (mCons (mV 3) (mCons (mV 1) mNil))) (tAny 2 (tCn (tNm 14) (tCn (tNm 15) tNo))) (mOr (mTest (mIs tabD.tab (.ty "bool") (mB 15))) (mNot (mTest (mIs tabD.tab (.ty "int") (mB 15))))) (mV 14) [14, 15] = LC at eb ⊢
    rcases (show w = 0 ∨ w = 1 by omega) with rfl | rfl
    · have tr := fun A => init_ref (l := l') (lo := lo') (r := l' - 1) (h := if (decide ((0 : Int) = 1) || decide (u = 0)) = true then lo' - 100000000000000000000 else h') (.inl (by omega)) A
      rw [if_pos (show l' - 1 < l' by omega)] at tr
      have dz : decide ((0 : Int) = 1) = false := rfl
      have dy : decide ((0 : Int) = 0) = true := rfl
      have fin : tEq false (.str "right") (.str "right") = some (.bl true) := by kernel_rfl
      cases qu : decide (u = 0) <;> rw [qu, dz] at tr <;> simp only [Bool.false_or, Bool.false_eq_true, if_true, if_false, ↓reduceIte] at tr <;> simp only [xp_bind, rb_ok, rb_exc, rb_no, xp_ret, xp_oS, xp_oN, xp_c, xp_v, xp_b, xp_val, xp_op, xp_opw, xp_rd2, xp_rd1, xp_test, xp_ite, xp_and, xp_or, xp_not, xp_andV, xp_orV, xp_notV, xp_onB, xp_if, xp_un, xp_chain, xp_nil, xp_cons, xp_lst, xp_tup, xp_noP, xp_part, xp_sl, xp_1, xp_1W, xp_cbn, xp_is, xp_fld, xp_xf, xp_call, xp_callC, xp_calm, xp_callK, xp_callF, bk_ok, bk_exc, xp_prop, xp_isIns, xp_meth, xp_new, xp_newA, xp_lstC, xp_app, xp_isLst, xp_updS, xp_updR, rd_s, rd_ref, rd_non, rd_bl, rd_int, rd_str, rd_lst, rd_tup, rd_scr, rd_dct, rd_ins, rd_exv, xs_seq, sq_nx, sq_ret, sq_exc, as_E, ts_ok, ts_exc, as_next, as_ret, as_retN, as_do, as_set, as_if, as_ifS, as_for, as_forN, as_forC, fk_nx, fk_cnt, fk_brk, fk_ret, fk_exc, as_it, as_rng, as_asg, as_par, as_par2, as_setO, as_parO, as_parOK, as_ixSet, as_updK, as_fldSet, as_raise1, as_raise1', as_frzO, tf_nx, tf_ret, tf_exc, ti_exc, as_yes, xp_lcV, xp_lstO, xp_tupO, xp_lstCO, xp_lcRun, xp_lcEnd, xl_nil, xl_cons, xl_1, xl_1f, xl_2, ix_0, ix_1, ix_2, ix_3, to_addI, to_sub, to_le, to_gt, to_ge, to_lt, to_ixL, to_ixT, to_abs, to_int, to_intB, to_lenL, to_lenT, to_lenZ, to_isN, to_allL, to_eqI, to_neI, to_neInts, to_eqInts, to_put0, to_put1, to_put2, as_tryE, as_tryOk, as_tryX, as_keepX, xq_inO, xq_eqO, xq_neO, xq_binO, xq_eqNO, xq_eqN0, xq_eqN1, xq_strO, xq_isSame, xq_blK, xq_strK, xq_join, xq_strOv, xq_js, xq_jn, xq_jc, xq_fmt, xq_callN, xq_callN1, xq_listC, xq_parS, xq_cellT, xq_cellL, wipeT, putBack, tNm, tNo, tCn, tAny, Option.bind_some, startT, startI, List.map_cons, List.map_nil, List.length_cons, List.length_nil, List.cons_append, List.nil_append, List.append_nil, List.getElem?_cons_zero, List.getElem?_cons_succ, List.set_cons_zero, List.set_cons_succ, Nat.reduceAdd, Nat.reduceSub, Nat.reduceEqDiff, Nat.reduceLeDiff, Nat.reduceLT, List.length_append, List.replicate_zero, List.replicate_succ, cellD, blO, intO, itAny, ↓reduceIte, if_true, Bool.false_eq_true, if_false, e1, e2, er, eL, bxC, eb, ns, is_2, is_134, em_2, xf_2, rd_exv, e4, e5, e6, p20, qu, dz, dy, Bool.false_or, Bool.or_true, Bool.or_false, tr, fin, Bool.not_true, decide_true, decide_false]
    · have tr := fun A => init_ref (l := l') (lo := lo') (r := r') (h := lo' - 100000000000000000000) (.inr (by omega)) A
      rw [if_neg (show ¬ r' < l' by have := S4.kr; omega)] at tr
      have dz : decide ((1 : Int) = 1) = true := rfl
      have dy : decide ((1 : Int) = 0) = false := rfl
      have fin : tEq false (.str "high") (.str "high") = some (.bl true) := by kernel_rfl
      simp only [xp_bind, rb_ok, rb_exc, rb_no, xp_ret, xp_oS, xp_oN, xp_c, xp_v, xp_b, xp_val, xp_op, xp_opw, xp_rd2, xp_rd1, xp_test, xp_ite, xp_and, xp_or, xp_not, xp_andV, xp_orV, xp_notV, xp_onB, xp_if, xp_un, xp_chain, xp_nil, xp_cons, xp_lst, xp_tup, xp_noP, xp_part, xp_sl, xp_1, xp_1W, xp_cbn, xp_is, xp_fld, xp_xf, xp_call, xp_callC, xp_calm, xp_callK, xp_callF, bk_ok, bk_exc, xp_prop, xp_isIns, xp_meth, xp_new, xp_newA, xp_lstC, xp_app, xp_isLst, xp_updS, xp_updR, rd_s, rd_ref, rd_non, rd_bl, rd_int, rd_str, rd_lst, rd_tup, rd_scr, rd_dct, rd_ins, rd_exv, xs_seq, sq_nx, sq_ret, sq_exc, as_E, ts_ok, ts_exc, as_next, as_ret, as_retN, as_do, as_set, as_if, as_ifS, as_for, as_forN, as_forC, fk_nx, fk_cnt, fk_brk, fk_ret, fk_exc, as_it, as_rng, as_asg, as_par, as_par2, as_setO, as_parO, as_parOK, as_ixSet, as_updK, as_fldSet, as_raise1, as_raise1', as_frzO, tf_nx, tf_ret, tf_exc, ti_exc, as_yes, xp_lcV, xp_lstO, xp_tupO, xp_lstCO, xp_lcRun, xp_lcEnd, xl_nil, xl_cons, xl_1, xl_1f, xl_2, ix_0, ix_1, ix_2, ix_3, to_addI, to_sub, to_le, to_gt, to_ge, to_lt, to_ixL, to_ixT, to_abs, to_int, to_intB, to_lenL, to_lenT, to_lenZ, to_isN, to_allL, to_eqI, to_neI, to_neInts, to_eqInts, to_put0, to_put1, to_put2, as_tryE, as_tryOk, as_tryX, as_keepX, xq_inO, xq_eqO, xq_neO, xq_binO, xq_eqNO, xq_eqN0, xq_eqN1, xq_strO, xq_isSame, xq_blK, xq_strK, xq_join, xq_strOv, xq_js, xq_jn, xq_jc, xq_fmt, xq_callN, xq_callN1, xq_listC, xq_parS, xq_cellT, xq_cellL, wipeT, putBack, tNm, tNo, tCn, tAny, Option.bind_some, startT, startI, List.map_cons, List.map_nil, List.length_cons, List.length_nil, List.cons_append, List.nil_append, List.append_nil, List.getElem?_cons_zero, List.getElem?_cons_succ, List.set_cons_zero, List.set_cons_succ, Nat.reduceAdd, Nat.reduceSub, Nat.reduceEqDiff, Nat.reduceLeDiff, Nat.reduceLT, List.length_append, List.replicate_zero, List.replicate_succ, cellD, blO, intO, itAny, ↓reduceIte, if_true, Bool.false_eq_true, if_false, e1, e2, er, eL, bxC, eb, ns, is_2, is_134, em_2, xf_2, rd_exv, e4, e5, e6, p20, dz, dy, tr, fin, Bool.not_true, decide_true, decide_false]
  · exact L.elim
end Loneboard_k48_boxes

set_option Elab.async false
set_option linter.all false
set_option maxRecDepth 100000
set_option maxHeartbeats 4000000
/-! k48: the law. -/
namespace Loneboard_k48_boxes
open PySem Fl
open Dl (D Cell eqOk eqD flatD inD rngD putD)
theorem law_true (ns : List Int) (hl : ns.length ≤ 63) : ∃ A', F_law [.scr ns] (List.replicate nmL.length none) = .ok (.bl true) A' := by
  have p := pen_ok hl
  have hq0 : OkQ 0 ⟨ns, 0, 0⟩ := ⟨Int.le_refl _, Int.le_refl _, Int.le_refl _⟩
  have L := for_run (t := tNm 2) (b := (mIfS (mOr (mNot (mTest (mCall F__law_small_right [] (mCons (mV 1) mNil)))) (mOr (mNot (mTest (mCall F__law_far_right [] (mCons (mV 1) mNil)))) (mNot (mTest (mCall F__law_refused [] (mCons (mV 1) mNil))))))
  (mRetV (mC (.bl false)))
  mNext)) (E := fun _ => False) (J := fun n Γ A => ∃ s2 q', Γ = [.val (.scr ns), .val (.ref 6), s2] ∧ A = PA 6 q' ∧ OkQ (28 * n) q') (rngD 0 3) 0 [.val (.scr ns), .val (.ref 6), .no] (PA 6 ⟨ns, 0, 0⟩) ⟨_, _, rfl, rfl, hq0⟩ (fun i x hx Γ A hJ => by
      obtain ⟨s2, q2, rfl, rfl, hq2⟩ := hJ
      have hi : i < 3 := by
        have := (List.getElem?_eq_some_iff.mp hx).1
        have h3 : (rngD 0 3).length = 3 := by kernel_rfl
        omega
      obtain ⟨q3, e3, hq3⟩ := small_ok hq2 (by omega)
      obtain ⟨q4, e4, hq4⟩ := far_ok hq3 (by omega)
      obtain ⟨q5, e5, hq5⟩ := refused_ok hq4 (by omega)
      refine ⟨[.val (.scr ns), .val (.ref 6), .val x], rfl, .inl ⟨[.val (.scr ns), .val (.ref 6), .val x], PA 6 q5, ?_, _, q5, rfl, rfl, hq5.le (by omega)⟩⟩
      simp only [xp_bind, rb_ok, rb_exc, rb_no, xp_ret, xp_oS, xp_oN, xp_c, xp_v, xp_b, xp_val, xp_op, xp_opw, xp_rd2, xp_rd1, xp_test, xp_ite, xp_and, xp_or, xp_not, xp_andV, xp_orV, xp_notV, xp_onB, xp_if, xp_un, xp_chain, xp_nil, xp_cons, xp_lst, xp_tup, xp_noP, xp_part, xp_sl, xp_1, xp_1W, xp_cbn, xp_is, xp_fld, xp_xf, xp_call, xp_callC, xp_calm, xp_callK, xp_callF, bk_ok, bk_exc, xp_prop, xp_isIns, xp_meth, xp_new, xp_newA, xp_lstC, xp_app, xp_isLst, xp_updS, xp_updR, rd_s, rd_ref, rd_non, rd_bl, rd_int, rd_str, rd_lst, rd_tup, rd_scr, rd_dct, rd_ins, rd_exv, xs_seq, sq_nx, sq_ret, sq_exc, as_E, ts_ok, ts_exc, as_next, as_ret, as_retN, as_do, as_set, as_if, as_ifS, as_for, as_forN, as_forC, fk_nx, fk_cnt, fk_brk, fk_ret, fk_exc, as_it, as_rng, as_asg, as_par, as_par2, as_setO, as_parO, as_parOK, as_ixSet, as_updK, as_fldSet, as_raise1, as_raise1', as_frzO, tf_nx, tf_ret, tf_exc, ti_exc, as_yes, xp_lcV, xp_lstO, xp_tupO, xp_lstCO, xp_lcRun, xp_lcEnd, xl_nil, xl_cons, xl_1, xl_1f, xl_2, ix_0, ix_1, ix_2, ix_3, to_addI, to_sub, to_le, to_gt, to_ge, to_lt, to_ixL, to_ixT, to_abs, to_int, to_intB, to_lenL, to_lenT, to_lenZ, to_isN, to_allL, to_eqI, to_neI, to_neInts, to_eqInts, to_put0, to_put1, to_put2, as_tryE, as_tryOk, as_tryX, as_keepX, xq_inO, xq_eqO, xq_neO, xq_binO, xq_eqNO, xq_eqN0, xq_eqN1, xq_strO, xq_isSame, xq_blK, xq_strK, xq_join, xq_strOv, xq_js, xq_jn, xq_jc, xq_fmt, xq_callN, xq_callN1, xq_listC, xq_parS, xq_cellT, xq_cellL, wipeT, putBack, tNm, tNo, tCn, tAny, Option.bind_some, startT, startI, List.map_cons, List.map_nil, List.length_cons, List.length_nil, List.cons_append, List.nil_append, List.append_nil, List.getElem?_cons_zero, List.getElem?_cons_succ, List.set_cons_zero, List.set_cons_succ, Nat.reduceAdd, Nat.reduceSub, Nat.reduceEqDiff, Nat.reduceLeDiff, Nat.reduceLT, List.length_append, List.replicate_zero, List.replicate_succ, cellD, blO, intO, itAny, ↓reduceIte, if_true, Bool.false_eq_true, if_false, e3, e4, e5, Bool.not_true])
  have er : rng1 [.int 3] = some (rngD 0 3) := by kernel_rfl
  rcases L with ⟨Γ', A', eL, s2, q2, rfl, rfl, hq2⟩ | L
  · generalize rngD 0 3 = is at *
    have o := odd_ok (PA 6 q2)
    simp only [List.replicate_succ, List.replicate_zero] at p
    refine ⟨PA 6 q2, ?_⟩
    show F_law [.scr ns] (List.replicate 6 none) = _
    unfold F_law
    rw [run_F (by rfl)]
    unfold B_law
    simp only [xp_bind, rb_ok, rb_exc, rb_no, xp_ret, xp_oS, xp_oN, xp_c, xp_v, xp_b, xp_val, xp_op, xp_opw, xp_rd2, xp_rd1, xp_test, xp_ite, xp_and, xp_or, xp_not, xp_andV, xp_orV, xp_notV, xp_onB, xp_if, xp_un, xp_chain, xp_nil, xp_cons, xp_lst, xp_tup, xp_noP, xp_part, xp_sl, xp_1, xp_1W, xp_cbn, xp_is, xp_fld, xp_xf, xp_call, xp_callC, xp_calm, xp_callK, xp_callF, bk_ok, bk_exc, xp_prop, xp_isIns, xp_meth, xp_new, xp_newA, xp_lstC, xp_app, xp_isLst, xp_updS, xp_updR, rd_s, rd_ref, rd_non, rd_bl, rd_int, rd_str, rd_lst, rd_tup, rd_scr, rd_dct, rd_ins, rd_exv, xs_seq, sq_nx, sq_ret, sq_exc, as_E, ts_ok, ts_exc, as_next, as_ret, as_retN, as_do, as_set, as_if, as_ifS, as_for, as_forN, as_forC, fk_nx, fk_cnt, fk_brk, fk_ret, fk_exc, as_it, as_rng, as_asg, as_par, as_par2, as_setO, as_parO, as_parOK, as_ixSet, as_updK, as_fldSet, as_raise1, as_raise1', as_frzO, tf_nx, tf_ret, tf_exc, ti_exc, as_yes, xp_lcV, xp_lstO, xp_tupO, xp_lstCO, xp_lcRun, xp_lcEnd, xl_nil, xl_cons, xl_1, xl_1f, xl_2, ix_0, ix_1, ix_2, ix_3, to_addI, to_sub, to_le, to_gt, to_ge, to_lt, to_ixL, to_ixT, to_abs, to_int, to_intB, to_lenL, to_lenT, to_lenZ, to_isN, to_allL, to_eqI, to_neI, to_neInts, to_eqInts, to_put0, to_put1, to_put2, as_tryE, as_tryOk, as_tryX, as_keepX, xq_inO, xq_eqO, xq_neO, xq_binO, xq_eqNO, xq_eqN0, xq_eqN1, xq_strO, xq_isSame, xq_blK, xq_strK, xq_join, xq_strOv, xq_js, xq_jn, xq_jc, xq_fmt, xq_callN, xq_callN1, xq_listC, xq_parS, xq_cellT, xq_cellL, wipeT, putBack, tNm, tNo, tCn, tAny, Option.bind_some, startT, startI, List.map_cons, List.map_nil, List.length_cons, List.length_nil, List.cons_append, List.nil_append, List.append_nil, List.getElem?_cons_zero, List.getElem?_cons_succ, List.set_cons_zero, List.set_cons_succ, Nat.reduceAdd, Nat.reduceSub, Nat.reduceEqDiff, Nat.reduceLeDiff, Nat.reduceLT, List.length_append, List.replicate_zero, List.replicate_succ, cellD, blO, intO, itAny, ↓reduceIte, if_true, Bool.false_eq_true, if_false, p, er, eL, o]
  · exact L.elim
end Loneboard_k48_boxes

set_option Elab.async false
set_option linter.all false
set_option maxRecDepth 100000
set_option maxHeartbeats 4000000
/-! k48: the derivations. -/
namespace Loneboard_k48_boxes
open PySem PySem.Spec PyProof.Rows L2 Dl He Fl
def topS (i : Nat) : Stmt := PySem.Challenge.pw_oneboard_k48_boxes.main.body.getD i (.Pass ⟨0, 0, 0, 0⟩)
abbrev s__law_pen : Stmt := topS 12
abbrev N__law_pen : List Str := ["script"]
theorem sc__law_pen : FnScope N__law_pen ["script"] (defScope s__law_pen) := ⟨rfl, rfl, rfl, by decide +kernel, rfl, by decide +kernel, by decide +kernel⟩
abbrev s_is_integer : Stmt := topS 1
abbrev N_is_integer : List Str := ["value"]
theorem sc_is_integer : FnScope N_is_integer ["value"] (defScope s_is_integer) := ⟨rfl, rfl, rfl, by decide +kernel, rfl, by decide +kernel, by decide +kernel⟩
abbrev s_Box_init : Stmt := inClass (topS 10) 0
abbrev N_Box_init : List Str := ["self", "left", "low", "right", "high", "part", "value"]
theorem sc_Box_init : FnScope N_Box_init ["self", "left", "low", "right", "high"] (defScope s_Box_init) := ⟨rfl, rfl, rfl, by decide +kernel, rfl, by decide +kernel, by decide +kernel⟩
abbrev s_is_cell : Stmt := topS 9
abbrev N_is_cell : List Str := ["value"]
theorem sc_is_cell : FnScope N_is_cell ["value"] (defScope s_is_cell) := ⟨rfl, rfl, rfl, by decide +kernel, rfl, by decide +kernel, by decide +kernel⟩
abbrev s_Box_contains : Stmt := inClass (topS 10) 2
abbrev N_Box_contains : List Str := ["self", "cell"]
theorem sc_Box_contains : FnScope N_Box_contains ["self", "cell"] (defScope s_Box_contains) := ⟨rfl, rfl, rfl, by decide +kernel, rfl, by decide +kernel, by decide +kernel⟩
abbrev s__law_odd_cells : Stmt := topS 25
abbrev N__law_odd_cells : List Str := ["pen", "box", "odd", "one"]
theorem sc__law_odd_cells : FnScope N__law_odd_cells ["pen"] (defScope s__law_odd_cells) := ⟨rfl, rfl, rfl, by decide +kernel, rfl, by decide +kernel, by decide +kernel⟩
abbrev s__law_cells : Stmt := topS 17
abbrev N__law_cells : List Str := ["corners", "left", "low", "right", "high", "found", "x", "y"]
theorem sc__law_cells : FnScope N__law_cells ["corners"] (defScope s__law_cells) := ⟨rfl, rfl, rfl, by decide +kernel, rfl, by decide +kernel, by decide +kernel⟩
abbrev s__law_draw : Stmt := topS 13
abbrev N__law_draw : List Str := ["pen", "many", "digit", "at", "cell", "great", "mixed"]
theorem sc__law_draw : FnScope N__law_draw ["pen", "many"] (defScope s__law_draw) := ⟨rfl, rfl, rfl, by decide +kernel, rfl, by decide +kernel, by decide +kernel⟩
abbrev s__law_corners : Stmt := topS 15
abbrev N__law_corners : List Str := ["pen", "left", "low"]
theorem sc__law_corners : FnScope N__law_corners ["pen"] (defScope s__law_corners) := ⟨rfl, rfl, rfl, by decide +kernel, rfl, by decide +kernel, by decide +kernel⟩
abbrev s__law_box : Stmt := topS 16
abbrev N__law_box : List Str := ["corners"]
theorem sc__law_box : FnScope N__law_box ["corners"] (defScope s__law_box) := ⟨rfl, rfl, rfl, by decide +kernel, rfl, by decide +kernel, by decide +kernel⟩
abbrev s__law_meet : Stmt := topS 20
abbrev N__law_meet : List Str := ["one", "other", "cells", "xs", "ys", "cell", "x", "y"]
theorem sc__law_meet : FnScope N__law_meet ["one", "other"] (defScope s__law_meet) := ⟨rfl, rfl, rfl, by decide +kernel, rfl, by decide +kernel, by decide +kernel⟩
abbrev s__law_around : Stmt := topS 21
abbrev N__law_around : List Str := ["one", "other", "at"]
theorem sc__law_around : FnScope N__law_around ["one", "other"] (defScope s__law_around) := ⟨rfl, rfl, rfl, by decide +kernel, rfl, by decide +kernel, by decide +kernel⟩
abbrev s_Box_eq : Stmt := inClass (topS 10) 5
abbrev N_Box_eq : List Str := ["self", "other"]
theorem sc_Box_eq : FnScope N_Box_eq ["self", "other"] (defScope s_Box_eq) := ⟨rfl, rfl, rfl, by decide +kernel, rfl, by decide +kernel, by decide +kernel⟩
abbrev s_Box_str : Stmt := inClass (topS 10) 6
abbrev N_Box_str : List Str := ["self"]
theorem sc_Box_str : FnScope N_Box_str ["self"] (defScope s_Box_str) := ⟨rfl, rfl, rfl, by decide +kernel, rfl, by decide +kernel, by decide +kernel⟩
abbrev s_Box_or : Stmt := inClass (topS 10) 4
abbrev N_Box_or : List Str := ["self", "other", "left", "low"]
theorem sc_Box_or : FnScope N_Box_or ["self", "other"] (defScope s_Box_or) := ⟨rfl, rfl, rfl, by decide +kernel, rfl, by decide +kernel, by decide +kernel⟩
abbrev s_Box_and : Stmt := inClass (topS 10) 3
abbrev N_Box_and : List Str := ["self", "other", "left", "low", "right", "high"]
theorem sc_Box_and : FnScope N_Box_and ["self", "other"] (defScope s_Box_and) := ⟨rfl, rfl, rfl, by decide +kernel, rfl, by decide +kernel, by decide +kernel⟩
abbrev s_Box_size : Stmt := inClass (topS 10) 1
abbrev N_Box_size : List Str := ["self"]
theorem sc_Box_size : FnScope N_Box_size ["self"] (defScope s_Box_size) := ⟨rfl, rfl, rfl, by decide +kernel, rfl, by decide +kernel, by decide +kernel⟩
abbrev s__law_told : Stmt := topS 18
abbrev N__law_told : List Str := ["box"]
theorem sc__law_told : FnScope N__law_told ["box"] (defScope s__law_told) := ⟨rfl, rfl, rfl, by decide +kernel, rfl, by decide +kernel, by decide +kernel⟩
abbrev s__law_due : Stmt := topS 19
abbrev N__law_due : List Str := ["corners", "left", "low", "right", "high", "part"]
theorem sc__law_due : FnScope N__law_due ["corners"] (defScope s__law_due) := ⟨rfl, rfl, rfl, by decide +kernel, rfl, by decide +kernel, by decide +kernel⟩
abbrev s__law_small_right : Stmt := topS 22
abbrev N__law_small_right : List Str := ["pen", "one", "other", "first", "second", "cells", "x", "y", "meet", "around", "due", "told"]
theorem sc__law_small_right : FnScope N__law_small_right ["pen"] (defScope s__law_small_right) := ⟨rfl, rfl, rfl, by decide +kernel, rfl, by decide +kernel, by decide +kernel⟩
abbrev s__law_near : Stmt := topS 23
abbrev N__law_near : List Str := ["pen", "corners", "at", "found"]
theorem sc__law_near : FnScope N__law_near ["pen", "corners"] (defScope s__law_near) := ⟨rfl, rfl, rfl, by decide +kernel, rfl, by decide +kernel, by decide +kernel⟩
abbrev s__law_far_right : Stmt := topS 24
abbrev N__law_far_right : List Str := ["pen", "left", "low", "corners", "other", "box", "near", "told", "ends", "has", "end"]
theorem sc__law_far_right : FnScope N__law_far_right ["pen"] (defScope s__law_far_right) := ⟨rfl, rfl, rfl, by decide +kernel, rfl, by decide +kernel, by decide +kernel⟩
abbrev s__law_pick : Stmt := topS 14
abbrev N__law_pick : List Str := ["pen", "some"]
theorem sc__law_pick : FnScope N__law_pick ["pen", "some"] (defScope s__law_pick) := ⟨rfl, rfl, rfl, by decide +kernel, rfl, by decide +kernel, by decide +kernel⟩
abbrev s__law_refused : Stmt := topS 26
abbrev N__law_refused : List Str := ["pen", "corners", "odd", "words", "lap", "caught", "error", "bad", "left", "low", "right", "high", "wide", "tall", "word", "value"]
theorem sc__law_refused : FnScope N__law_refused ["pen"] (defScope s__law_refused) := ⟨rfl, rfl, rfl, by decide +kernel, rfl, by decide +kernel, by decide +kernel⟩
abbrev s_law : Stmt := topS 27
abbrev N_law : List Str := ["script", "pen", "lap"]
theorem sc_law : FnScope N_law ["script"] (defScope s_law) := ⟨rfl, rfl, rfl, by decide +kernel, rfl, by decide +kernel, by decide +kernel⟩
abbrev s_BadNumber_init : Stmt := inClass (topS 5) 0
abbrev N_BadNumber_init : List Str := ["self", "part"]
theorem sc_BadNumber_init : FnScope N_BadNumber_init ["self", "part"] (defScope s_BadNumber_init) := ⟨rfl, rfl, rfl, by decide +kernel, rfl, by decide +kernel, by decide +kernel⟩
/-- what the top has left -/
structure Txt (K : PySem.W.Frag) (mg : Str → Option Value) (fd : Nat → FuncData) : Prop where
  b_range : mg "range" = none
  b_list : mg "list" = none
  b_repr : mg "repr" = none
  b_str : mg "str" = none
  b_isinstance : mg "isinstance" = none
  b_zip : mg "zip" = none
  b_bool : mg "bool" = none
  b_int : mg "int" = none
  b_NotImplemented : mg "NotImplemented" = none
  b_max : mg "max" = none
  b_min : mg "min" = none
  b_tuple : mg "tuple" = none
  b_len : mg "len" = none
  b_abs : mg "abs" = none
  b_property : mg "property" = none
  g__law_pen : mg "_law_pen" = some (.ref (ga K "_law_pen"))
  g_is_integer : mg "is_integer" = some (.ref (ga K "is_integer"))
  g_is_cell : mg "is_cell" = some (.ref (ga K "is_cell"))
  g__law_odd_cells : mg "_law_odd_cells" = some (.ref (ga K "_law_odd_cells"))
  g__law_cells : mg "_law_cells" = some (.ref (ga K "_law_cells"))
  g__law_draw : mg "_law_draw" = some (.ref (ga K "_law_draw"))
  g__law_corners : mg "_law_corners" = some (.ref (ga K "_law_corners"))
  g__law_box : mg "_law_box" = some (.ref (ga K "_law_box"))
  g__law_meet : mg "_law_meet" = some (.ref (ga K "_law_meet"))
  g__law_around : mg "_law_around" = some (.ref (ga K "_law_around"))
  g__law_told : mg "_law_told" = some (.ref (ga K "_law_told"))
  g__law_due : mg "_law_due" = some (.ref (ga K "_law_due"))
  g__law_small_right : mg "_law_small_right" = some (.ref (ga K "_law_small_right"))
  g__law_near : mg "_law_near" = some (.ref (ga K "_law_near"))
  g__law_far_right : mg "_law_far_right" = some (.ref (ga K "_law_far_right"))
  g__law_pick : mg "_law_pick" = some (.ref (ga K "_law_pick"))
  g__law_refused : mg "_law_refused" = some (.ref (ga K "_law_refused"))
  g_law : mg "law" = some (.ref (ga K "law"))
  g_BoardError : mg "BoardError" = some (.ref (ga K "BoardError"))
  g_BadName : mg "BadName" = some (.ref (ga K "BadName"))
  g_BadNumber : mg "BadNumber" = some (.ref (ga K "BadNumber"))
  g_BadStamp : mg "BadStamp" = some (.ref (ga K "BadStamp"))
  g_Nothing : mg "Nothing" = some (.ref (ga K "Nothing"))
  g_Box : mg "Box" = some (.ref (ga K "Box"))
  ins_Box : insB K (ga K "Box") = true
  mk_Box : Mk K (ga K "Box") (ma K (ga K "Box") "__init__")
  noN_Box : PySem.W.subIn K (.ref (ga K "Box")) (.type "NoneType") = some false
  eq_Box : EqOwn K (ga K "Box")
  sf_Box : PySem.W.selfFirst K (ga K "Box") = true
  me_Box_contains : Meth K (ga K "Box") "__contains__" (ma K (ga K "Box") "__contains__")
  me_Box_eq : Meth K (ga K "Box") "__eq__" (ma K (ga K "Box") "__eq__")
  me_Box_and : Meth K (ga K "Box") "__and__" (ma K (ga K "Box") "__and__")
  me_Box_or : Meth K (ga K "Box") "__or__" (ma K (ga K "Box") "__or__")
  me_Box_str : Meth K (ga K "Box") "__str__" (ma K (ga K "Box") "__str__")
  pr_Box_size : PropOf K (ga K "Box") "size" (ma K (ga K "Box") "size") (propAd K (ga K "Box") "size")
  ex_BadNumber : ExT K (ga K "BadNumber")
  no_BadNumber_part : PySem.W.findIn K (.ref (ga K "BadNumber")) "part" = some none
  fl_left : FldOk K (clL nmL K) [5] "left"
  fl_low : FldOk K (clL nmL K) [5] "low"
  fl_right : FldOk K (clL nmL K) [5] "right"
  fl_high : FldOk K (clL nmL K) [5] "high"
  xf_part : XfOk K (clL nmL K) [2] "part"
  em_BoardError : TakesOk K (clL nmL K) (.ref (ga K "BoardError")) (emOf em_BoardError)
  tab : TabOk K (clL nmL K) tabD.tab
  F__law_pen : FunD K "_law_pen" "_law_pen" (defArgs s__law_pen) (defBody s__law_pen) (defScope s__law_pen) [] [] (ga K "_law_pen") (fd 0)
  bb__law_pen : Binds K (fd 0) ["script"] []
  k__law_pen : PySem.W.keepIn K (.ref (ga K "_law_pen")) = true
  F_is_integer : FunD K "is_integer" "is_integer" (defArgs s_is_integer) (defBody s_is_integer) (defScope s_is_integer) [] [] (ga K "is_integer") (fd 1)
  bb_is_integer : Binds K (fd 1) ["value"] []
  k_is_integer : PySem.W.keepIn K (.ref (ga K "is_integer")) = true
  F_Box_init : FunD K "__init__" "Box.__init__" (defArgs s_Box_init) (defBody s_Box_init) (defScope s_Box_init) [] [] (ma K (ga K "Box") "__init__") (fd 2)
  bb_Box_init : Binds K (fd 2) ["self", "left", "low", "right", "high"] []
  F_is_cell : FunD K "is_cell" "is_cell" (defArgs s_is_cell) (defBody s_is_cell) (defScope s_is_cell) [] [] (ga K "is_cell") (fd 3)
  bb_is_cell : Binds K (fd 3) ["value"] []
  k_is_cell : PySem.W.keepIn K (.ref (ga K "is_cell")) = true
  F_Box_contains : FunD K "__contains__" "Box.__contains__" (defArgs s_Box_contains) (defBody s_Box_contains) (defScope s_Box_contains) [] [] (ma K (ga K "Box") "__contains__") (fd 4)
  bb_Box_contains : Binds K (fd 4) ["self", "cell"] []
  F__law_odd_cells : FunD K "_law_odd_cells" "_law_odd_cells" (defArgs s__law_odd_cells) (defBody s__law_odd_cells) (defScope s__law_odd_cells) [] [] (ga K "_law_odd_cells") (fd 5)
  bb__law_odd_cells : Binds K (fd 5) ["pen"] []
  k__law_odd_cells : PySem.W.keepIn K (.ref (ga K "_law_odd_cells")) = true
  F__law_cells : FunD K "_law_cells" "_law_cells" (defArgs s__law_cells) (defBody s__law_cells) (defScope s__law_cells) [] [] (ga K "_law_cells") (fd 6)
  bb__law_cells : Binds K (fd 6) ["corners"] []
  k__law_cells : PySem.W.keepIn K (.ref (ga K "_law_cells")) = true
  F__law_draw : FunD K "_law_draw" "_law_draw" (defArgs s__law_draw) (defBody s__law_draw) (defScope s__law_draw) [] [] (ga K "_law_draw") (fd 7)
  bb__law_draw : Binds K (fd 7) ["pen", "many"] []
  k__law_draw : PySem.W.keepIn K (.ref (ga K "_law_draw")) = true
  F__law_corners : FunD K "_law_corners" "_law_corners" (defArgs s__law_corners) (defBody s__law_corners) (defScope s__law_corners) [] [] (ga K "_law_corners") (fd 8)
  bb__law_corners : Binds K (fd 8) ["pen"] []
  k__law_corners : PySem.W.keepIn K (.ref (ga K "_law_corners")) = true
  F__law_box : FunD K "_law_box" "_law_box" (defArgs s__law_box) (defBody s__law_box) (defScope s__law_box) [] [] (ga K "_law_box") (fd 9)
  bb__law_box : Binds K (fd 9) ["corners"] []
  k__law_box : PySem.W.keepIn K (.ref (ga K "_law_box")) = true
  F__law_meet : FunD K "_law_meet" "_law_meet" (defArgs s__law_meet) (defBody s__law_meet) (defScope s__law_meet) [] [] (ga K "_law_meet") (fd 10)
  bb__law_meet : Binds K (fd 10) ["one", "other"] []
  k__law_meet : PySem.W.keepIn K (.ref (ga K "_law_meet")) = true
  F__law_around : FunD K "_law_around" "_law_around" (defArgs s__law_around) (defBody s__law_around) (defScope s__law_around) [] [] (ga K "_law_around") (fd 11)
  bb__law_around : Binds K (fd 11) ["one", "other"] []
  k__law_around : PySem.W.keepIn K (.ref (ga K "_law_around")) = true
  F_Box_eq : FunD K "__eq__" "Box.__eq__" (defArgs s_Box_eq) (defBody s_Box_eq) (defScope s_Box_eq) [] [] (ma K (ga K "Box") "__eq__") (fd 12)
  bb_Box_eq : Binds K (fd 12) ["self", "other"] []
  F_Box_str : FunD K "__str__" "Box.__str__" (defArgs s_Box_str) (defBody s_Box_str) (defScope s_Box_str) [] [] (ma K (ga K "Box") "__str__") (fd 13)
  bb_Box_str : Binds K (fd 13) ["self"] []
  F_Box_or : FunD K "__or__" "Box.__or__" (defArgs s_Box_or) (defBody s_Box_or) (defScope s_Box_or) [] [] (ma K (ga K "Box") "__or__") (fd 14)
  bb_Box_or : Binds K (fd 14) ["self", "other"] []
  F_Box_and : FunD K "__and__" "Box.__and__" (defArgs s_Box_and) (defBody s_Box_and) (defScope s_Box_and) [] [] (ma K (ga K "Box") "__and__") (fd 15)
  bb_Box_and : Binds K (fd 15) ["self", "other"] []
  F_Box_size : FunD K "size" "Box.size" (defArgs s_Box_size) (defBody s_Box_size) (defScope s_Box_size) [] [] (propAd K (ga K "Box") "size") (fd 16)
  bb_Box_size : Binds K (fd 16) ["self"] []
  F__law_told : FunD K "_law_told" "_law_told" (defArgs s__law_told) (defBody s__law_told) (defScope s__law_told) [] [] (ga K "_law_told") (fd 17)
  bb__law_told : Binds K (fd 17) ["box"] []
  k__law_told : PySem.W.keepIn K (.ref (ga K "_law_told")) = true
  F__law_due : FunD K "_law_due" "_law_due" (defArgs s__law_due) (defBody s__law_due) (defScope s__law_due) [] [] (ga K "_law_due") (fd 18)
  bb__law_due : Binds K (fd 18) ["corners"] []
  k__law_due : PySem.W.keepIn K (.ref (ga K "_law_due")) = true
  F__law_small_right : FunD K "_law_small_right" "_law_small_right" (defArgs s__law_small_right) (defBody s__law_small_right) (defScope s__law_small_right) [] [] (ga K "_law_small_right") (fd 19)
  bb__law_small_right : Binds K (fd 19) ["pen"] []
  k__law_small_right : PySem.W.keepIn K (.ref (ga K "_law_small_right")) = true
  F__law_near : FunD K "_law_near" "_law_near" (defArgs s__law_near) (defBody s__law_near) (defScope s__law_near) [] [] (ga K "_law_near") (fd 20)
  bb__law_near : Binds K (fd 20) ["pen", "corners"] []
  k__law_near : PySem.W.keepIn K (.ref (ga K "_law_near")) = true
  F__law_far_right : FunD K "_law_far_right" "_law_far_right" (defArgs s__law_far_right) (defBody s__law_far_right) (defScope s__law_far_right) [] [] (ga K "_law_far_right") (fd 21)
  bb__law_far_right : Binds K (fd 21) ["pen"] []
  k__law_far_right : PySem.W.keepIn K (.ref (ga K "_law_far_right")) = true
  F__law_pick : FunD K "_law_pick" "_law_pick" (defArgs s__law_pick) (defBody s__law_pick) (defScope s__law_pick) [] [] (ga K "_law_pick") (fd 22)
  bb__law_pick : Binds K (fd 22) ["pen", "some"] []
  k__law_pick : PySem.W.keepIn K (.ref (ga K "_law_pick")) = true
  F__law_refused : FunD K "_law_refused" "_law_refused" (defArgs s__law_refused) (defBody s__law_refused) (defScope s__law_refused) [] [] (ga K "_law_refused") (fd 23)
  bb__law_refused : Binds K (fd 23) ["pen"] []
  k__law_refused : PySem.W.keepIn K (.ref (ga K "_law_refused")) = true
  F_law : FunD K "law" "law" (defArgs s_law) (defBody s_law) (defScope s_law) [] [] (ga K "law") (fd 24)
  bb_law : Binds K (fd 24) ["script"] []
  k_law : PySem.W.keepIn K (.ref (ga K "law")) = true
  F_BadNumber_init : FunD K "__init__" "BadNumber.__init__" (defArgs s_BadNumber_init) (defBody s_BadNumber_init) (defScope s_BadNumber_init) [] [] (ma K (ga K "BadNumber") "__init__") (fd 25)
  bb_BadNumber_init : Binds K (fd 25) ["self", "part"] []
  kn_Box_init_0_high_right_low_left : KBn K (fd 2) ["self", "left", "low", "right", "high"] 1 ["high", "right", "low", "left"] (selfG fun us ws => argG 0 4 [3, 2, 1, 0] us [] ws) (selfG fun us ws => argG 0 4 [3, 2, 1, 0] us [] ws)
theorem Txt.X_BadNumber {P : Program} {w : World} {base : Heap} {K : PySem.W.Frag} {mg : Str → Option Value} {fd : Nat → FuncData} (T : Txt K mg fd) : FnOk P w K mg base CX0 1 (ma K (ga K "BadNumber") "__init__") (fd 25) ["self", "part"] (spI1 (ga K "BadNumber") "part") :=
  FunD.ok (k := 0) T.F_BadNumber_init sc_BadNumber_init (fun vs H Q E ⟨a, y, e, _⟩ => by rw [e]; rfl) fun cdv A outer s H vs Q E hr h => ⟨_, pss_one (ps_ost (pv 0) (pv 1)), pure_I1 T.ex_BadNumber.oex T.no_BadNumber_part h⟩
section
variable {P : Program} {w : World} {K : PySem.W.Frag} {mg : Str → Option Value} {base : Heap} {fd : Nat → FuncData}
theorem ok__law_pen (T : Txt K mg fd) : FnG P w K mg base (L2.CX P w) 1 (ga K "_law_pen") (fd 0) ["script"] (spX K (pfT (clL nmL K) F__law_pen)) := by
  exact okT (k := 0) T.F__law_pen sc__law_pen fun cdv A outer s H E hg hr => (ms_one (ms_ret (me_new (mn_lst (ma_cons (me_listc rfl rfl T.b_list (mp_e (me_sl (mp_v 0) mo_none (mo_some me_int)))) (ma_cons me_int (ma_cons me_int ma_nil)))))))
theorem ok_is_integer (T : Txt K mg fd) : FnG P w K mg base (L2.CX P w) 1 (ga K "is_integer") (fd 1) ["value"] (spX K (pfT (clL nmL K) F_is_integer)) := by
  exact okT (k := 0) T.F_is_integer sc_is_integer fun cdv A outer s H E hg hr => (ms_one (ms_ret (me_and (me_is T.tab (fun _ => nofun) rfl T.b_isinstance (mp_v 0) (mcls_ty rfl T.b_int (by decide +kernel))) (me_one (me_not (me_is T.tab (fun _ => nofun) rfl T.b_isinstance (mp_v 0) (mcls_ty rfl T.b_bool (by decide +kernel))))))))
theorem ok_Box_init (T : Txt K mg fd) : FnG P w K mg base (L2.CX P w) 3 (ma K (ga K "Box") "__init__") (fd 2) ["self", "left", "low", "right", "high"] (spX K (pfI (clL nmL K) 5 F_Box_init)) := by
  have G_is_integer := ok_is_integer (P := P) (w := w) (base := base) T
  exact okI (k := 2) T.F_Box_init sc_Box_init fun cdv A outer s H E hg hr pin => (ms_cons (ms_for (passes_of rfl) rfl (mi_any (me_tup (ma_cons (me_tup (ma_cons me_str (ma_cons (me_v 1) ma_nil))) (ma_cons (me_tup (ma_cons me_str (ma_cons (me_v 2) ma_nil))) (ma_cons (me_tup (ma_cons me_str (ma_cons (me_v 3) ma_nil))) (ma_cons (me_tup (ma_cons me_str (ma_cons (me_v 4) ma_nil))) ma_nil)))))) (mg_any (n := 2) rfl (mgs_cons (mg_name 5 sc_Box_init.nd rfl (by first | exact .inl rfl | exact .inr rfl)) (mgs_cons (mg_name 6 sc_Box_init.nd rfl (by first | exact .inl rfl | exact .inr rfl)) mgs_nil)))
  (ms_one (ms_if (mt_not (mt_v (me_call G_is_integer (takes_of rfl rfl rfl rfl) hg (hr.mono (by omega)) rfl T.g_is_integer T.k_is_integer T.bb_is_integer .nil (fun _ _ => .nil) rfl (ma_cons (me_v 6) ma_nil))))
  (ms_one (ms_raise1 rfl (takes_of rfl rfl rfl rfl) T.ex_BadNumber.oex T.ex_BadNumber.ini T.ex_BadNumber.typ (T.X_BadNumber (P := P) (w := w) (base := base)) (hr.mono (by omega)) T.bb_BadNumber_init rfl T.g_BadNumber (clL_at (by decide)) (ma_cons (me_v 5) ma_nil)))
  ms_nil)))
  (ms_cons (ms_if (mt_lt (me_v 3) (me_v 1))
  (ms_one (ms_raise1 rfl (takes_of rfl rfl rfl rfl) T.ex_BadNumber.oex T.ex_BadNumber.ini T.ex_BadNumber.typ (T.X_BadNumber (P := P) (w := w) (base := base)) (hr.mono (by omega)) T.bb_BadNumber_init rfl T.g_BadNumber (clL_at (by decide)) (ma_cons me_str ma_nil)))
  ms_nil)
  (ms_cons (ms_if (mt_lt (me_v 4) (me_v 2))
  (ms_one (ms_raise1 rfl (takes_of rfl rfl rfl rfl) T.ex_BadNumber.oex T.ex_BadNumber.ini T.ex_BadNumber.typ (T.X_BadNumber (P := P) (w := w) (base := base)) (hr.mono (by omega)) T.bb_BadNumber_init rfl T.g_BadNumber (clL_at (by decide)) (ma_cons me_str ma_nil)))
  ms_nil)
  (ms_cons (ms_fld T.fl_left (mp_v 0) (me_v 1))
  (ms_cons (ms_fld T.fl_low (mp_v 0) (me_v 2))
  (ms_cons (ms_fld T.fl_right (mp_v 0) (me_v 3))
  (ms_one (ms_fld T.fl_high (mp_v 0) (me_v 4)))))))))
theorem ok_is_cell (T : Txt K mg fd) : FnG P w K mg base (L2.CX P w) 2 (ga K "is_cell") (fd 3) ["value"] (spX K (pfT (clL nmL K) F_is_cell)) := by
  have G_is_integer := ok_is_integer (P := P) (w := w) (base := base) T
  exact okT (k := 1) T.F_is_cell sc_is_cell fun cdv A outer s H E hg hr => (ms_one (ms_ret (me_and (me_is T.tab (fun _ => nofun) rfl T.b_isinstance (mp_v 0) (mcls_ty rfl T.b_tuple (by decide +kernel))) (me_and (me_eq hr.units (mp_e (me_len rfl T.b_len (mp_v 0))) (mp_e me_int)) (me_and (me_call G_is_integer (takes_of rfl rfl rfl rfl) hg (hr.mono (by omega)) rfl T.g_is_integer T.k_is_integer T.bb_is_integer .nil (fun _ _ => .nil) rfl (ma_cons (me_ix (mp_v 0) (mp_e me_int)) ma_nil)) (me_one (me_call G_is_integer (takes_of rfl rfl rfl rfl) hg (hr.mono (by omega)) rfl T.g_is_integer T.k_is_integer T.bb_is_integer .nil (fun _ _ => .nil) rfl (ma_cons (me_ix (mp_v 0) (mp_e me_int)) ma_nil))))))))
theorem ok_Box_contains (T : Txt K mg fd) : FnG P w K mg base (L2.CX P w) 3 (ma K (ga K "Box") "__contains__") (fd 4) ["self", "cell"] (spX K (pfT (clL nmL K) F_Box_contains)) := by
  have G_is_cell := ok_is_cell (P := P) (w := w) (base := base) T
  exact okT (k := 2) T.F_Box_contains sc_Box_contains fun cdv A outer s H E hg hr => (ms_cons (ms_if (mt_not (mt_v (me_call G_is_cell (takes_of rfl rfl rfl rfl) hg (hr.mono (by omega)) rfl T.g_is_cell T.k_is_cell T.bb_is_cell .nil (fun _ _ => .nil) rfl (ma_cons (me_v 1) ma_nil))))
  (ms_one (ms_ret me_bl))
  ms_nil)
  (ms_one (ms_ret (me_and (me_leLt (me_fld T.fl_left (mp_v 0)) (me_ix (mp_v 1) (mp_e me_int)) (me_fld T.fl_right (mp_v 0))) (me_one (me_leLt (me_fld T.fl_low (mp_v 0)) (me_ix (mp_v 1) (mp_e me_int)) (me_fld T.fl_high (mp_v 0))))))))
theorem ok__law_odd_cells (T : Txt K mg fd) : FnG P w K mg base (L2.CX P w) 5 (ga K "_law_odd_cells") (fd 5) ["pen"] (spX K (pfT (clL nmL K) F__law_odd_cells)) := by
  have G_Box_init := ok_Box_init (P := P) (w := w) (base := base) T
  have G_Box_contains := ok_Box_contains (P := P) (w := w) (base := base) T
  exact okT (k := 4) T.F__law_odd_cells sc__law_odd_cells fun cdv A outer s H E hg hr => (ms_cons (ms_set 1 sc__law_odd_cells.nd rfl (by first | exact .inl rfl | exact .inr rfl) (me_make G_Box_init (takes_of rfl rfl rfl rfl) T.mk_Box (clL_at (by decide)) hg (hr.mono (by omega)) rfl T.g_Box T.bb_Box_init .nil (fun _ _ => .nil) rfl (ma_cons (me_neg me_int) (ma_cons (me_neg me_int) (ma_cons me_int (ma_cons me_int ma_nil))))))
  (ms_cons (ms_set 2 sc__law_odd_cells.nd rfl (by first | exact .inl rfl | exact .inr rfl) (me_lst (ma_cons me_non (ma_cons me_int (ma_cons me_str (ma_cons (me_tup (ma_cons me_int ma_nil)) (ma_cons (me_tup (ma_cons me_int (ma_cons me_int (ma_cons me_int ma_nil)))) (ma_cons (me_lst (ma_cons me_int (ma_cons me_int ma_nil))) (ma_cons (me_tup (ma_cons me_bl (ma_cons me_int ma_nil))) (ma_cons (me_tup (ma_cons me_int (ma_cons me_bl ma_nil))) (ma_cons (me_tup (ma_cons me_str (ma_cons me_int ma_nil))) (ma_cons me_dct0 (ma_cons (me_tup (ma_cons (me_tup (ma_cons me_int (ma_cons me_int ma_nil))) ma_nil)) (ma_cons (me_tup (ma_cons me_non (ma_cons me_int ma_nil))) (ma_cons me_str (ma_cons (me_v 1) ma_nil))))))))))))))))
  (ms_one (ms_ret (me_and (me_eq hr.units (mp_e (me_lc [("one", 3)] rfl sc__law_odd_cells.nd (mi_any (me_v 2)) (blkOk_by (N := N__law_odd_cells) (sc := defScope s__law_odd_cells) (by decide +kernel)) (fun _ _ _ _ _ => (mg_name 3 sc__law_odd_cells.nd rfl (by first | exact .inl rfl | exact .inr rfl))) (fun _ _ _ _ _ => (mts_one (mt_inO G_Box_contains (clL_at (by decide)) T.me_Box_contains hg (hr.mono (by omega)) T.bb_Box_contains (me_v 3) (me_v 1)))) (fun _ _ _ _ _ => (me_v 3)))) (mp_e (me_lst ma_nil))) (me_and (me_inO G_Box_contains (clL_at (by decide)) T.me_Box_contains hg (hr.mono (by omega)) T.bb_Box_contains (me_tup (ma_cons me_int (ma_cons me_int ma_nil))) (me_v 1)) (me_one (me_not (me_inO G_Box_contains (clL_at (by decide)) T.me_Box_contains hg (hr.mono (by omega)) T.bb_Box_contains (me_tup (ma_cons me_int (ma_cons me_int ma_nil))) (me_v 1))))))))))
theorem ok__law_cells (T : Txt K mg fd) : FnG P w K mg base (L2.CX P w) 1 (ga K "_law_cells") (fd 6) ["corners"] (spX K (pfT (clL nmL K) F__law_cells)) := by
  exact okT (k := 0) T.F__law_cells sc__law_cells fun cdv A outer s H E hg hr => (ms_cons (ms_asg (me_v 0) (mg_any (n := 4) rfl (mgs_cons (mg_name 1 sc__law_cells.nd rfl (by first | exact .inl rfl | exact .inr rfl)) (mgs_cons (mg_name 2 sc__law_cells.nd rfl (by first | exact .inl rfl | exact .inr rfl)) (mgs_cons (mg_name 3 sc__law_cells.nd rfl (by first | exact .inl rfl | exact .inr rfl)) (mgs_cons (mg_name 4 sc__law_cells.nd rfl (by first | exact .inl rfl | exact .inr rfl)) mgs_nil))))))
  (ms_cons (ms_set 5 sc__law_cells.nd rfl (by first | exact .inl rfl | exact .inr rfl) (me_lst ma_nil))
  (ms_cons (ms_for (passes_of rfl) rfl (mi_rng2 rfl T.b_range (ma_cons (me_v 1) (ma_cons (me_v 3) ma_nil))) (mg_name 6 sc__law_cells.nd rfl (by first | exact .inl rfl | exact .inr rfl))
  (ms_one (ms_set 5 sc__law_cells.nd rfl (by first | exact .inl rfl | exact .inr rfl) (me_add (mp_v 5) (mp_e (me_lc [("y", 7)] rfl sc__law_cells.nd (mi_rng2 rfl T.b_range (ma_cons (me_v 2) (ma_cons (me_v 4) ma_nil))) (blkOk_by (N := N__law_cells) (sc := defScope s__law_cells) (by decide +kernel)) (fun _ _ _ _ _ => (mg_name 7 sc__law_cells.nd rfl (by first | exact .inl rfl | exact .inr rfl))) (fun _ _ _ _ _ => mts_nil) (fun _ _ _ _ _ => (me_tup (ma_cons (me_v 6) (ma_cons (me_v 7) ma_nil))))))))))
  (ms_one (ms_ret (me_v 5))))))
theorem ok__law_draw (T : Txt K mg fd) : FnG P w K mg base (L2.CX P w) 1 (ga K "_law_draw") (fd 7) ["pen", "many"] (spX K (pfT (clL nmL K) F__law_draw)) := by
  exact okT (k := 0) T.F__law_draw sc__law_draw fun cdv A outer s H E hg hr => (ms_cons (ms_if (mt_gt (me_ix (mp_v 0) (mp_e me_int)) me_int)
  (ms_cons (ms_set 2 sc__law_draw.nd rfl (by first | exact .inl rfl | exact .inr rfl) (me_mod (me_intc rfl T.b_int (me_ix (mp_v 0) (mp_e me_int))) (me_v 1)))
  (ms_cons (ms_ixSet (me_div (me_intc rfl T.b_int (me_ix (mp_v 0) (mp_e me_int))) (me_v 1)) (mp_v 0) me_int)
  (ms_one (ms_ret (me_v 2)))))
  ms_nil)
  (ms_cons (ms_set 3 sc__law_draw.nd rfl (by first | exact .inl rfl | exact .inr rfl) (me_ix (mp_v 0) (mp_e me_int)))
  (ms_cons (ms_ixSet (me_add (mp_v 3) (mp_e me_int)) (mp_v 0) me_int)
  (ms_cons (ms_set 4 sc__law_draw.nd rfl (by first | exact .inl rfl | exact .inr rfl) (me_add (mp_e (me_mul me_int (me_v 3))) (mp_e me_int)))
  (ms_cons (ms_if (mt_ne hr.units (mp_e (me_ix (mp_v 0) (mp_e me_int))) (mp_e (me_lst ma_nil)))
  (ms_one (ms_set 4 sc__law_draw.nd rfl (by first | exact .inl rfl | exact .inr rfl) (me_ix (mp_e (me_ix (mp_v 0) (mp_e me_int))) (mp_e (me_mod (me_intc rfl T.b_int (me_v 3)) (me_len rfl T.b_len (mp_e (me_ix (mp_v 0) (mp_e me_int)))))))))
  ms_nil)
  (ms_cons (ms_if (mt_w (mw_and (mt_lt (me_v 3) (me_len rfl T.b_len (mp_e (me_ix (mp_v 0) (mp_e me_int))))) (mw_and1 (mt_ge (me_abs rfl T.b_abs (me_v 4)) (me_pow me_int me_int)))))
  (ms_cons (ms_set 5 sc__law_draw.nd rfl (by first | exact .inl rfl | exact .inr rfl) (me_add (mp_e (me_mul me_int (me_sub (me_abs rfl T.b_abs (me_v 4)) (me_pow me_int me_int)))) (mp_e (me_intc rfl T.b_int (me_lt (me_v 4) me_int)))))
  (ms_cons (ms_ixSet (me_div (me_intc rfl T.b_int (me_v 5)) (me_v 1)) (mp_v 0) me_int)
  (ms_one (ms_ret (me_mod (me_intc rfl T.b_int (me_v 5)) (me_v 1))))))
  ms_nil)
  (ms_cons (ms_set 6 sc__law_draw.nd rfl (by first | exact .inl rfl | exact .inr rfl) (me_mod (me_intc rfl T.b_int (me_pow (me_add (mp_e (me_add (mp_e (me_mod (me_intc rfl T.b_int (me_v 4)) me_int)) (mp_e (me_mul me_int (me_v 3))))) (mp_e me_int)) me_int)) me_int))
  (ms_cons (ms_set 6 sc__law_draw.nd rfl (by first | exact .inl rfl | exact .inr rfl) (me_mod (me_intc rfl T.b_int (me_pow (me_add (mp_e (me_add (mp_e (me_mul (me_v 6) (me_add (mp_e (me_mul me_int (me_v 3))) (mp_e me_int)))) (mp_e (me_mul (me_mul me_int (me_v 3)) (me_v 3))))) (mp_e me_int)) me_int)) me_int))
  (ms_one (ms_ret (me_mod (me_intc rfl T.b_int (me_div (me_v 6) me_int)) (me_v 1))))))))))))
theorem ok__law_corners (T : Txt K mg fd) : FnG P w K mg base (L2.CX P w) 2 (ga K "_law_corners") (fd 8) ["pen"] (spX K (pfT (clL nmL K) F__law_corners)) := by
  have G__law_draw := ok__law_draw (P := P) (w := w) (base := base) T
  exact okT (k := 1) T.F__law_corners sc__law_corners fun cdv A outer s H E hg hr => (ms_cons (ms_par 1 2 rfl sc__law_corners.nd rfl rfl (by decide) rfl rfl (ma_cons (me_sub (me_call G__law_draw (takes_of rfl rfl rfl rfl) hg (hr.mono (by omega)) rfl T.g__law_draw T.k__law_draw T.bb__law_draw .nil (fun _ _ => .nil) rfl (ma_cons (me_v 0) (ma_cons me_int ma_nil))) me_int) (ma_cons (me_sub (me_call G__law_draw (takes_of rfl rfl rfl rfl) hg (hr.mono (by omega)) rfl T.g__law_draw T.k__law_draw T.bb__law_draw .nil (fun _ _ => .nil) rfl (ma_cons (me_v 0) (ma_cons me_int ma_nil))) me_int) ma_nil)) (by rfl))
  (ms_one (ms_ret (me_tup (ma_cons (me_v 1) (ma_cons (me_v 2) (ma_cons (me_add (mp_v 1) (mp_e (me_call G__law_draw (takes_of rfl rfl rfl rfl) hg (hr.mono (by omega)) rfl T.g__law_draw T.k__law_draw T.bb__law_draw .nil (fun _ _ => .nil) rfl (ma_cons (me_v 0) (ma_cons me_int ma_nil))))) (ma_cons (me_add (mp_v 2) (mp_e (me_call G__law_draw (takes_of rfl rfl rfl rfl) hg (hr.mono (by omega)) rfl T.g__law_draw T.k__law_draw T.bb__law_draw .nil (fun _ _ => .nil) rfl (ma_cons (me_v 0) (ma_cons me_int ma_nil))))) ma_nil))))))))
theorem ok__law_box (T : Txt K mg fd) : FnG P w K mg base (L2.CX P w) 5 (ga K "_law_box") (fd 9) ["corners"] (spX K (pfT (clL nmL K) F__law_box)) := by
  have G_Box_init := ok_Box_init (P := P) (w := w) (base := base) T
  exact okT (k := 4) T.F__law_box sc__law_box fun cdv A outer s H E hg hr => (ms_one (ms_ret (me_make G_Box_init (takes_of rfl rfl rfl rfl) T.mk_Box (clL_at (by decide)) hg (hr.mono (by omega)) rfl T.g_Box T.bb_Box_init .nil (fun _ _ => .nil) rfl (ma_cons (me_ix (mp_v 0) (mp_e me_int)) (ma_cons (me_ix (mp_v 0) (mp_e me_int)) (ma_cons (me_ix (mp_v 0) (mp_e me_int)) (ma_cons (me_ix (mp_v 0) (mp_e me_int)) ma_nil)))))))
theorem ok__law_meet (T : Txt K mg fd) : FnG P w K mg base (L2.CX P w) 2 (ga K "_law_meet") (fd 10) ["one", "other"] (spX K (pfT (clL nmL K) F__law_meet)) := by
  have G__law_cells := ok__law_cells (P := P) (w := w) (base := base) T
  exact okT (k := 1) T.F__law_meet sc__law_meet fun cdv A outer s H E hg hr => (ms_cons (ms_setLc 2 [("cell", 5)] rfl sc__law_meet.nd rfl rfl (sw_true rfl rfl rfl (by decide +kernel)) (mi_any (me_call G__law_cells (takes_of rfl rfl rfl rfl) hg (hr.mono (by omega)) rfl T.g__law_cells T.k__law_cells T.bb__law_cells .nil (fun _ _ => .nil) rfl (ma_cons (me_v 0) ma_nil))) (blkOk_by (N := N__law_meet) (sc := defScope s__law_meet) (by decide +kernel)) (fun _ _ _ _ _ => (mg_name 5 sc__law_meet.nd rfl (by first | exact .inl rfl | exact .inr rfl))) (fun _ _ _ _ _ => (mts_one (mt_inP hr.u65 (mp_v 5) (mp_e (me_callC G__law_cells hg (hr.mono (by omega)) rfl T.g__law_cells T.k__law_cells T.bb__law_cells .nil (fun _ _ => .nil) rfl (ma_cons (me_v 1) ma_nil)))))) (fun _ _ _ _ _ => (me_v 5)))
  (ms_cons (ms_if (mt_eq hr.units (mp_v 2) (mp_e (me_lst ma_nil)))
  (ms_one (ms_ret me_non))
  ms_nil)
  (ms_cons (ms_par 3 4 rfl sc__law_meet.nd rfl rfl (by decide) rfl rfl (ma_cons (me_lc [("x", 6), ("y", 7)] rfl sc__law_meet.nd (mi_any (me_v 2)) (blkOk_by (N := N__law_meet) (sc := defScope s__law_meet) (by decide +kernel)) (fun _ _ _ _ _ => (mg_any (n := 2) rfl (mgs_cons (mg_name 6 sc__law_meet.nd rfl (by first | exact .inl rfl | exact .inr rfl)) (mgs_cons (mg_name 7 sc__law_meet.nd rfl (by first | exact .inl rfl | exact .inr rfl)) mgs_nil)))) (fun _ _ _ _ _ => mts_nil) (fun _ _ _ _ _ => (me_v 6))) (ma_cons (me_lc [("x", 6), ("y", 7)] rfl sc__law_meet.nd (mi_any (me_v 2)) (blkOk_by (N := N__law_meet) (sc := defScope s__law_meet) (by decide +kernel)) (fun _ _ _ _ _ => (mg_any (n := 2) rfl (mgs_cons (mg_name 6 sc__law_meet.nd rfl (by first | exact .inl rfl | exact .inr rfl)) (mgs_cons (mg_name 7 sc__law_meet.nd rfl (by first | exact .inl rfl | exact .inr rfl)) mgs_nil)))) (fun _ _ _ _ _ => mts_nil) (fun _ _ _ _ _ => (me_v 7))) ma_nil)) (by rfl))
  (ms_one (ms_ret (me_tup (ma_cons (me_minL rfl rfl T.b_min (mp_v 3)) (ma_cons (me_minL rfl rfl T.b_min (mp_v 4)) (ma_cons (me_add (mp_e (me_maxL rfl rfl T.b_max (mp_v 3))) (mp_e me_int)) (ma_cons (me_add (mp_e (me_maxL rfl rfl T.b_max (mp_v 4))) (mp_e me_int)) ma_nil))))))))))
theorem ok__law_around (T : Txt K mg fd) : FnG P w K mg base (L2.CX P w) 1 (ga K "_law_around") (fd 11) ["one", "other"] (spX K (pfT (clL nmL K) F__law_around)) := by
  exact okT (k := 0) T.F__law_around sc__law_around fun cdv A outer s H E hg hr => (ms_one (ms_ret (me_tuplec rfl T.b_tuple (mp_e (me_add (mp_e (me_lc [("at", 2)] rfl sc__law_around.nd (mi_any (me_tup (ma_cons me_int (ma_cons me_int ma_nil)))) (blkOk_by (N := N__law_around) (sc := defScope s__law_around) (by decide +kernel)) (fun _ _ _ _ _ => (mg_name 2 sc__law_around.nd rfl (by first | exact .inl rfl | exact .inr rfl))) (fun _ _ _ _ _ => mts_nil) (fun _ _ _ _ _ => (me_min2 rfl rfl T.b_min (ma_cons (me_ix (mp_v 0) (mp_v 2)) (ma_cons (me_ix (mp_v 1) (mp_v 2)) ma_nil)))))) (mp_e (me_lc [("at", 2)] rfl sc__law_around.nd (mi_any (me_tup (ma_cons me_int (ma_cons me_int ma_nil)))) (blkOk_by (N := N__law_around) (sc := defScope s__law_around) (by decide +kernel)) (fun _ _ _ _ _ => (mg_name 2 sc__law_around.nd rfl (by first | exact .inl rfl | exact .inr rfl))) (fun _ _ _ _ _ => mts_nil) (fun _ _ _ _ _ => (me_max2 rfl rfl T.b_max (ma_cons (me_ix (mp_v 0) (mp_v 2)) (ma_cons (me_ix (mp_v 1) (mp_v 2)) ma_nil)))))))))))
theorem ok_Box_eq (T : Txt K mg fd) : FnG P w K mg base (L2.CX P w) 1 (ma K (ga K "Box") "__eq__") (fd 12) ["self", "other"] (spX K (pfT (clL nmL K) F_Box_eq)) := by
  exact okT (k := 0) T.F_Box_eq sc_Box_eq fun cdv A outer s H E hg hr => (ms_cons (ms_if (mt_w (mw_or (mt_not (mt_v (me_is T.tab (fun _ => nofun) rfl T.b_isinstance (mp_v 1) (mcls_own rfl T.g_Box (clL_at (by decide)))))) (mw_or (mt_ne hr.units (mp_e (me_fld T.fl_left (mp_v 0))) (mp_e (me_fld T.fl_left (mp_v 1)))) (mw_or1 (mt_ne hr.units (mp_e (me_fld T.fl_low (mp_v 0))) (mp_e (me_fld T.fl_low (mp_v 1))))))))
  (ms_one (ms_ret me_bl))
  ms_nil)
  (ms_one (ms_ret (me_and (me_eq hr.units (mp_e (me_fld T.fl_right (mp_v 0))) (mp_e (me_fld T.fl_right (mp_v 1)))) (me_one (me_eq hr.units (mp_e (me_fld T.fl_high (mp_v 0))) (mp_e (me_fld T.fl_high (mp_v 1)))))))))
theorem ok_Box_str (T : Txt K mg fd) : FnG P w K mg base (L2.CX P w) 1 (ma K (ga K "Box") "__str__") (fd 13) ["self"] (spX K (pfT (clL nmL K) F_Box_str)) := by
  exact okT (k := 0) T.F_Box_str sc_Box_str fun cdv A outer s H E hg hr => (ms_one (ms_ret (me_js (mj_cons (me_fmt (me_fld T.fl_left (mp_v 0))) (mj_cons me_str (mj_cons (me_fmt (me_fld T.fl_low (mp_v 0))) (mj_cons me_str (mj_cons (me_fmt (me_fld T.fl_right (mp_v 0))) (mj_cons me_str (mj_cons (me_fmt (me_fld T.fl_high (mp_v 0))) mj_nil))))))))))
theorem ok_Box_or (T : Txt K mg fd) : FnG P w K mg base (L2.CX P w) 5 (ma K (ga K "Box") "__or__") (fd 14) ["self", "other"] (spX K (pfT (clL nmL K) F_Box_or)) := by
  have G_Box_init := ok_Box_init (P := P) (w := w) (base := base) T
  exact okT (k := 4) T.F_Box_or sc_Box_or fun cdv A outer s H E hg hr => (ms_cons (ms_if (mt_not (mt_v (me_is T.tab (fun _ => nofun) rfl T.b_isinstance (mp_v 1) (mcls_own rfl T.g_Box (clL_at (by decide))))))
  (ms_one ms_never)
  ms_nil)
  (ms_cons (ms_par 2 3 rfl sc_Box_or.nd rfl rfl (by decide) rfl rfl (ma_cons (me_min2 rfl rfl T.b_min (ma_cons (me_fld T.fl_left (mp_v 0)) (ma_cons (me_fld T.fl_left (mp_v 1)) ma_nil))) (ma_cons (me_min2 rfl rfl T.b_min (ma_cons (me_fld T.fl_low (mp_v 0)) (ma_cons (me_fld T.fl_low (mp_v 1)) ma_nil))) ma_nil)) (by rfl))
  (ms_one (ms_ret (me_make G_Box_init (takes_of rfl rfl rfl rfl) T.mk_Box (clL_at (by decide)) hg (hr.mono (by omega)) rfl T.g_Box T.bb_Box_init .nil (fun _ _ => .nil) rfl (ma_cons (me_v 2) (ma_cons (me_v 3) (ma_cons (me_max2 rfl rfl T.b_max (ma_cons (me_fld T.fl_right (mp_v 0)) (ma_cons (me_fld T.fl_right (mp_v 1)) ma_nil))) (ma_cons (me_max2 rfl rfl T.b_max (ma_cons (me_fld T.fl_high (mp_v 0)) (ma_cons (me_fld T.fl_high (mp_v 1)) ma_nil))) ma_nil)))))))))
theorem ok_Box_and (T : Txt K mg fd) : FnG P w K mg base (L2.CX P w) 5 (ma K (ga K "Box") "__and__") (fd 15) ["self", "other"] (spX K (pfT (clL nmL K) F_Box_and)) := by
  have G_Box_init := ok_Box_init (P := P) (w := w) (base := base) T
  exact okT (k := 4) T.F_Box_and sc_Box_and fun cdv A outer s H E hg hr => (ms_cons (ms_if (mt_not (mt_v (me_is T.tab (fun _ => nofun) rfl T.b_isinstance (mp_v 1) (mcls_own rfl T.g_Box (clL_at (by decide))))))
  (ms_one ms_never)
  ms_nil)
  (ms_cons (ms_par 2 3 rfl sc_Box_and.nd rfl rfl (by decide) rfl rfl (ma_cons (me_max2 rfl rfl T.b_max (ma_cons (me_fld T.fl_left (mp_v 0)) (ma_cons (me_fld T.fl_left (mp_v 1)) ma_nil))) (ma_cons (me_max2 rfl rfl T.b_max (ma_cons (me_fld T.fl_low (mp_v 0)) (ma_cons (me_fld T.fl_low (mp_v 1)) ma_nil))) ma_nil)) (by rfl))
  (ms_cons (ms_par 4 5 rfl sc_Box_and.nd rfl rfl (by decide) rfl rfl (ma_cons (me_min2 rfl rfl T.b_min (ma_cons (me_fld T.fl_right (mp_v 0)) (ma_cons (me_fld T.fl_right (mp_v 1)) ma_nil))) (ma_cons (me_min2 rfl rfl T.b_min (ma_cons (me_fld T.fl_high (mp_v 0)) (ma_cons (me_fld T.fl_high (mp_v 1)) ma_nil))) ma_nil)) (by rfl))
  (ms_one (ms_ret (me_if (mt_w (mw_and (mt_lt (me_v 2) (me_v 4)) (mw_and1 (mt_lt (me_v 3) (me_v 5))))) (me_make G_Box_init (takes_of rfl rfl rfl rfl) T.mk_Box (clL_at (by decide)) hg (hr.mono (by omega)) rfl T.g_Box T.bb_Box_init .nil (fun _ _ => .nil) rfl (ma_cons (me_v 2) (ma_cons (me_v 3) (ma_cons (me_v 4) (ma_cons (me_v 5) ma_nil))))) me_non))))))
theorem ok_Box_size (T : Txt K mg fd) : FnG P w K mg base (L2.CX P w) 1 (propAd K (ga K "Box") "size") (fd 16) ["self"] (spX K (pfT (clL nmL K) F_Box_size)) := by
  exact okT (k := 0) T.F_Box_size sc_Box_size fun cdv A outer s H E hg hr => (ms_one (ms_ret (me_mul (me_sub (me_fld T.fl_right (mp_v 0)) (me_fld T.fl_left (mp_v 0))) (me_sub (me_fld T.fl_high (mp_v 0)) (me_fld T.fl_low (mp_v 0))))))
theorem ok__law_told (T : Txt K mg fd) : FnG P w K mg base (L2.CX P w) 4 (ga K "_law_told") (fd 17) ["box"] (spX K (pfT (clL nmL K) F__law_told)) := by
  have G_Box_size := ok_Box_size (P := P) (w := w) (base := base) T
  have G_Box_str := ok_Box_str (P := P) (w := w) (base := base) T
  exact okT (k := 3) T.F__law_told sc__law_told fun cdv A outer s H E hg hr => (ms_one (ms_ret (me_if (mt_isN (me_v 0) me_non) me_non (me_lst (ma_cons (me_fld T.fl_left (mp_v 0)) (ma_cons (me_fld T.fl_low (mp_v 0)) (ma_cons (me_fld T.fl_right (mp_v 0)) (ma_cons (me_fld T.fl_high (mp_v 0)) (ma_cons (me_prop G_Box_size (clL_at (by decide)) (insB_ok (T.ins_Box)).cl T.pr_Box_size hg (hr.mono (by omega)) T.bb_Box_size (me_v 0)) (ma_cons (me_strO G_Box_str (clL_at (by decide)) T.me_Box_str hg (hr.mono (by omega)) T.bb_Box_str rfl T.b_str (me_v 0)) ma_nil))))))))))
theorem ok__law_due (T : Txt K mg fd) : FnG P w K mg base (L2.CX P w) 1 (ga K "_law_due") (fd 18) ["corners"] (spX K (pfT (clL nmL K) F__law_due)) := by
  exact okT (k := 0) T.F__law_due sc__law_due fun cdv A outer s H E hg hr => (ms_cons (ms_asg (me_v 0) (mg_any (n := 4) rfl (mgs_cons (mg_name 1 sc__law_due.nd rfl (by first | exact .inl rfl | exact .inr rfl)) (mgs_cons (mg_name 2 sc__law_due.nd rfl (by first | exact .inl rfl | exact .inr rfl)) (mgs_cons (mg_name 3 sc__law_due.nd rfl (by first | exact .inl rfl | exact .inr rfl)) (mgs_cons (mg_name 4 sc__law_due.nd rfl (by first | exact .inl rfl | exact .inr rfl)) mgs_nil))))))
  (ms_one (ms_ret (me_lst (ma_cons (me_v 1) (ma_cons (me_v 2) (ma_cons (me_v 3) (ma_cons (me_v 4) (ma_cons (me_mul (me_sub (me_v 3) (me_v 1)) (me_sub (me_v 4) (me_v 2))) (ma_cons (me_join me_str (mp_e (me_lc [("part", 5)] rfl sc__law_due.nd (mi_any (me_v 0)) (blkOk_by (N := N__law_due) (sc := defScope s__law_due) (by decide +kernel)) (fun _ _ _ _ _ => (mg_name 5 sc__law_due.nd rfl (by first | exact .inl rfl | exact .inr rfl))) (fun _ _ _ _ _ => mts_nil) (fun _ _ _ _ _ => (me_strc rfl T.b_str (me_v 5)))))) ma_nil))))))))))
theorem ok__law_small_right (T : Txt K mg fd) : FnG P w K mg base (L2.CX P w) 7 (ga K "_law_small_right") (fd 19) ["pen"] (spX K (pfT (clL nmL K) F__law_small_right)) := by
  have G__law_cells := ok__law_cells (P := P) (w := w) (base := base) T
  have G__law_corners := ok__law_corners (P := P) (w := w) (base := base) T
  have G__law_box := ok__law_box (P := P) (w := w) (base := base) T
  have G_Box_init := ok_Box_init (P := P) (w := w) (base := base) T
  have G__law_meet := ok__law_meet (P := P) (w := w) (base := base) T
  have G__law_around := ok__law_around (P := P) (w := w) (base := base) T
  have G_Box_eq := ok_Box_eq (P := P) (w := w) (base := base) T
  have G_Box_str := ok_Box_str (P := P) (w := w) (base := base) T
  have G_Box_or := ok_Box_or (P := P) (w := w) (base := base) T
  have G_Box_and := ok_Box_and (P := P) (w := w) (base := base) T
  have G__law_told := ok__law_told (P := P) (w := w) (base := base) T
  have G__law_due := ok__law_due (P := P) (w := w) (base := base) T
  have G_Box_contains := ok_Box_contains (P := P) (w := w) (base := base) T
  exact okT (k := 6) T.F__law_small_right sc__law_small_right fun cdv A outer s H E hg hr => (ms_cons (ms_par 1 2 rfl sc__law_small_right.nd rfl rfl (by decide) rfl rfl (ma_cons (me_call G__law_corners (takes_of rfl rfl rfl rfl) hg (hr.mono (by omega)) rfl T.g__law_corners T.k__law_corners T.bb__law_corners .nil (fun _ _ => .nil) rfl (ma_cons (me_v 0) ma_nil)) (ma_cons (me_call G__law_corners (takes_of rfl rfl rfl rfl) hg (hr.mono (by omega)) rfl T.g__law_corners T.k__law_corners T.bb__law_corners .nil (fun _ _ => .nil) rfl (ma_cons (me_v 0) ma_nil)) ma_nil)) (by rfl))
  (ms_cons (ms_par 3 4 rfl sc__law_small_right.nd rfl rfl (by decide) rfl rfl (ma_cons (me_call G__law_box (takes_of rfl rfl rfl rfl) hg (hr.mono (by omega)) rfl T.g__law_box T.k__law_box T.bb__law_box .nil (fun _ _ => .nil) rfl (ma_cons (me_v 1) ma_nil)) (ma_cons (me_makeN0 (gD := (fun ds es => argG 0 4 [3, 2, 1, 0] ds [] es)) G_Box_init (takes_of rfl rfl rfl rfl) T.mk_Box (clL_at (by decide)) hg (hr.mono (by omega)) rfl T.g_Box T.kn_Box_init_0_high_right_low_left (fun _ _ _ _ _ _ _ h1 h2 _ _ => .cons (.ref _) (argG_is h1 .nil h2)) (fun _ _ _ _ _ h1 h2 => argG_rt h1 rfl h2) (mk_cons (me_ix (mp_v 2) (mp_e me_int)) (mk_cons (me_ix (mp_v 2) (mp_e me_int)) (mk_cons (me_ix (mp_v 2) (mp_e me_int)) (mk_cons (me_ix (mp_v 2) (mp_e me_int)) mk_nil))))) ma_nil)) (by rfl))
  (ms_cons (ms_if (mt_neS (me_repr hg hr.units rfl T.b_repr (mp_e (me_lst (ma_cons (me_call G__law_told (takes_of rfl rfl rfl rfl) hg (hr.mono (by omega)) rfl T.g__law_told T.k__law_told T.bb__law_told .nil (fun _ _ => .nil) rfl (ma_cons (me_v 3) ma_nil)) (ma_cons (me_call G__law_told (takes_of rfl rfl rfl rfl) hg (hr.mono (by omega)) rfl T.g__law_told T.k__law_told T.bb__law_told .nil (fun _ _ => .nil) rfl (ma_cons (me_v 4) ma_nil)) ma_nil))))) (me_repr hg hr.units rfl T.b_repr (mp_e (me_lst (ma_cons (me_call G__law_due (takes_of rfl rfl rfl rfl) hg (hr.mono (by omega)) rfl T.g__law_due T.k__law_due T.bb__law_due .nil (fun _ _ => .nil) rfl (ma_cons (me_v 1) ma_nil)) (ma_cons (me_call G__law_due (takes_of rfl rfl rfl rfl) hg (hr.mono (by omega)) rfl T.g__law_due T.k__law_due T.bb__law_due .nil (fun _ _ => .nil) rfl (ma_cons (me_v 2) ma_nil)) ma_nil))))))
  (ms_one (ms_ret me_bl))
  ms_nil)
  (ms_cons (ms_set 5 sc__law_small_right.nd rfl (by first | exact .inl rfl | exact .inr rfl) (me_call G__law_cells (takes_of rfl rfl rfl rfl) hg (hr.mono (by omega)) rfl T.g__law_cells T.k__law_cells T.bb__law_cells .nil (fun _ _ => .nil) rfl (ma_cons (me_v 1) ma_nil)))
  (ms_cons (ms_for (passes_of rfl) rfl (mi_rng2 rfl T.b_range (ma_cons (me_neg me_int) (ma_cons me_int ma_nil))) (mg_name 6 sc__law_small_right.nd rfl (by first | exact .inl rfl | exact .inr rfl))
  (ms_one (ms_for (passes_of rfl) rfl (mi_rng2 rfl T.b_range (ma_cons (me_neg me_int) (ma_cons me_int ma_nil))) (mg_name 7 sc__law_small_right.nd rfl (by first | exact .inl rfl | exact .inr rfl))
  (ms_one (ms_if (mt_ne hr.units (mp_e (me_inO G_Box_contains (clL_at (by decide)) T.me_Box_contains hg (hr.mono (by omega)) T.bb_Box_contains (me_tup (ma_cons (me_v 6) (ma_cons (me_v 7) ma_nil))) (me_v 3))) (mp_e (me_inP hr.u65 (mp_e (me_tup (ma_cons (me_v 6) (ma_cons (me_v 7) ma_nil)))) (mp_v 5))))
  (ms_one (ms_ret me_bl))
  ms_nil)))))
  (ms_cons (ms_par 8 9 rfl sc__law_small_right.nd rfl rfl (by decide) rfl rfl (ma_cons (me_call G__law_meet (takes_of rfl rfl rfl rfl) hg (hr.mono (by omega)) rfl T.g__law_meet T.k__law_meet T.bb__law_meet .nil (fun _ _ => .nil) rfl (ma_cons (me_v 1) (ma_cons (me_v 2) ma_nil))) (ma_cons (me_call G__law_around (takes_of rfl rfl rfl rfl) hg (hr.mono (by omega)) rfl T.g__law_around T.k__law_around T.bb__law_around .nil (fun _ _ => .nil) rfl (ma_cons (me_v 1) (ma_cons (me_v 2) ma_nil))) ma_nil)) (by rfl))
  (ms_cons (ms_set 10 sc__law_small_right.nd rfl (by first | exact .inl rfl | exact .inr rfl) (me_add (mp_e (me_rep (mp_e (me_lst (ma_cons (me_if (mt_isN (me_v 8) me_non) me_non (me_call G__law_due (takes_of rfl rfl rfl rfl) hg (hr.mono (by omega)) rfl T.g__law_due T.k__law_due T.bb__law_due .nil (fun _ _ => .nil) rfl (ma_cons (me_v 8) ma_nil))) ma_nil))) (mp_e me_int))) (mp_e (me_rep (mp_e (me_lst (ma_cons (me_call G__law_due (takes_of rfl rfl rfl rfl) hg (hr.mono (by omega)) rfl T.g__law_due T.k__law_due T.bb__law_due .nil (fun _ _ => .nil) rfl (ma_cons (me_v 9) ma_nil)) ma_nil))) (mp_e me_int)))))
  (ms_cons (ms_if (mt_neS (me_repr hg hr.units rfl T.b_repr (mp_e (me_lst (ma_cons (me_call G__law_told (takes_of rfl rfl rfl rfl) hg (hr.mono (by omega)) rfl T.g__law_told T.k__law_told T.bb__law_told .nil (fun _ _ => .nil) rfl (ma_cons (me_binO G_Box_and (clL_at (by decide)) T.me_Box_and T.sf_Box hg (hr.mono (by omega)) T.bb_Box_and (me_v 3) (me_v 4)) ma_nil)) (ma_cons (me_call G__law_told (takes_of rfl rfl rfl rfl) hg (hr.mono (by omega)) rfl T.g__law_told T.k__law_told T.bb__law_told .nil (fun _ _ => .nil) rfl (ma_cons (me_binO G_Box_and (clL_at (by decide)) T.me_Box_and T.sf_Box hg (hr.mono (by omega)) T.bb_Box_and (me_v 4) (me_v 3)) ma_nil)) (ma_cons (me_call G__law_told (takes_of rfl rfl rfl rfl) hg (hr.mono (by omega)) rfl T.g__law_told T.k__law_told T.bb__law_told .nil (fun _ _ => .nil) rfl (ma_cons (me_binO G_Box_or (clL_at (by decide)) T.me_Box_or T.sf_Box hg (hr.mono (by omega)) T.bb_Box_or (me_v 3) (me_v 4)) ma_nil)) (ma_cons (me_call G__law_told (takes_of rfl rfl rfl rfl) hg (hr.mono (by omega)) rfl T.g__law_told T.k__law_told T.bb__law_told .nil (fun _ _ => .nil) rfl (ma_cons (me_binO G_Box_or (clL_at (by decide)) T.me_Box_or T.sf_Box hg (hr.mono (by omega)) T.bb_Box_or (me_v 4) (me_v 3)) ma_nil)) ma_nil))))))) (me_repr hg hr.units rfl T.b_repr (mp_v 10)))
  (ms_one (ms_ret me_bl))
  ms_nil)
  (ms_cons (ms_if (mt_neS (me_repr hg hr.units rfl T.b_repr (mp_e (me_lst (ma_cons (me_call G__law_told (takes_of rfl rfl rfl rfl) hg (hr.mono (by omega)) rfl T.g__law_told T.k__law_told T.bb__law_told .nil (fun _ _ => .nil) rfl (ma_cons (me_v 3) ma_nil)) (ma_cons (me_call G__law_told (takes_of rfl rfl rfl rfl) hg (hr.mono (by omega)) rfl T.g__law_told T.k__law_told T.bb__law_told .nil (fun _ _ => .nil) rfl (ma_cons (me_v 4) ma_nil)) ma_nil))))) (me_repr hg hr.units rfl T.b_repr (mp_e (me_lst (ma_cons (me_call G__law_due (takes_of rfl rfl rfl rfl) hg (hr.mono (by omega)) rfl T.g__law_due T.k__law_due T.bb__law_due .nil (fun _ _ => .nil) rfl (ma_cons (me_v 1) ma_nil)) (ma_cons (me_call G__law_due (takes_of rfl rfl rfl rfl) hg (hr.mono (by omega)) rfl T.g__law_due T.k__law_due T.bb__law_due .nil (fun _ _ => .nil) rfl (ma_cons (me_v 2) ma_nil)) ma_nil))))))
  (ms_one (ms_ret me_bl))
  ms_nil)
  (ms_cons (ms_setO 11 sc__law_small_right.nd rfl (by first | exact .inl rfl | exact .inr rfl) (mn_lst (ma_cons (me_eqO T.eq_Box G_Box_eq (clL_at (by decide)) T.me_Box_eq hg (hr.mono (by omega)) T.bb_Box_eq (me_v 3) (me_v 4)) (ma_cons (me_neO T.eq_Box G_Box_eq (clL_at (by decide)) T.me_Box_eq hg (hr.mono (by omega)) T.bb_Box_eq (me_v 3) (me_v 4)) (ma_cons (me_eqO T.eq_Box G_Box_eq (clL_at (by decide)) T.me_Box_eq hg (hr.mono (by omega)) T.bb_Box_eq (me_v 3) (me_call G__law_box (takes_of rfl rfl rfl rfl) hg (hr.mono (by omega)) rfl T.g__law_box T.k__law_box T.bb__law_box .nil (fun _ _ => .nil) rfl (ma_cons (me_v 1) ma_nil))) (ma_cons (me_eqO T.eq_Box G_Box_eq (clL_at (by decide)) T.me_Box_eq hg (hr.mono (by omega)) T.bb_Box_eq (me_v 3) (me_v 1)) (ma_cons (me_eqO T.eq_Box G_Box_eq (clL_at (by decide)) T.me_Box_eq hg (hr.mono (by omega)) T.bb_Box_eq (me_v 3) (me_strO G_Box_str (clL_at (by decide)) T.me_Box_str hg (hr.mono (by omega)) T.bb_Box_str rfl T.b_str (me_v 3))) (ma_cons (me_eqO T.eq_Box G_Box_eq (clL_at (by decide)) T.me_Box_eq hg (hr.mono (by omega)) T.bb_Box_eq (me_binO G_Box_or (clL_at (by decide)) T.me_Box_or T.sf_Box hg (hr.mono (by omega)) T.bb_Box_or (me_v 3) (me_v 3)) (me_v 3)) ma_nil))))))))
  (ms_cons (ms_do (me_app (mp_v 11) (me_eqNO T.noN_Box T.eq_Box G_Box_eq (clL_at (by decide)) T.me_Box_eq hg (hr.mono (by omega)) T.bb_Box_eq (me_binO G_Box_and (clL_at (by decide)) T.me_Box_and T.sf_Box hg (hr.mono (by omega)) T.bb_Box_and (me_v 3) (me_v 3)) (me_v 3))))
  (ms_one (ms_ret (me_eqS (me_repr hg hr.units rfl T.b_repr (mp_v 11)) (me_repr hg hr.units rfl T.b_repr (mp_e (me_lst (ma_cons (me_eq hr.units (mp_v 1) (mp_v 2)) (ma_cons (me_ne hr.units (mp_v 1) (mp_v 2)) (ma_cons me_bl (ma_cons me_bl (ma_cons me_bl (ma_cons me_bl (ma_cons (me_ne hr.units (mp_v 5) (mp_e (me_lst ma_nil))) ma_nil))))))))))))))))))))))))
theorem ok__law_near (T : Txt K mg fd) : FnG P w K mg base (L2.CX P w) 2 (ga K "_law_near") (fd 20) ["pen", "corners"] (spX K (pfT (clL nmL K) F__law_near)) := by
  have G__law_draw := ok__law_draw (P := P) (w := w) (base := base) T
  exact okT (k := 1) T.F__law_near sc__law_near fun cdv A outer s H E hg hr => (ms_cons (ms_parS 2 3 rfl sc__law_near.nd rfl rfl (by decide) rfl rfl (me_call G__law_draw (takes_of rfl rfl rfl rfl) hg (hr.mono (by omega)) rfl T.g__law_draw T.k__law_draw T.bb__law_draw .nil (fun _ _ => .nil) rfl (ma_cons (me_v 0) (ma_cons me_int ma_nil))) (mn_list rfl rfl T.b_list (mp_v 1)) (by rfl))
  (ms_cons (ms_ixSet (me_add (mp_e (me_ix (mp_v 3) (mp_v 2))) (mp_e (me_if (mt_gt (me_v 2) me_int) me_int (me_neg me_int)))) (mp_v 3) (me_v 2))
  (ms_one (ms_ret (me_tuplec rfl T.b_tuple (mp_v 3))))))
theorem ok__law_far_right (T : Txt K mg fd) : FnG P w K mg base (L2.CX P w) 7 (ga K "_law_far_right") (fd 21) ["pen"] (spX K (pfT (clL nmL K) F__law_far_right)) := by
  have G__law_near := ok__law_near (P := P) (w := w) (base := base) T
  have G__law_box := ok__law_box (P := P) (w := w) (base := base) T
  have G__law_told := ok__law_told (P := P) (w := w) (base := base) T
  have G_Box_eq := ok_Box_eq (P := P) (w := w) (base := base) T
  have G__law_draw := ok__law_draw (P := P) (w := w) (base := base) T
  have G_Box_or := ok_Box_or (P := P) (w := w) (base := base) T
  have G_Box_contains := ok_Box_contains (P := P) (w := w) (base := base) T
  have G__law_due := ok__law_due (P := P) (w := w) (base := base) T
  exact okT (k := 6) T.F__law_far_right sc__law_far_right fun cdv A outer s H E hg hr => (ms_cons (ms_par 1 2 rfl sc__law_far_right.nd rfl rfl (by decide) rfl rfl (ma_cons (me_sub (me_pow me_int me_int) (me_call G__law_draw (takes_of rfl rfl rfl rfl) hg (hr.mono (by omega)) rfl T.g__law_draw T.k__law_draw T.bb__law_draw .nil (fun _ _ => .nil) rfl (ma_cons (me_v 0) (ma_cons (me_pow me_int me_int) ma_nil)))) (ma_cons (me_add (mp_e (me_sub me_int (me_pow me_int me_int))) (mp_e (me_call G__law_draw (takes_of rfl rfl rfl rfl) hg (hr.mono (by omega)) rfl T.g__law_draw T.k__law_draw T.bb__law_draw .nil (fun _ _ => .nil) rfl (ma_cons (me_v 0) (ma_cons (me_pow me_int me_int) ma_nil))))) ma_nil)) (by rfl))
  (ms_cons (ms_set 3 sc__law_far_right.nd rfl (by first | exact .inl rfl | exact .inr rfl) (me_tup (ma_cons (me_v 1) (ma_cons (me_v 2) (ma_cons (me_add (mp_v 1) (mp_e (me_call G__law_draw (takes_of rfl rfl rfl rfl) hg (hr.mono (by omega)) rfl T.g__law_draw T.k__law_draw T.bb__law_draw .nil (fun _ _ => .nil) rfl (ma_cons (me_v 0) (ma_cons (me_pow me_int me_int) ma_nil))))) (ma_cons (me_add (mp_v 2) (mp_e (me_mul (me_call G__law_draw (takes_of rfl rfl rfl rfl) hg (hr.mono (by omega)) rfl T.g__law_draw T.k__law_draw T.bb__law_draw .nil (fun _ _ => .nil) rfl (ma_cons (me_v 0) (ma_cons (me_pow me_int me_int) ma_nil))) (me_pow me_int me_int)))) ma_nil))))))
  (ms_cons (ms_set 4 sc__law_far_right.nd rfl (by first | exact .inl rfl | exact .inr rfl) (me_call G__law_near (takes_of rfl rfl rfl rfl) hg (hr.mono (by omega)) rfl T.g__law_near T.k__law_near T.bb__law_near .nil (fun _ _ => .nil) rfl (ma_cons (me_v 0) (ma_cons (me_v 3) ma_nil))))
  (ms_cons (ms_asg (me_tup (ma_cons (me_call G__law_box (takes_of rfl rfl rfl rfl) hg (hr.mono (by omega)) rfl T.g__law_box T.k__law_box T.bb__law_box .nil (fun _ _ => .nil) rfl (ma_cons (me_v 3) ma_nil)) (ma_cons (me_call G__law_box (takes_of rfl rfl rfl rfl) hg (hr.mono (by omega)) rfl T.g__law_box T.k__law_box T.bb__law_box .nil (fun _ _ => .nil) rfl (ma_cons (me_v 4) ma_nil)) ma_nil))) (mg_any (n := 2) rfl (mgs_cons (mg_name 5 sc__law_far_right.nd rfl (by first | exact .inl rfl | exact .inr rfl)) (mgs_cons (mg_name 6 sc__law_far_right.nd rfl (by first | exact .inl rfl | exact .inr rfl)) mgs_nil))))
  (ms_cons (ms_set 7 sc__law_far_right.nd rfl (by first | exact .inl rfl | exact .inr rfl) (me_lst (ma_cons (me_call G__law_told (takes_of rfl rfl rfl rfl) hg (hr.mono (by omega)) rfl T.g__law_told T.k__law_told T.bb__law_told .nil (fun _ _ => .nil) rfl (ma_cons (me_v 5) ma_nil)) (ma_cons (me_call G__law_told (takes_of rfl rfl rfl rfl) hg (hr.mono (by omega)) rfl T.g__law_told T.k__law_told T.bb__law_told .nil (fun _ _ => .nil) rfl (ma_cons (me_binO G_Box_or (clL_at (by decide)) T.me_Box_or T.sf_Box hg (hr.mono (by omega)) T.bb_Box_or (me_v 5) (me_v 6)) ma_nil)) (ma_cons (me_call G__law_told (takes_of rfl rfl rfl rfl) hg (hr.mono (by omega)) rfl T.g__law_told T.k__law_told T.bb__law_told .nil (fun _ _ => .nil) rfl (ma_cons (me_v 6) ma_nil)) (ma_cons (me_eqO T.eq_Box G_Box_eq (clL_at (by decide)) T.me_Box_eq hg (hr.mono (by omega)) T.bb_Box_eq (me_v 5) (me_v 6)) (ma_cons (me_neO T.eq_Box G_Box_eq (clL_at (by decide)) T.me_Box_eq hg (hr.mono (by omega)) T.bb_Box_eq (me_v 6) (me_v 5)) (ma_cons (me_eqO T.eq_Box G_Box_eq (clL_at (by decide)) T.me_Box_eq hg (hr.mono (by omega)) T.bb_Box_eq (me_v 5) (me_call G__law_box (takes_of rfl rfl rfl rfl) hg (hr.mono (by omega)) rfl T.g__law_box T.k__law_box T.bb__law_box .nil (fun _ _ => .nil) rfl (ma_cons (me_v 3) ma_nil))) ma_nil))))))))
  (ms_cons (ms_if (mt_neS (me_repr hg hr.units rfl T.b_repr (mp_v 7)) (me_repr hg hr.units rfl T.b_repr (mp_e (me_lst (ma_cons (me_call G__law_due (takes_of rfl rfl rfl rfl) hg (hr.mono (by omega)) rfl T.g__law_due T.k__law_due T.bb__law_due .nil (fun _ _ => .nil) rfl (ma_cons (me_v 3) ma_nil)) (ma_cons (me_call G__law_due (takes_of rfl rfl rfl rfl) hg (hr.mono (by omega)) rfl T.g__law_due T.k__law_due T.bb__law_due .nil (fun _ _ => .nil) rfl (ma_cons (me_v 4) ma_nil)) (ma_cons (me_call G__law_due (takes_of rfl rfl rfl rfl) hg (hr.mono (by omega)) rfl T.g__law_due T.k__law_due T.bb__law_due .nil (fun _ _ => .nil) rfl (ma_cons (me_v 4) ma_nil)) (ma_cons me_bl (ma_cons me_bl (ma_cons me_bl ma_nil))))))))))
  (ms_one (ms_ret me_bl))
  ms_nil)
  (ms_cons (ms_set 8 sc__law_far_right.nd rfl (by first | exact .inl rfl | exact .inr rfl) (me_lst (ma_cons (me_tup (ma_cons (me_ix (mp_v 3) (mp_e me_int)) (ma_cons (me_ix (mp_v 3) (mp_e me_int)) ma_nil))) (ma_cons (me_tup (ma_cons (me_sub (me_ix (mp_v 3) (mp_e me_int)) me_int) (ma_cons (me_sub (me_ix (mp_v 3) (mp_e me_int)) me_int) ma_nil))) (ma_cons (me_tup (ma_cons (me_ix (mp_v 3) (mp_e me_int)) (ma_cons (me_ix (mp_v 3) (mp_e me_int)) ma_nil))) (ma_cons (me_tup (ma_cons (me_ix (mp_v 3) (mp_e me_int)) (ma_cons (me_ix (mp_v 3) (mp_e me_int)) ma_nil))) ma_nil))))))
  (ms_cons (ms_set 8 sc__law_far_right.nd rfl (by first | exact .inl rfl | exact .inr rfl) (me_add (mp_v 8) (mp_e (me_lst (ma_cons (me_tup (ma_cons (me_sub (me_ix (mp_v 3) (mp_e me_int)) me_int) (ma_cons (me_ix (mp_v 3) (mp_e me_int)) ma_nil))) (ma_cons (me_tup (ma_cons (me_ix (mp_v 3) (mp_e me_int)) (ma_cons (me_sub (me_ix (mp_v 3) (mp_e me_int)) me_int) ma_nil))) ma_nil))))))
  (ms_cons (ms_set 9 sc__law_far_right.nd rfl (by first | exact .inl rfl | exact .inr rfl) (me_and (me_lt (me_ix (mp_v 3) (mp_e me_int)) (me_ix (mp_v 3) (mp_e me_int))) (me_one (me_lt (me_ix (mp_v 3) (mp_e me_int)) (me_ix (mp_v 3) (mp_e me_int))))))
  (ms_one (ms_ret (me_eq hr.units (mp_e (me_lc [("end", 10)] rfl sc__law_far_right.nd (mi_any (me_v 8)) (blkOk_by (N := N__law_far_right) (sc := defScope s__law_far_right) (by decide +kernel)) (fun _ _ _ _ _ => (mg_name 10 sc__law_far_right.nd rfl (by first | exact .inl rfl | exact .inr rfl))) (fun _ _ _ _ _ => mts_nil) (fun _ _ _ _ _ => (me_inO G_Box_contains (clL_at (by decide)) T.me_Box_contains hg (hr.mono (by omega)) T.bb_Box_contains (me_v 10) (me_v 5))))) (mp_e (me_lst (ma_cons (me_v 9) (ma_cons (me_v 9) (ma_cons me_bl (ma_cons me_bl (ma_cons me_bl (ma_cons me_bl ma_nil))))))))))))))))))))
theorem ok__law_pick (T : Txt K mg fd) : FnG P w K mg base (L2.CX P w) 2 (ga K "_law_pick") (fd 22) ["pen", "some"] (spX K (pfT (clL nmL K) F__law_pick)) := by
  have G__law_draw := ok__law_draw (P := P) (w := w) (base := base) T
  exact okT (k := 1) T.F__law_pick sc__law_pick fun cdv A outer s H E hg hr => (ms_one (ms_ret (me_ix (mp_v 1) (mp_e (me_call G__law_draw (takes_of rfl rfl rfl rfl) hg (hr.mono (by omega)) rfl T.g__law_draw T.k__law_draw T.bb__law_draw .nil (fun _ _ => .nil) rfl (ma_cons (me_v 0) (ma_cons (me_len rfl T.b_len (mp_v 1)) ma_nil)))))))
theorem ok__law_refused (T : Txt K mg fd) : FnG P w K mg base (L2.CX P w) 6 (ga K "_law_refused") (fd 23) ["pen"] (spX K (pfT (clL nmL K) F__law_refused)) := by
  have G__law_corners := ok__law_corners (P := P) (w := w) (base := base) T
  have G__law_pick := ok__law_pick (P := P) (w := w) (base := base) T
  have G__law_box := ok__law_box (P := P) (w := w) (base := base) T
  have G__law_draw := ok__law_draw (P := P) (w := w) (base := base) T
  have G_Box_init := ok_Box_init (P := P) (w := w) (base := base) T
  exact okT (k := 5) T.F__law_refused sc__law_refused fun cdv A outer s H E hg hr => (ms_cons (ms_setO 1 sc__law_refused.nd rfl (by first | exact .inl rfl | exact .inr rfl) (mn_list rfl rfl T.b_list (mp_e (me_call G__law_corners (takes_of rfl rfl rfl rfl) hg (hr.mono (by omega)) rfl T.g__law_corners T.k__law_corners T.bb__law_corners .nil (fun _ _ => .nil) rfl (ma_cons (me_v 0) ma_nil)))))
  (ms_cons (ms_set 2 sc__law_refused.nd rfl (by first | exact .inl rfl | exact .inr rfl) (me_lst (ma_cons me_non (ma_cons me_bl (ma_cons me_bl (ma_cons me_str (ma_cons (me_tup ma_nil) (ma_cons (me_tup (ma_cons me_int ma_nil)) (ma_cons (me_lst (ma_cons me_int ma_nil)) (ma_cons me_dct0 ma_nil))))))))))
  (ms_cons (ms_set 3 sc__law_refused.nd rfl (by first | exact .inl rfl | exact .inr rfl) (me_lst (ma_cons me_str (ma_cons me_str (ma_cons me_str (ma_cons me_str ma_nil))))))
  (ms_cons (ms_for (passes_of rfl) rfl (mi_rng1 rfl T.b_range (ma_cons (me_add (mp_e me_int) (mp_e (me_call G__law_draw (takes_of rfl rfl rfl rfl) hg (hr.mono (by omega)) rfl T.g__law_draw T.k__law_draw T.bb__law_draw .nil (fun _ _ => .nil) rfl (ma_cons (me_v 0) (ma_cons me_int ma_nil))))) ma_nil)) (mg_name 4 sc__law_refused.nd rfl (by first | exact .inl rfl | exact .inr rfl))
  (ms_one (ms_ixSet (me_call G__law_pick (takes_of rfl rfl rfl rfl) hg (hr.mono (by omega)) rfl T.g__law_pick T.k__law_pick T.bb__law_pick .nil (fun _ _ => .nil) rfl (ma_cons (me_v 0) (ma_cons (me_v 2) ma_nil))) (mp_v 1) (me_call G__law_draw (takes_of rfl rfl rfl rfl) hg (hr.mono (by omega)) rfl T.g__law_draw T.k__law_draw T.bb__law_draw .nil (fun _ _ => .nil) rfl (ma_cons (me_v 0) (ma_cons me_int ma_nil))))))
  (ms_cons (ms_set 5 sc__law_refused.nd rfl (by first | exact .inl rfl | exact .inr rfl) me_non)
  (ms_cons (ms_frz 1 (ms_tryE 6 5 (by decide) T.em_BoardError rfl rfl rfl sc__law_refused.nd rfl rfl ⟨rfl, by decide, .inl T.g_BoardError⟩ (takes_of rfl rfl rfl rfl) (fun W pn xe tk => (me_call G__law_box tk hg (hr.mono (by omega)) rfl T.g__law_box T.k__law_box T.bb__law_box .nil (fun _ _ => .nil) rfl (ma_cons (me_v 1) ma_nil))) (fun _ _ _ => ds_one (ds_set 5 sc__law_refused.nd rfl (by first | exact .inl rfl | exact .inr rfl) (de_var 6)))))
  (ms_cons (ms_frz 1 (ms_setLc 7 [("word", 14), ("value", 15)] rfl sc__law_refused.nd rfl rfl (sw_true rfl rfl rfl (by decide +kernel)) (mi_zip rfl T.b_zip (ma_cons (me_v 3) (ma_cons (me_v 1) ma_nil))) (blkOk_by (N := N__law_refused) (sc := defScope s__law_refused) (by decide +kernel)) (fun _ _ _ _ _ => (mg_any (n := 2) rfl (mgs_cons (mg_name 14 sc__law_refused.nd rfl (by first | exact .inl rfl | exact .inr rfl)) (mgs_cons (mg_name 15 sc__law_refused.nd rfl (by first | exact .inl rfl | exact .inr rfl)) mgs_nil)))) (fun _ _ _ _ _ => (mts_one (mt_w (mw_or (mt_v (me_is T.tab (fun _ => nofun) rfl T.b_isinstance (mp_v 15) (mcls_ty rfl T.b_bool (by decide +kernel)))) (mw_or1 (mt_not (mt_v (me_is T.tab (fun _ => nofun) rfl T.b_isinstance (mp_v 15) (mcls_ty rfl T.b_int (by decide +kernel)))))))))) (fun _ _ _ _ _ => (me_v 14))))
  (ms_cons (ms_if (mt_w (mw_or (mt_not (mt_v (me_is T.tab (fun _ => nofun) rfl T.b_isinstance (mp_v 5) (mcls_own rfl T.g_BadNumber (clL_at (by decide)))))) (mw_or (mt_v (me_isM T.tab (by decide) rfl T.b_isinstance (mp_v 5) (mclss_cons (mcls_own rfl T.g_BadName (clL_at (by decide))) (mclss_cons (mcls_own rfl T.g_BadStamp (clL_at (by decide))) (mclss_cons (mcls_own rfl T.g_Nothing (clL_at (by decide))) mclss_nil))) (by decide))) (mw_or1 (mt_ne hr.units (mp_e (me_xf T.xf_part (mp_v 5))) (mp_e (me_ix (mp_v 7) (mp_e me_int))))))))
  (ms_one (ms_ret me_bl))
  ms_nil)
  (ms_cons (ms_asg (me_call G__law_corners (takes_of rfl rfl rfl rfl) hg (hr.mono (by omega)) rfl T.g__law_corners T.k__law_corners T.bb__law_corners .nil (fun _ _ => .nil) rfl (ma_cons (me_v 0) ma_nil)) (mg_any (n := 4) rfl (mgs_cons (mg_name 8 sc__law_refused.nd rfl (by first | exact .inl rfl | exact .inr rfl)) (mgs_cons (mg_name 9 sc__law_refused.nd rfl (by first | exact .inl rfl | exact .inr rfl)) (mgs_cons (mg_name 10 sc__law_refused.nd rfl (by first | exact .inl rfl | exact .inr rfl)) (mgs_cons (mg_name 11 sc__law_refused.nd rfl (by first | exact .inl rfl | exact .inr rfl)) mgs_nil))))))
  (ms_cons (ms_par 12 13 rfl sc__law_refused.nd rfl rfl (by decide) rfl rfl (ma_cons (me_call G__law_draw (takes_of rfl rfl rfl rfl) hg (hr.mono (by omega)) rfl T.g__law_draw T.k__law_draw T.bb__law_draw .nil (fun _ _ => .nil) rfl (ma_cons (me_v 0) (ma_cons me_int ma_nil))) (ma_cons (me_call G__law_draw (takes_of rfl rfl rfl rfl) hg (hr.mono (by omega)) rfl T.g__law_draw T.k__law_draw T.bb__law_draw .nil (fun _ _ => .nil) rfl (ma_cons (me_v 0) (ma_cons me_int ma_nil))) ma_nil)) (by rfl))
  (ms_cons (ms_set 5 sc__law_refused.nd rfl (by first | exact .inl rfl | exact .inr rfl) me_non)
  (ms_cons (ms_tryE 6 5 (by decide) T.em_BoardError rfl rfl rfl sc__law_refused.nd rfl rfl ⟨rfl, by decide, .inl T.g_BoardError⟩ (takes_of rfl rfl rfl rfl) (fun W pn xe tk => (me_make G_Box_init tk T.mk_Box (clL_at (by decide)) hg (hr.mono (by omega)) rfl T.g_Box T.bb_Box_init .nil (fun _ _ => .nil) rfl (ma_cons (me_v 8) (ma_cons (me_v 9) (ma_cons (me_if (mt_eq hr.units (mp_v 12) (mp_e me_int)) (me_sub (me_v 8) me_int) (me_v 10)) (ma_cons (me_if (mt_w (mw_or (mt_eq hr.units (mp_v 12) (mp_e me_int)) (mw_or1 (mt_eq hr.units (mp_v 13) (mp_e me_int))))) (me_sub (me_v 9) (me_pow me_int me_int)) (me_v 11)) ma_nil)))))) (fun _ _ _ => ds_one (ds_set 5 sc__law_refused.nd rfl (by first | exact .inl rfl | exact .inr rfl) (de_var 6))))
  (ms_one (ms_ret (me_and (me_is T.tab (fun _ => nofun) rfl T.b_isinstance (mp_v 5) (mcls_own rfl T.g_BadNumber (clL_at (by decide)))) (me_one (me_eq hr.units (mp_e (me_xf T.xf_part (mp_v 5))) (mp_e (me_if (mt_eq hr.units (mp_v 12) (mp_e me_int)) me_str me_str)))))))))))))))))))
theorem ok_law (T : Txt K mg fd) : FnG P w K mg base (L2.CX P w) 8 (ga K "law") (fd 24) ["script"] (spX K (pfT (clL nmL K) F_law)) := by
  have G__law_pen := ok__law_pen (P := P) (w := w) (base := base) T
  have G__law_odd_cells := ok__law_odd_cells (P := P) (w := w) (base := base) T
  have G__law_small_right := ok__law_small_right (P := P) (w := w) (base := base) T
  have G__law_far_right := ok__law_far_right (P := P) (w := w) (base := base) T
  have G__law_refused := ok__law_refused (P := P) (w := w) (base := base) T
  exact okT (k := 7) T.F_law sc_law fun cdv A outer s H E hg hr => (ms_cons (ms_set 1 sc_law.nd rfl (by first | exact .inl rfl | exact .inr rfl) (me_call G__law_pen (takes_of rfl rfl rfl rfl) hg (hr.mono (by omega)) rfl T.g__law_pen T.k__law_pen T.bb__law_pen .nil (fun _ _ => .nil) rfl (ma_cons (me_v 0) ma_nil)))
  (ms_cons (ms_for (passes_of rfl) rfl (mi_rng1 rfl T.b_range (ma_cons me_int ma_nil)) (mg_name 2 sc_law.nd rfl (by first | exact .inl rfl | exact .inr rfl))
  (ms_one (ms_if (mt_w (mw_or (mt_not (mt_v (me_call G__law_small_right (takes_of rfl rfl rfl rfl) hg (hr.mono (by omega)) rfl T.g__law_small_right T.k__law_small_right T.bb__law_small_right .nil (fun _ _ => .nil) rfl (ma_cons (me_v 1) ma_nil)))) (mw_or (mt_not (mt_v (me_call G__law_far_right (takes_of rfl rfl rfl rfl) hg (hr.mono (by omega)) rfl T.g__law_far_right T.k__law_far_right T.bb__law_far_right .nil (fun _ _ => .nil) rfl (ma_cons (me_v 1) ma_nil)))) (mw_or1 (mt_not (mt_v (me_call G__law_refused (takes_of rfl rfl rfl rfl) hg (hr.mono (by omega)) rfl T.g__law_refused T.k__law_refused T.bb__law_refused .nil (fun _ _ => .nil) rfl (ma_cons (me_v 1) ma_nil))))))))
  (ms_one (ms_ret me_bl))
  ms_nil)))
  (ms_one (ms_ret (me_call G__law_odd_cells (takes_of rfl rfl rfl rfl) hg (hr.mono (by omega)) rfl T.g__law_odd_cells T.k__law_odd_cells T.bb__law_odd_cells .nil (fun _ _ => .nil) rfl (ma_cons (me_v 1) ma_nil))))))
end
end Loneboard_k48_boxes

set_option Elab.async false
set_option linter.all false
set_option maxRecDepth 100000
set_option maxHeartbeats 0
/-! k48: the head, the law. -/
namespace Loneboard_k48_boxes
open PySem PySem.Spec PyProof.Rows L2 Dl He Fl
theorem kn_Box_init_0_high_right_low_left_all {K : PySem.W.Frag} {f : Addr} {fd : FuncData} (F : FunD K "__init__" "Box.__init__" (defArgs s_Box_init) (defBody s_Box_init) (defScope s_Box_init) [] [] f fd) (us ws : List Value) (l1 : us.length = 1) (l2 : ws.length = (["high", "right", "low", "left"] : List Str).length) (s : Shared) : BindsTo s fd ⟨us, (["high", "right", "low", "left"] : List Str).zip ws⟩ ((["self", "left", "low", "right", "high"] : List Str).zip (selfG (fun us ws => argG 0 4 [3, 2, 1, 0] us [] ws) us ws)) := by
  match us, l1, ws, l2 with
  | [u0], _, [w0, w1, w2, w3], _ => exact bindsW F (fun _ _ _ _ _ _ => rfl) s
def d__law_pen : He.DefD := ⟨("_law_pen", none), "_law_pen", "_law_pen", defArgs s__law_pen, defBody s__law_pen, defScope s__law_pen, [], []⟩
def d_is_integer : He.DefD := ⟨("is_integer", none), "is_integer", "is_integer", defArgs s_is_integer, defBody s_is_integer, defScope s_is_integer, [], []⟩
def d_Box_init : He.DefD := ⟨("Box", some "__init__"), "__init__", "Box.__init__", defArgs s_Box_init, defBody s_Box_init, defScope s_Box_init, [], []⟩
def d_is_cell : He.DefD := ⟨("is_cell", none), "is_cell", "is_cell", defArgs s_is_cell, defBody s_is_cell, defScope s_is_cell, [], []⟩
def d_Box_contains : He.DefD := ⟨("Box", some "__contains__"), "__contains__", "Box.__contains__", defArgs s_Box_contains, defBody s_Box_contains, defScope s_Box_contains, [], []⟩
def d__law_odd_cells : He.DefD := ⟨("_law_odd_cells", none), "_law_odd_cells", "_law_odd_cells", defArgs s__law_odd_cells, defBody s__law_odd_cells, defScope s__law_odd_cells, [], []⟩
def d__law_cells : He.DefD := ⟨("_law_cells", none), "_law_cells", "_law_cells", defArgs s__law_cells, defBody s__law_cells, defScope s__law_cells, [], []⟩
def d__law_draw : He.DefD := ⟨("_law_draw", none), "_law_draw", "_law_draw", defArgs s__law_draw, defBody s__law_draw, defScope s__law_draw, [], []⟩
def d__law_corners : He.DefD := ⟨("_law_corners", none), "_law_corners", "_law_corners", defArgs s__law_corners, defBody s__law_corners, defScope s__law_corners, [], []⟩
def d__law_box : He.DefD := ⟨("_law_box", none), "_law_box", "_law_box", defArgs s__law_box, defBody s__law_box, defScope s__law_box, [], []⟩
def d__law_meet : He.DefD := ⟨("_law_meet", none), "_law_meet", "_law_meet", defArgs s__law_meet, defBody s__law_meet, defScope s__law_meet, [], []⟩
def d__law_around : He.DefD := ⟨("_law_around", none), "_law_around", "_law_around", defArgs s__law_around, defBody s__law_around, defScope s__law_around, [], []⟩
def d_Box_eq : He.DefD := ⟨("Box", some "__eq__"), "__eq__", "Box.__eq__", defArgs s_Box_eq, defBody s_Box_eq, defScope s_Box_eq, [], []⟩
def d_Box_str : He.DefD := ⟨("Box", some "__str__"), "__str__", "Box.__str__", defArgs s_Box_str, defBody s_Box_str, defScope s_Box_str, [], []⟩
def d_Box_or : He.DefD := ⟨("Box", some "__or__"), "__or__", "Box.__or__", defArgs s_Box_or, defBody s_Box_or, defScope s_Box_or, [], []⟩
def d_Box_and : He.DefD := ⟨("Box", some "__and__"), "__and__", "Box.__and__", defArgs s_Box_and, defBody s_Box_and, defScope s_Box_and, [], []⟩
def d_Box_size : He.DefD := ⟨("Box", some "size"), "size", "Box.size", defArgs s_Box_size, defBody s_Box_size, defScope s_Box_size, [], []⟩
def d__law_told : He.DefD := ⟨("_law_told", none), "_law_told", "_law_told", defArgs s__law_told, defBody s__law_told, defScope s__law_told, [], []⟩
def d__law_due : He.DefD := ⟨("_law_due", none), "_law_due", "_law_due", defArgs s__law_due, defBody s__law_due, defScope s__law_due, [], []⟩
def d__law_small_right : He.DefD := ⟨("_law_small_right", none), "_law_small_right", "_law_small_right", defArgs s__law_small_right, defBody s__law_small_right, defScope s__law_small_right, [], []⟩
def d__law_near : He.DefD := ⟨("_law_near", none), "_law_near", "_law_near", defArgs s__law_near, defBody s__law_near, defScope s__law_near, [], []⟩
def d__law_far_right : He.DefD := ⟨("_law_far_right", none), "_law_far_right", "_law_far_right", defArgs s__law_far_right, defBody s__law_far_right, defScope s__law_far_right, [], []⟩
def d__law_pick : He.DefD := ⟨("_law_pick", none), "_law_pick", "_law_pick", defArgs s__law_pick, defBody s__law_pick, defScope s__law_pick, [], []⟩
def d__law_refused : He.DefD := ⟨("_law_refused", none), "_law_refused", "_law_refused", defArgs s__law_refused, defBody s__law_refused, defScope s__law_refused, [], []⟩
def d_law : He.DefD := ⟨("law", none), "law", "law", defArgs s_law, defBody s_law, defScope s_law, [], []⟩
def d_BadNumber_init : He.DefD := ⟨("BadNumber", some "__init__"), "__init__", "BadNumber.__init__", defArgs s_BadNumber_init, defBody s_BadNumber_init, defScope s_BadNumber_init, [], []⟩
def fnL : List DefB := [glB d__law_pen, glB d_is_integer, glB d_Box_init, glB d_is_cell, glB d_Box_contains, glB d__law_odd_cells, glB d__law_cells, glB d__law_draw, glB d__law_corners, glB d__law_box, glB d__law_meet, glB d__law_around, glB d_Box_eq, glB d_Box_str, glB d_Box_or, glB d_Box_and, prB "Box" "size" d_Box_size, glB d__law_told, glB d__law_due, glB d__law_small_right, glB d__law_near, glB d__law_far_right, glB d__law_pick, glB d__law_refused, glB d_law, glB d_BadNumber_init]
def tsL : List (PySem.W.Frag → Bool) := [(Fa.free "range").ok,
  (Fa.free "list").ok,
  (Fa.free "repr").ok,
  (Fa.free "str").ok,
  (Fa.free "isinstance").ok,
  (Fa.free "zip").ok,
  (Fa.free "bool").ok,
  (Fa.free "int").ok,
  (Fa.free "NotImplemented").ok,
  (Fa.free "max").ok,
  (Fa.free "min").ok,
  (Fa.free "tuple").ok,
  (Fa.free "len").ok,
  (Fa.free "abs").ok,
  (Fa.free "property").ok,
  (Fa.glo "_law_pen").ok,
  (Fa.glo "is_integer").ok,
  (Fa.glo "is_cell").ok,
  (Fa.glo "_law_odd_cells").ok,
  (Fa.glo "_law_cells").ok,
  (Fa.glo "_law_draw").ok,
  (Fa.glo "_law_corners").ok,
  (Fa.glo "_law_box").ok,
  (Fa.glo "_law_meet").ok,
  (Fa.glo "_law_around").ok,
  (Fa.glo "_law_told").ok,
  (Fa.glo "_law_due").ok,
  (Fa.glo "_law_small_right").ok,
  (Fa.glo "_law_near").ok,
  (Fa.glo "_law_far_right").ok,
  (Fa.glo "_law_pick").ok,
  (Fa.glo "_law_refused").ok,
  (Fa.glo "law").ok,
  (Fa.glo "BoardError").ok,
  (Fa.glo "BadName").ok,
  (Fa.glo "BadNumber").ok,
  (Fa.glo "BadStamp").ok,
  (Fa.glo "Nothing").ok,
  (Fa.glo "Box").ok,
  fun K => insB K (ga K "Box"),
  mkB "Box",
  fun K => decide (PySem.W.subIn K (.ref (ga K "Box")) (.type "NoneType") = some false),
  eqOB "Box",
  fun K => PySem.W.selfFirst K (ga K "Box"),
  methB "Box" "__contains__",
  methB "Box" "__eq__",
  methB "Box" "__and__",
  methB "Box" "__or__",
  methB "Box" "__str__",
  propB "Box" "size",
  exB "BadNumber",
  nofB "BadNumber" "part",
  fldB nmL [5] "left",
  fldB nmL [5] "low",
  fldB nmL [5] "right",
  fldB nmL [5] "high",
  xfdB nmL [2] "part",
  emB nmL em_BoardError "BoardError",
  tabD.okB]
abbrev RR : PySem.W.OpenRow := PySem.W.OpenLaw.row PySem.Challenge.rw_oneboard_k48_boxes
abbrev hkL : PySem.W.Hook := hookB 5 (wdL tsL) fnL
def obL (s : PySem.W.SharedT) : He.AlD := obsBG 5 (wdL tsL) fnL (HandSHeadRun.getT s)
theorem obL_eq (s : PySem.W.SharedT) : obL s = hkL.obs s.abs := obsBG_eq (HandSHeadRun.getT_eq s)
abbrev looseL : List PySem.Str := ["is_integer", "BoardError", "BadName", "BadNumber", "BadStamp", "Nothing", "is_cell", "Box", "_law_pen", "_law_draw", "_law_pick", "_law_corners", "_law_box", "_law_cells", "_law_told", "_law_due", "_law_meet", "_law_around", "_law_small_right", "_law_near", "_law_far_right", "_law_odd_cells", "_law_refused"]
theorem runL (w : World) : HandSHeadRun.RunEq RR (PySem.W.view RR.prog [27]) hkL obL 4000 looseL w := by
  intro os
  kernel_rfl
def fdAt (f0 f1 f2 f3 f4 f5 f6 f7 f8 f9 f10 f11 f12 f13 f14 f15 f16 f17 f18 f19 f20 f21 f22 f23 f24 f25 d : FuncData) : Nat → FuncData
  | 0 => f0
  | 1 => f1
  | 2 => f2
  | 3 => f3
  | 4 => f4
  | 5 => f5
  | 6 => f6
  | 7 => f7
  | 8 => f8
  | 9 => f9
  | 10 => f10
  | 11 => f11
  | 12 => f12
  | 13 => f13
  | 14 => f14
  | 15 => f15
  | 16 => f16
  | 17 => f17
  | 18 => f18
  | 19 => f19
  | 20 => f20
  | 21 => f21
  | 22 => f22
  | 23 => f23
  | 24 => f24
  | 25 => f25
  | _ => d
theorem txtHd {K : PySem.W.Frag} {h : Heap} {mg : Str → Option Value} (X : K.In h) (G : h.Ns mainGlobals mg) (c : SaysB (wdL tsL) fnL K) : ∃ fd : Nat → FuncData, Txt K mg fd := by
  have wd := c.word
  obtain ⟨f0, F0⟩ := c.def_ 0 (b := glB d__law_pen) rfl
  obtain ⟨f1, F1⟩ := c.def_ 1 (b := glB d_is_integer) rfl
  obtain ⟨f2, F2⟩ := c.def_ 2 (b := glB d_Box_init) rfl
  obtain ⟨f3, F3⟩ := c.def_ 3 (b := glB d_is_cell) rfl
  obtain ⟨f4, F4⟩ := c.def_ 4 (b := glB d_Box_contains) rfl
  obtain ⟨f5, F5⟩ := c.def_ 5 (b := glB d__law_odd_cells) rfl
  obtain ⟨f6, F6⟩ := c.def_ 6 (b := glB d__law_cells) rfl
  obtain ⟨f7, F7⟩ := c.def_ 7 (b := glB d__law_draw) rfl
  obtain ⟨f8, F8⟩ := c.def_ 8 (b := glB d__law_corners) rfl
  obtain ⟨f9, F9⟩ := c.def_ 9 (b := glB d__law_box) rfl
  obtain ⟨f10, F10⟩ := c.def_ 10 (b := glB d__law_meet) rfl
  obtain ⟨f11, F11⟩ := c.def_ 11 (b := glB d__law_around) rfl
  obtain ⟨f12, F12⟩ := c.def_ 12 (b := glB d_Box_eq) rfl
  obtain ⟨f13, F13⟩ := c.def_ 13 (b := glB d_Box_str) rfl
  obtain ⟨f14, F14⟩ := c.def_ 14 (b := glB d_Box_or) rfl
  obtain ⟨f15, F15⟩ := c.def_ 15 (b := glB d_Box_and) rfl
  obtain ⟨f16, F16⟩ := c.def_ 16 (b := prB "Box" "size" d_Box_size) rfl
  obtain ⟨f17, F17⟩ := c.def_ 17 (b := glB d__law_told) rfl
  obtain ⟨f18, F18⟩ := c.def_ 18 (b := glB d__law_due) rfl
  obtain ⟨f19, F19⟩ := c.def_ 19 (b := glB d__law_small_right) rfl
  obtain ⟨f20, F20⟩ := c.def_ 20 (b := glB d__law_near) rfl
  obtain ⟨f21, F21⟩ := c.def_ 21 (b := glB d__law_far_right) rfl
  obtain ⟨f22, F22⟩ := c.def_ 22 (b := glB d__law_pick) rfl
  obtain ⟨f23, F23⟩ := c.def_ 23 (b := glB d__law_refused) rfl
  obtain ⟨f24, F24⟩ := c.def_ 24 (b := glB d_law) rfl
  obtain ⟨f25, F25⟩ := c.def_ 25 (b := glB d_BadNumber_init) rfl
  refine ⟨fdAt f0 f1 f2 f3 f4 f5 f6 f7 f8 f9 f10 f11 f12 f13 f14 f15 f16 f17 f18 f19 f20 f21 f22 f23 f24 f25 f0, {
    b_range := free_ok X G (wd_at wd 0),
    b_list := free_ok X G (wd_at wd 1),
    b_repr := free_ok X G (wd_at wd 2),
    b_str := free_ok X G (wd_at wd 3),
    b_isinstance := free_ok X G (wd_at wd 4),
    b_zip := free_ok X G (wd_at wd 5),
    b_bool := free_ok X G (wd_at wd 6),
    b_int := free_ok X G (wd_at wd 7),
    b_NotImplemented := free_ok X G (wd_at wd 8),
    b_max := free_ok X G (wd_at wd 9),
    b_min := free_ok X G (wd_at wd 10),
    b_tuple := free_ok X G (wd_at wd 11),
    b_len := free_ok X G (wd_at wd 12),
    b_abs := free_ok X G (wd_at wd 13),
    b_property := free_ok X G (wd_at wd 14),
    g__law_pen := glo_ok X G (wd_at wd 15),
    g_is_integer := glo_ok X G (wd_at wd 16),
    g_is_cell := glo_ok X G (wd_at wd 17),
    g__law_odd_cells := glo_ok X G (wd_at wd 18),
    g__law_cells := glo_ok X G (wd_at wd 19),
    g__law_draw := glo_ok X G (wd_at wd 20),
    g__law_corners := glo_ok X G (wd_at wd 21),
    g__law_box := glo_ok X G (wd_at wd 22),
    g__law_meet := glo_ok X G (wd_at wd 23),
    g__law_around := glo_ok X G (wd_at wd 24),
    g__law_told := glo_ok X G (wd_at wd 25),
    g__law_due := glo_ok X G (wd_at wd 26),
    g__law_small_right := glo_ok X G (wd_at wd 27),
    g__law_near := glo_ok X G (wd_at wd 28),
    g__law_far_right := glo_ok X G (wd_at wd 29),
    g__law_pick := glo_ok X G (wd_at wd 30),
    g__law_refused := glo_ok X G (wd_at wd 31),
    g_law := glo_ok X G (wd_at wd 32),
    g_BoardError := glo_ok X G (wd_at wd 33),
    g_BadName := glo_ok X G (wd_at wd 34),
    g_BadNumber := glo_ok X G (wd_at wd 35),
    g_BadStamp := glo_ok X G (wd_at wd 36),
    g_Nothing := glo_ok X G (wd_at wd 37),
    g_Box := glo_ok X G (wd_at wd 38),
    ins_Box := wd_at wd 39,
    mk_Box := mkB_ok (wd_at wd 40),
    noN_Box := of_decide_eq_true (wd_at wd 41),
    eq_Box := eqOB_ok (wd_at wd 42),
    sf_Box := wd_at wd 43,
    me_Box_contains := methB_ok (wd_at wd 44),
    me_Box_eq := methB_ok (wd_at wd 45),
    me_Box_and := methB_ok (wd_at wd 46),
    me_Box_or := methB_ok (wd_at wd 47),
    me_Box_str := methB_ok (wd_at wd 48),
    pr_Box_size := propB_ok (wd_at wd 49),
    ex_BadNumber := exB_ok (wd_at wd 50),
    no_BadNumber_part := nofB_ok (wd_at wd 51),
    fl_left := fldB_ok (wd_at wd 52),
    fl_low := fldB_ok (wd_at wd 53),
    fl_right := fldB_ok (wd_at wd 54),
    fl_high := fldB_ok (wd_at wd 55),
    xf_part := xfdB_ok (wd_at wd 56),
    em_BoardError := emB_ok (wd_at wd 57),
    tab := TabD.ok (wd_at wd 58),
    F__law_pen := F0,
    bb__law_pen := (F0.bindsN (ps := ["script"]) (fun _ _ _ _ _ _ us hl => match us, hl with | [_], _ => rfl)),
    k__law_pen := F0.kp,
    F_is_integer := F1,
    bb_is_integer := (F1.bindsN (ps := ["value"]) (fun _ _ _ _ _ _ us hl => match us, hl with | [_], _ => rfl)),
    k_is_integer := F1.kp,
    F_Box_init := F2,
    bb_Box_init := (F2.bindsN (ps := ["self", "left", "low", "right", "high"]) (fun _ _ _ _ _ _ us hl => match us, hl with | [_, _, _, _, _], _ => rfl)),
    F_is_cell := F3,
    bb_is_cell := (F3.bindsN (ps := ["value"]) (fun _ _ _ _ _ _ us hl => match us, hl with | [_], _ => rfl)),
    k_is_cell := F3.kp,
    F_Box_contains := F4,
    bb_Box_contains := (F4.bindsN (ps := ["self", "cell"]) (fun _ _ _ _ _ _ us hl => match us, hl with | [_, _], _ => rfl)),
    F__law_odd_cells := F5,
    bb__law_odd_cells := (F5.bindsN (ps := ["pen"]) (fun _ _ _ _ _ _ us hl => match us, hl with | [_], _ => rfl)),
    k__law_odd_cells := F5.kp,
    F__law_cells := F6,
    bb__law_cells := (F6.bindsN (ps := ["corners"]) (fun _ _ _ _ _ _ us hl => match us, hl with | [_], _ => rfl)),
    k__law_cells := F6.kp,
    F__law_draw := F7,
    bb__law_draw := (F7.bindsN (ps := ["pen", "many"]) (fun _ _ _ _ _ _ us hl => match us, hl with | [_, _], _ => rfl)),
    k__law_draw := F7.kp,
    F__law_corners := F8,
    bb__law_corners := (F8.bindsN (ps := ["pen"]) (fun _ _ _ _ _ _ us hl => match us, hl with | [_], _ => rfl)),
    k__law_corners := F8.kp,
    F__law_box := F9,
    bb__law_box := (F9.bindsN (ps := ["corners"]) (fun _ _ _ _ _ _ us hl => match us, hl with | [_], _ => rfl)),
    k__law_box := F9.kp,
    F__law_meet := F10,
    bb__law_meet := (F10.bindsN (ps := ["one", "other"]) (fun _ _ _ _ _ _ us hl => match us, hl with | [_, _], _ => rfl)),
    k__law_meet := F10.kp,
    F__law_around := F11,
    bb__law_around := (F11.bindsN (ps := ["one", "other"]) (fun _ _ _ _ _ _ us hl => match us, hl with | [_, _], _ => rfl)),
    k__law_around := F11.kp,
    F_Box_eq := F12,
    bb_Box_eq := (F12.bindsN (ps := ["self", "other"]) (fun _ _ _ _ _ _ us hl => match us, hl with | [_, _], _ => rfl)),
    F_Box_str := F13,
    bb_Box_str := (F13.bindsN (ps := ["self"]) (fun _ _ _ _ _ _ us hl => match us, hl with | [_], _ => rfl)),
    F_Box_or := F14,
    bb_Box_or := (F14.bindsN (ps := ["self", "other"]) (fun _ _ _ _ _ _ us hl => match us, hl with | [_, _], _ => rfl)),
    F_Box_and := F15,
    bb_Box_and := (F15.bindsN (ps := ["self", "other"]) (fun _ _ _ _ _ _ us hl => match us, hl with | [_, _], _ => rfl)),
    F_Box_size := F16,
    bb_Box_size := (F16.bindsN (ps := ["self"]) (fun _ _ _ _ _ _ us hl => match us, hl with | [_], _ => rfl)),
    F__law_told := F17,
    bb__law_told := (F17.bindsN (ps := ["box"]) (fun _ _ _ _ _ _ us hl => match us, hl with | [_], _ => rfl)),
    k__law_told := F17.kp,
    F__law_due := F18,
    bb__law_due := (F18.bindsN (ps := ["corners"]) (fun _ _ _ _ _ _ us hl => match us, hl with | [_], _ => rfl)),
    k__law_due := F18.kp,
    F__law_small_right := F19,
    bb__law_small_right := (F19.bindsN (ps := ["pen"]) (fun _ _ _ _ _ _ us hl => match us, hl with | [_], _ => rfl)),
    k__law_small_right := F19.kp,
    F__law_near := F20,
    bb__law_near := (F20.bindsN (ps := ["pen", "corners"]) (fun _ _ _ _ _ _ us hl => match us, hl with | [_, _], _ => rfl)),
    k__law_near := F20.kp,
    F__law_far_right := F21,
    bb__law_far_right := (F21.bindsN (ps := ["pen"]) (fun _ _ _ _ _ _ us hl => match us, hl with | [_], _ => rfl)),
    k__law_far_right := F21.kp,
    F__law_pick := F22,
    bb__law_pick := (F22.bindsN (ps := ["pen", "some"]) (fun _ _ _ _ _ _ us hl => match us, hl with | [_, _], _ => rfl)),
    k__law_pick := F22.kp,
    F__law_refused := F23,
    bb__law_refused := (F23.bindsN (ps := ["pen"]) (fun _ _ _ _ _ _ us hl => match us, hl with | [_], _ => rfl)),
    k__law_refused := F23.kp,
    F_law := F24,
    bb_law := (F24.bindsN (ps := ["script"]) (fun _ _ _ _ _ _ us hl => match us, hl with | [_], _ => rfl)),
    k_law := F24.kp,
    F_BadNumber_init := F25,
    bb_BadNumber_init := (F25.bindsN (ps := ["self", "part"]) (fun _ _ _ _ _ _ us hl => match us, hl with | [_, _], _ => rfl)),
    kn_Box_init_0_high_right_low_left := ⟨fun s us ws _ l1 l2 => kn_Box_init_0_high_right_low_left_all F2 us ws l1 l2 s, fun r1 r2 => selfG_vals (fun h1 h2 => argG_vals h1 .nil h2) r1 r2⟩ }⟩
theorem factsL {P : Program} {w : World} {K : PySem.W.Frag} {h : Heap} {mg : Str → Option Value} {f : Addr} (X : K.In h) (G : h.Ns mainGlobals mg) (hfa : mg ("law" : Str) = some (.ref f)) (c : SaysB (wdL tsL) fnL K) :
    ∃ fd : FuncData, (∀ (s : Shared) (v : Value), BindsTo s fd ⟨[v], []⟩ [("script", v)]) ∧ ∀ base : Heap, K.In base → base.Ns mainGlobals mg → FnG P w K mg base CX0 8 f fd ["script"] (spD K fun ds M k => pfT (clL nmL K) F_law ds M k noX) := by
  obtain ⟨fd, T⟩ := txtHd X G c
  have e := hfa.symm.trans T.g_law
  cases e
  have b := FunD.bindsA (ps := ["script"]) T.F_law fun _ _ _ _ _ _ us hl => match us, hl with | [_], _ => rfl
  exact ⟨fd 24, fun s v => b s [v] rfl, fun base _ _ => fng_calm (ok_law T)⟩
end Loneboard_k48_boxes
open PySem PySem.W PySem.Calls PyProof.Rows
theorem PySem.Challenge.cw_oneboard_k48_boxes_holds : PySem.Challenge.rw_oneboard_k48_boxes.Holds := by
  w_on; o_law
  refine HandSHeadRun.head_any (r := OpenLaw.row PySem.Challenge.rw_oneboard_k48_boxes) (q := view (OpenLaw.row PySem.Challenge.rw_oneboard_k48_boxes).prog [27]) (H := Loneboard_k48_boxes.hkL) (ob := Loneboard_k48_boxes.obL) (M := 4000) (loose := Loneboard_k48_boxes.looseL) (d := HandSHeadRun.topDef (OpenLaw.row PySem.Challenge.rw_oneboard_k48_boxes).prog 27) (kwd := []) Loneboard_k48_boxes.obL_eq
    (by kernel_rfl) (fun s => by kernel_rfl) Loneboard_k48_boxes.runL (by kernel_rfl) (by kernel_rfl) (by kernel_rfl) (by rfl) (by first | assumption | decide +kernel) (by decide +kernel) ⟨rfl, rfl, rfl, rfl, rfl, by decide +kernel⟩ ?hw ?hc
  case hw => w_witness2
  case hc =>
    refine Dl.walkG (l := PySem.Challenge.rw_oneboard_k48_boxes) (n := 63) (k := 8) (x := "script") rfl (by decide) (by kernel_rfl) ⟨rfl, by decide, by decide⟩ ?F
    intro w mg fa h Y G hmg0
    obtain ⟨K, KX, c⟩ := Y
    have hmg : mg ("law" : PySem.Str) = some (.ref fa) := by
      have e : (HandSHeadRun.topDef (OpenLaw.row PySem.Challenge.rw_oneboard_k48_boxes).prog 27).name = ("law" : PySem.Str) := by kernel_rfl
      rw [← e]
      exact hmg0
    obtain ⟨fd, hb, hF⟩ := Loneboard_k48_boxes.factsL (P := (PySem.Challenge.rw_oneboard_k48_boxes).prog) (w := w) KX G hmg c
    refine ⟨K, fd, _, KX, hb, fun ns hl => ?_, hF⟩
    obtain ⟨A', e⟩ := Loneboard_k48_boxes.law_true ns hl
    exact Fl.law_end e
