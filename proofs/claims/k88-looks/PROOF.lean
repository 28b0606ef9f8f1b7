import PyProof.Rows.All
import Wide.All
import OpenK.AllK
import Wide.FinOn
import KE.KStateDown
import Lean
import HandS.ForMost
import HandS.Walk
import HandS.Flow
import HandS.Style
import HandS.Strs
import HandS.TupSets
import HandS.TupAny
import HandS.Wide
import HandS.WideBits
import HandS.Gcd
import HandS.IsInst
import HandS.Defaults
import HandS.HeadNt
import HandS.Head0
import HandS.Head1
import HandS.Head2
import HandS.HeadEnd
import HandS.HeadHook1
import HandS.HeadHook2
import PySem.Challenge.RW_caskyears_k88_whole_looks_one_by_one
import KE.GoesEnum
import HandS.SetFor
import KE.OsArith
import HandS.Head3
set_option Elab.async false
set_option autoImplicit false
set_option linter.all false
set_option maxRecDepth 100000
set_option maxHeartbeats 0
namespace Ck
open PySem PySem.Spec PyProof.Rows L2
def top (i : Nat) : Stmt := PySem.Challenge.pw_caskyears_k88_whole_looks_one_by_one.main.body.getD i (.Pass ⟨0, 0, 0, 0⟩)
abbrev s_is_integer : Stmt := top 8
abbrev s_is_kind : Stmt := top 9
abbrev s_is_fraction : Stmt := top 11
abbrev s_is_share : Stmt := top 12
abbrev s_is_fill : Stmt := top 14
abbrev s_is_cellar : Stmt := top 15
abbrev s_need_cellar : Stmt := top 16
abbrev s_is_place : Stmt := top 18
abbrev s_is_deed : Stmt := top 19
abbrev s_casks_of : Stmt := top 20
abbrev s_is_deed_of : Stmt := top 21
abbrev s_need_story : Stmt := top 23
abbrev s_is_draw : Stmt := top 24
abbrev s_need_draw : Stmt := top 25
abbrev s_every_lot : Stmt := top 26
abbrev s_ways_over : Stmt := top 27
abbrev s_emptied : Stmt := top 28
abbrev s_lots_ahead : Stmt := top 29
abbrev s_carried_lots : Stmt := top 30
abbrev s_lots : Stmt := top 31
abbrev s_carried : Stmt := top 32
abbrev s_is_look : Stmt := top 33
abbrev s_need_told : Stmt := top 34
abbrev s_fitting_lots : Stmt := top 35
abbrev s_suspects : Stmt := top 36
abbrev s_tests_of : Stmt := top 37
abbrev s_are_told_apart : Stmt := top 38
abbrev s_least_depth : Stmt := top 39
abbrev s_tree_of : Stmt := top 40
abbrev s_looks : Stmt := top 41
abbrev s_look_tree : Stmt := top 42
abbrev s_w_deck : Stmt := top 44
abbrev s_w_draw : Stmt := top 45
abbrev s_w_fraction : Stmt := top 46
abbrev s_w_share : Stmt := top 47
abbrev s_w_amount : Stmt := top 48
abbrev s_w_kind : Stmt := top 49
abbrev s_w_fill : Stmt := top 50
abbrev s_w_cellar : Stmt := top 51
abbrev s_w_deed : Stmt := top 52
abbrev s_w_story : Stmt := top 53
abbrev s_w_parting : Stmt := top 54
abbrev s_w_integer : Stmt := top 55
abbrev s_w_left : Stmt := top 56
abbrev s_w_state_right : Stmt := top 57
abbrev s_w_walk_right : Stmt := top 58
abbrev s_w_told : Stmt := top 59
abbrev s_law : Stmt := top 60
end Ck
namespace Ck
open PySem PySem.Spec L2
open PyProof.Rows hiding St

/-! ### data, and what stands for it -/
inductive Dt where
  | non
  | bl (b : Bool)
  | int (i : Int)
  | str (x : Str)
  | lst (ds : List Dt)
  | tup (ds : List Dt)
  | dic (kvs : List (Key × Dt))
  | dicu (kvs : List (Key × Dt))
  | dicl (kvs : List (Key × Dt))
  | adr (a : Addr)
  | ty (n : String)

mutual
inductive R (G : Hp) : V → Dt → Prop
  | non : R G .non .non
  | bl (b : Bool) : R G (.bl b) (.bl b)
  | int (i : Int) : R G (.int i) (.int i)
  | str (x : Str) : R G (.str x) (.str x)
  | adr (a : Addr) : R G (.ref a) (.adr a)
  | ty (n : String) : R G (.ty n) (.ty n)
  | lst {a : Addr} {xs : List V} {ds : List Dt} : G a = some (.lst xs) → RA G xs ds → R G (.ref a) (.lst ds)
  | tup {a : Addr} {xs : List V} {ds : List Dt} : G a = some (.tup xs) → RA G xs ds → R G (.ref a) (.tup ds)
  | dic {a : Addr} {es : List (Key × V)} {kvs : List (Key × Dt)} : Rd G a (.dK es) → RK G es kvs → R G (.ref a) (.dic kvs)
  | dicu {a : Addr} {es : List (Key × V)} {kvs : List (Key × Dt)} : G a = some (.dK es) → RK G es kvs → R G (.ref a) (.dicu kvs)
  | dicl {a : Addr} {o : Obj} {es : List (Key × V)} {kvs : List (Key × Dt)} : G a = some (.frz o (.dK es)) → RK G es kvs → R G (.ref a) (.dicl kvs)
inductive RA (G : Hp) : List V → List Dt → Prop
  | nil : RA G [] []
  | cons {v : V} {d : Dt} {vs : List V} {ds : List Dt} : R G v d → RA G vs ds → RA G (v :: vs) (d :: ds)
inductive RK (G : Hp) : List (Key × V) → List (Key × Dt) → Prop
  | nil : RK G [] []
  | cons {k : Key} {v : V} {d : Dt} {vs : List (Key × V)} {ds : List (Key × Dt)} : R G v d → RK G vs ds → RK G ((k, v) :: vs) ((k, d) :: ds)
end

/-- lists, tuples, dicts of the one stand in the other -/
structure Kp (G G' : Hp) : Prop where
  l : ∀ a xs, G a = some (.lst xs) → G' a = some (.lst xs)
  t : ∀ a xs, G a = some (.tup xs) → G' a = some (.tup xs)
  d : ∀ a es, Rd G a (.dK es) → Rd G' a (.dK es)
  u : ∀ a es, G a = some (.dK es) → G' a = some (.dK es)
  f : ∀ a o es, G a = some (.frz o (.dK es)) → G' a = some (.frz o (.dK es))

mutual
theorem R.mono {G G' : Hp} (k : Kp G G') : ∀ {v : V} {d : Dt}, R G v d → R G' v d
  | _, _, .non => .non
  | _, _, .bl b => .bl b
  | _, _, .int i => .int i
  | _, _, .str x => .str x
  | _, _, .adr a => .adr a
  | _, _, .ty n => .ty n
  | _, _, .lst h r => .lst (k.l _ _ h) (RA.mono k r)
  | _, _, .tup h r => .tup (k.t _ _ h) (RA.mono k r)
  | _, _, .dic h r => .dic (k.d _ _ h) (RK.mono k r)
  | _, _, .dicu h r => .dicu (k.u _ _ h) (RK.mono k r)
  | _, _, .dicl h r => .dicl (k.f _ _ _ h) (RK.mono k r)
theorem RA.mono {G G' : Hp} (k : Kp G G') : ∀ {vs : List V} {ds : List Dt}, RA G vs ds → RA G' vs ds
  | _, _, .nil => .nil
  | _, _, .cons h r => .cons (R.mono k h) (RA.mono k r)
theorem RK.mono {G G' : Hp} (k : Kp G G') : ∀ {vs : List (Key × V)} {ds : List (Key × Dt)}, RK G vs ds → RK G' vs ds
  | _, _, .nil => .nil
  | _, _, .cons h r => .cons (R.mono k h) (RK.mono k r)
end

/-- all that was tracked is as it was -/
def Ex (H H' : Hp) : Prop := ∀ a o, H a = some o → H' a = some o
theorem Ex.refl (H : Hp) : Ex H H := fun _ _ h => h
theorem Ex.trans {H H1 H2 : Hp} (a : Ex H H1) (b : Ex H1 H2) : Ex H H2 := fun _ _ h => b _ _ (a _ _ h)
theorem Ex.new {H : Hp} {p : Addr} {o : HO} (h : H p = none) : Ex H (upd H p o) := fun a u e => by
  rw [upd_ne (ne_of_none e h)]; exact e
theorem Ex.kp {G G' : Hp} (e : Ex G G') : Kp G G' :=
  ⟨fun a xs h => e a _ h, fun a xs h => e a _ h, fun a es h => h.elim (fun h => .inl (e a _ h)) fun ⟨o, h⟩ => .inr ⟨o, e a _ h⟩, fun a es h => e a _ h, fun a o es h => e a _ h⟩
theorem R.ex {G G' : Hp} {v : V} {d : Dt} (r : R G v d) (e : Ex G G') : R G' v d := r.mono e.kp
theorem RA.ex {G G' : Hp} {v : List V} {d : List Dt} (r : RA G v d) (e : Ex G G') : RA G' v d := r.mono e.kp
theorem RK.ex {G G' : Hp} {v : List (Key × V)} {d : List (Key × Dt)} (r : RK G v d) (e : Ex G G') : RK G' v d := r.mono e.kp

/-! ### hidden places -/
def hid (ps : List Addr) (H : Hp) : Hp := fun a => if a ∈ ps then none else H a
theorem hid_in {ps : List Addr} {H : Hp} {a : Addr} (h : a ∈ ps) : hid ps H a = none := by unfold hid; rw [if_pos h]
theorem hid_out {ps : List Addr} {H : Hp} {a : Addr} (h : a ∉ ps) : hid ps H a = H a := by unfold hid; rw [if_neg h]
theorem hid_some {ps : List Addr} {H : Hp} {a : Addr} {o : HO} (h : hid ps H a = some o) : H a = some o ∧ a ∉ ps := by
  unfold hid at h
  by_cases c : a ∈ ps
  · rw [if_pos c] at h; cases h
  · rw [if_neg c] at h; exact ⟨h, c⟩
theorem hid_mk {ps : List Addr} {H : Hp} {a : Addr} {o : HO} (h : H a = some o) (c : a ∉ ps) : hid ps H a = some o := (hid_out c).trans h
theorem hid_ex (ps : List Addr) (H : Hp) : Ex (hid ps H) H := fun _ _ h => (hid_some h).1
theorem hid_nil (H : Hp) : hid [] H = H := by funext a; exact hid_out (by simp)
theorem hid_hid (ps qs : List Addr) (H : Hp) : hid ps (hid qs H) = hid (ps ++ qs) H := by
  funext a
  unfold hid
  by_cases c : a ∈ ps
  · rw [if_pos c, if_pos (List.mem_append_left _ c)]
  · rw [if_neg c]
    by_cases d : a ∈ qs
    · rw [if_pos d, if_pos (List.mem_append_right _ d)]
    · rw [if_neg d, if_neg (by simp [c, d])]
theorem hid_congr {ps qs : List Addr} (H : Hp) (h : ∀ a, a ∈ ps ↔ a ∈ qs) : hid ps H = hid qs H := by
  funext a
  unfold hid
  by_cases c : a ∈ ps
  · rw [if_pos c, if_pos ((h a).mp c)]
  · rw [if_neg c, if_neg fun z => c ((h a).mpr z)]
theorem hid_mono {ps : List Addr} {H H' : Hp} (e : Ex H H') : Ex (hid ps H) (hid ps H') := fun a o h => by
  obtain ⟨h, c⟩ := hid_some h
  exact hid_mk (e a o h) c
theorem hid_upd {ps : List Addr} {H : Hp} {p : Addr} {o : HO} (h : p ∈ ps) : hid ps (upd H p o) = hid ps H := by
  funext a
  unfold hid
  by_cases c : a ∈ ps
  · rw [if_pos c, if_pos c]
  · rw [if_neg c, if_neg c, upd_ne (fun z : a = p => c (by rw [z]; exact h))]
theorem hid_sub {ps qs : List Addr} (H : Hp) (h : ∀ a, a ∈ ps → a ∈ qs) : Ex (hid qs H) (hid ps H) := fun a o e => by
  obtain ⟨e, c⟩ := hid_some e
  exact hid_mk e fun z => c (h a z)
/-- the places stand -/
def Lv (ps : List Addr) (H : Hp) : Prop := ∀ a ∈ ps, H a ≠ none
theorem Lv.ex {ps : List Addr} {H H' : Hp} (l : Lv ps H) (e : Ex H H') : Lv ps H' := fun a h z => by
  cases q : H a with
  | none => exact l a h q
  | some o => rw [e a o q] at z; cases z
theorem Lv.new {ps : List Addr} {H : Hp} (l : Lv ps H) {p : Addr} (h : H p = none) : p ∉ ps := fun z => l p z h

/-! ### the slots -/
def Sl (G : Hp) (σ : St) (ρ : List (Option Dt)) : Prop := σ.length = ρ.length ∧ ∀ (i : Nat) (d : Dt), ρ[i]? = some (some d) → ∃ v, σ[i]? = some (some v) ∧ R G v d
theorem Sl.ex {G G' : Hp} {σ : St} {ρ : List (Option Dt)} (s : Sl G σ ρ) (e : Ex G G') : Sl G' σ ρ :=
  ⟨s.1, fun i d h => let ⟨v, a, r⟩ := s.2 i d h; ⟨v, a, r.ex e⟩⟩
theorem Sl.mono {G G' : Hp} {σ : St} {ρ : List (Option Dt)} (s : Sl G σ ρ) (e : Kp G G') : Sl G' σ ρ :=
  ⟨s.1, fun i d h => let ⟨v, a, r⟩ := s.2 i d h; ⟨v, a, r.mono e⟩⟩
theorem Sl.set {G : Hp} {σ : St} {ρ : List (Option Dt)} (s : Sl G σ ρ) (i : Nat) {v : V} {d : Dt} (r : R G v d) : Sl G (σ.set i (some v)) (ρ.set i (some d)) := by
  refine ⟨by simpa using s.1, fun j e h => ?_⟩
  by_cases c : j = i
  · subst c
    by_cases l : j < ρ.length
    · rw [List.getElem?_set_self l] at h
      cases h
      exact ⟨v, List.getElem?_set_self (by rw [s.1]; exact l), r⟩
    · rw [List.getElem?_eq_none (by simpa using l)] at h
      cases h
  · rw [List.getElem?_set_ne (Ne.symm c)] at h
    obtain ⟨u, a, q⟩ := s.2 j e h
    exact ⟨u, by rw [List.getElem?_set_ne (Ne.symm c)]; exact a, q⟩
theorem Sl.unset {G : Hp} {σ : St} {ρ : List (Option Dt)} (s : Sl G σ ρ) (i : Nat) : Sl G (σ.set i none) (ρ.set i none) := by
  refine ⟨by simpa using s.1, fun j e h => ?_⟩
  by_cases c : j = i
  · subst c
    by_cases l : j < ρ.length
    · rw [List.getElem?_set_self l] at h
      cases h
    · rw [List.getElem?_eq_none (by simpa using l)] at h
      cases h
  · rw [List.getElem?_set_ne (Ne.symm c)] at h
    obtain ⟨u, a, q⟩ := s.2 j e h
    exact ⟨u, by rw [List.getElem?_set_ne (Ne.symm c)]; exact a, q⟩
/-- slots forgotten in the data alone -/
theorem Sl.weak {G : Hp} {σ : St} {ρ ρ' : List (Option Dt)} (s : Sl G σ ρ) (hl : ρ'.length = ρ.length) (h : ∀ (i : Nat) (d : Dt), ρ'[i]? = some (some d) → ρ[i]? = some (some d)) : Sl G σ ρ' :=
  ⟨s.1.trans hl.symm, fun i d e => s.2 i d (h i d e)⟩
def wipeD (ρ : List (Option Dt)) : List Nat → List (Option Dt)
  | [] => ρ
  | v :: vs => (wipeD ρ vs).set v none
theorem Sl.wipe {G : Hp} {σ : St} {ρ : List (Option Dt)} (s : Sl G σ ρ) : ∀ vs : List Nat, Sl G (wipe σ vs) (wipeD ρ vs)
  | [] => s
  | v :: vs => (Sl.wipe s vs).unset v
theorem RA.length {G : Hp} : ∀ {vs : List V} {ds : List Dt}, RA G vs ds → vs.length = ds.length
  | _, _, .nil => rfl
  | _, _, .cons _ r => by rw [List.length_cons, List.length_cons, RA.length r]
theorem RA.get {G : Hp} : ∀ {vs : List V} {ds : List Dt} {i : Nat} {d : Dt}, RA G vs ds → ds[i]? = some d → ∃ v, vs[i]? = some v ∧ R G v d
  | _, _, _, _, .nil, h => by simp at h
  | _, _, 0, _, .cons r _, h => by simp at h; subst h; exact ⟨_, rfl, r⟩
  | _, _, i + 1, d, .cons _ r, h => by
    obtain ⟨v, a, q⟩ := RA.get (i := i) (d := d) r (by simpa using h)
    exact ⟨v, by simpa using a, q⟩
theorem RA.get' {G : Hp} : ∀ {vs : List V} {ds : List Dt} {i : Nat} {v : V}, RA G vs ds → vs[i]? = some v → ∃ d, ds[i]? = some d ∧ R G v d
  | _, _, _, _, .nil, h => by simp at h
  | _, _, 0, _, .cons r _, h => by simp at h; subst h; exact ⟨_, rfl, r⟩
  | _, _, i + 1, d, .cons _ r, h => by
    obtain ⟨v, a, q⟩ := RA.get' (i := i) (v := d) r (by simpa using h)
    exact ⟨v, by simpa using a, q⟩
theorem RA.append {G : Hp} : ∀ {vs ws : List V} {ds es : List Dt}, RA G vs ds → RA G ws es → RA G (vs ++ ws) (ds ++ es)
  | _, _, _, _, .nil, s => s
  | _, _, _, _, .cons r t, s => .cons r (RA.append t s)
theorem RA.one {G : Hp} {v : V} {d : Dt} (r : R G v d) : RA G [v] [d] := .cons r .nil
theorem RA.start {G : Hp} {vs : List V} {ds : List Dt} (r : RA G vs ds) (N : List Str) : Sl G (L2.start N vs) (ds.map some ++ List.replicate (N.length - ds.length) none) := by
  have hl := r.length
  refine ⟨by unfold L2.start; simp [hl], fun i d h => ?_⟩
  by_cases c : i < ds.length
  · rw [List.getElem?_append_left (by simpa using c), List.getElem?_map] at h
    cases e : ds[i]? with
    | none => rw [e] at h; cases h
    | some d' =>
      rw [e] at h
      obtain ⟨v, a, q⟩ := r.get e
      have hd : d' = d := by simpa using h
      subst hd
      refine ⟨v, ?_, q⟩
      unfold L2.start
      rw [List.getElem?_append_left (by simpa [hl] using c), List.getElem?_map, a]
      rfl
  · rw [List.getElem?_append_right (by simpa using c), List.getElem?_replicate] at h
    split at h <;> cases h
theorem RA.ints {G : Hp} : ∀ {vs : List V} {ns : List Int}, RA G vs (ns.map Dt.int) → vs = ns.map V.int
  | _, [], r => by cases r; rfl
  | _, n :: ns, r => by
    cases r with
    | cons q r => cases q; rw [RA.ints r]; rfl
theorem RA.of_ints {G : Hp} : ∀ (ns : List Int), RA G (ns.map V.int) (ns.map Dt.int)
  | [] => .nil
  | n :: ns => .cons (.int n) (RA.of_ints ns)
theorem RA.strs {G : Hp} : ∀ {vs : List V} {ns : List Str}, RA G vs (ns.map Dt.str) → vs = ns.map V.str
  | _, [], r => by cases r; rfl
  | _, n :: ns, r => by
    cases r with
    | cons q r => cases q; rw [RA.strs r]; rfl
theorem RA.of_strs {G : Hp} : ∀ (ns : List Str), RA G (ns.map V.str) (ns.map Dt.str)
  | [] => .nil
  | n :: ns => .cons (.str n) (RA.of_strs ns)
theorem RA.bls {G : Hp} : ∀ {vs : List V} {ns : List Bool}, RA G vs (ns.map Dt.bl) → vs = ns.map V.bl
  | _, [], r => by cases r; rfl
  | _, n :: ns, r => by
    cases r with
    | cons q r => cases q; rw [RA.bls r]; rfl
theorem RK.val {G : Hp} (k : Key) : ∀ {es : List (Key × V)} {kvs : List (Key × Dt)}, RK G es kvs → ∀ {d : Dt}, (kvs.find? fun kv => decide (kv.1 = k)).map (·.2) = some d → ∃ v, valV es k = some v ∧ R G v d
  | _, _, .nil, d, h => by simp at h
  | _, _, .cons (k := k') (v := v) (d := d') r t, d, h => by
    by_cases c : k' = k
    · rw [List.find?_cons_of_pos (by simpa using c)] at h
      have hd : d' = d := by simpa using h
      subst hd
      exact ⟨v, valV_pos c, r⟩
    · rw [List.find?_cons_of_neg (by simpa using c)] at h
      obtain ⟨u, a, q⟩ := RK.val k t h
      exact ⟨u, by rw [valV_neg c]; exact a, q⟩
theorem RK.none {G : Hp} (k : Key) : ∀ {es : List (Key × V)} {kvs : List (Key × Dt)}, RK G es kvs → (kvs.find? fun kv => decide (kv.1 = k)).map (·.2) = Option.none → valV es k = Option.none
  | _, _, .nil, h => rfl
  | _, _, .cons (k := k') (v := v) (d := d') r t, h => by
    by_cases c : k' = k
    · rw [List.find?_cons_of_pos (by simpa using c)] at h
      cases h
    · rw [List.find?_cons_of_neg (by simpa using c)] at h
      rw [valV_neg c]
      exact RK.none k t h
theorem RK.keys {G : Hp} : ∀ {es : List (Key × V)} {kvs : List (Key × Dt)}, RK G es kvs → es.map (·.1) = kvs.map (·.1)
  | _, _, .nil => rfl
  | _, _, .cons r t => by rw [List.map_cons, List.map_cons, RK.keys t]
theorem RK.length {G : Hp} {es : List (Key × V)} {kvs : List (Key × Dt)} (r : RK G es kvs) : es.length = kvs.length := by
  have h := congrArg List.length r.keys
  simpa using h
theorem RK.append {G : Hp} : ∀ {vs ws : List (Key × V)} {ds es : List (Key × Dt)}, RK G vs ds → RK G ws es → RK G (vs ++ ws) (ds ++ es)
  | _, _, _, _, .nil, s => s
  | _, _, _, _, .cons r t, s => .cons r (RK.append t s)
end Ck
namespace Ck
open PySem PySem.Spec L2
open PyProof.Rows hiding St

/-! ### pure expressions -/
/-- the expression gives the datum d, whatever is hidden; all that stood stands -/
def EvP (te : TE) (ρ : List (Option Dt)) (d : Dt) : Prop := ∀ (ps : List Addr) (H : Hp) (σ : St), Lv ps H → Sl (hid ps H) σ ρ → ∀ Q : VK, (∀ v H', Ex H H' → R (hid ps H') v d → Q v H') → te σ H Q
def EvT (tt : TT) (ρ : List (Option Dt)) (b : Bool) : Prop := ∀ (ps : List Addr) (H : Hp) (σ : St), Lv ps H → Sl (hid ps H) σ ρ → ∀ Q : Bool → Hp → Prop, (∀ H', Ex H H' → Q b H') → tt σ H Q
def EvA (ta : TA) (ρ : List (Option Dt)) (ds : List Dt) : Prop := ∀ (ps : List Addr) (H : Hp) (σ : St), Lv ps H → Sl (hid ps H) σ ρ → ∀ Q : List V → Hp → Prop, (∀ vs H', Ex H H' → RA (hid ps H') vs ds → Q vs H') → ta σ H Q
def EvO (to : TO) (ρ : List (Option Dt)) (o : Option Int) : Prop := ∀ (ps : List Addr) (H : Hp) (σ : St), Lv ps H → Sl (hid ps H) σ ρ → ∀ Q : Option Int → Hp → Prop, (∀ H', Ex H H' → Q o H') → to σ H Q
/-- what an operator makes of two data, a call of some -/
def OpD (r : R2) (x y z : Dt) : Prop := ∀ (ps : List Addr) (H : Hp) (v w : V), Lv ps H → R (hid ps H) v x → R (hid ps H) w y → ∀ Q : VK, (∀ u H', Ex H H' → R (hid ps H') u z → Q u H') → r v w H Q
def UnD (r : V → Hp → VK → Prop) (x z : Dt) : Prop := ∀ (ps : List Addr) (H : Hp) (v : V), Lv ps H → R (hid ps H) v x → ∀ Q : VK, (∀ u H', Ex H H' → R (hid ps H') u z → Q u H') → r v H Q
def ClD (r : List V → Hp → VK → Prop) (xs : List Dt) (z : Dt) : Prop := ∀ (ps : List Addr) (H : Hp) (vs : List V), Lv ps H → RA (hid ps H) vs xs → ∀ Q : VK, (∀ u H', Ex H H' → R (hid ps H') u z → Q u H') → r vs H Q

section
variable {ρ : List (Option Dt)} {ta tb tc te : TE} {tt tu : TT} {d e f : Dt} {r : R2} {K : PySem.W.Frag}
theorem ev_var {i : Nat} (h : ρ[i]? = some (some d)) : EvP (tVar i) ρ d := fun ps H σ l s Q q => by
  obtain ⟨v, a, r⟩ := s.2 i d h
  exact ⟨v, a, q v H (.refl H) r⟩
theorem ev_c {v : V} (h : ∀ G, R G v d) : EvP (tC v) ρ d := fun ps H σ l s Q q => q v H (.refl H) (h _)
theorem ev_int {i : Int} : EvP (tC (.int i)) ρ (.int i) := ev_c fun _ => .int i
theorem ev_str {i : Str} : EvP (tC (.str i)) ρ (.str i) := ev_c fun _ => .str i
theorem ev_bl {i : Bool} : EvP (tC (.bl i)) ρ (.bl i) := ev_c fun _ => .bl i
theorem ev_non : EvP (tC .non) ρ .non := ev_c fun _ => .non
theorem ev_is (h : EvP te ρ d) (q : d = e) : EvP te ρ e := q ▸ h
theorem et_is {b c : Bool} (h : EvT tt ρ b) (q : b = c) : EvT tt ρ c := q ▸ h
theorem ev_op (ha : EvP ta ρ d) (hb : EvP tb ρ e) (ho : OpD r d e f) : EvP (tOp r ta tb) ρ f := fun ps H σ l s Q q =>
  ha ps H σ l s _ fun x H1 e1 r1 => hb ps H1 σ (l.ex e1) (s.ex (hid_mono e1)) _ fun y H2 e2 r2 =>
    ho ps H2 x y (l.ex (e1.trans e2)) (r1.ex (hid_mono e2)) r2 _ fun z H3 e3 r3 => q z H3 ((e1.trans e2).trans e3) r3
theorem ev_un {r : V → Hp → VK → Prop} (ha : EvP ta ρ d) (ho : UnD r d e) : EvP (tUn r ta) ρ e := fun ps H σ l s Q q =>
  ha ps H σ l s _ fun x H1 e1 r1 => ho ps H1 x (l.ex e1) r1 _ fun z H3 e3 r3 => q z H3 (e1.trans e3) r3
theorem ev_cb {r : List V → Hp → VK → Prop} {t : TA} {ds : List Dt} (ha : EvA t ρ ds) (ho : ClD r ds e) : EvP (tCB r t) ρ e := fun ps H σ l s Q q =>
  ha ps H σ l s _ fun x H1 e1 r1 => ho ps H1 x (l.ex e1) r1 _ fun z H3 e3 r3 => q z H3 (e1.trans e3) r3
theorem ea_nil : EvA tNil ρ [] := fun ps H σ l s Q q => q [] H (.refl H) .nil
theorem ea_cons {t : TA} {ds : List Dt} (ha : EvP ta ρ d) (hb : EvA t ρ ds) : EvA (tCons ta t) ρ (d :: ds) := fun ps H σ l s Q q =>
  ha ps H σ l s _ fun x H1 e1 r1 => hb ps H1 σ (l.ex e1) (s.ex (hid_mono e1)) _ fun xs H2 e2 r2 => q (x :: xs) H2 (e1.trans e2) (.cons (r1.ex (hid_mono e2)) r2)
theorem ev_tup {t : TA} {ds : List Dt} (h : EvA t ρ ds) (hl : ds.length ≤ 100000) : EvP (tTup t) ρ (.tup ds) := fun ps H σ l s Q q =>
  h ps H σ l s _ fun vs H1 e1 r1 => ⟨by rw [r1.length, sizeLine_eq]; omega, fun p hp => by
    have hn : p ∉ ps := (l.ex e1).new hp
    have hx : Ex H1 (upd H1 p (.tup vs)) := .new hp
    exact q _ _ (e1.trans hx) (.tup (hid_mk upd_same hn) (r1.ex (hid_mono hx)))⟩
theorem ev_lst {t : TA} {ds : List Dt} (h : EvA t ρ ds) (hl : ds.length ≤ 100000) : EvP (tLst t) ρ (.lst ds) := fun ps H σ l s Q q =>
  h ps H σ l s _ fun vs H1 e1 r1 => ⟨by rw [r1.length, sizeLine_eq]; omega, fun p hp => by
    have hn : p ∉ ps := (l.ex e1).new hp
    have hx : Ex H1 (upd H1 p (.lst vs)) := .new hp
    exact q _ _ (e1.trans hx) (.lst (hid_mk upd_same hn) (r1.ex (hid_mono hx)))⟩
theorem ev_dnew : EvP tDNewK ρ (.dic []) := fun ps H σ l s Q q p hp => by
  have hn : p ∉ ps := l.new hp
  exact q _ _ (.new hp) (.dic (.inl (hid_mk upd_same hn)) .nil)
/-! tests and truth values -/
theorem et_B {b : Bool} (h : EvP te ρ (.bl b)) : EvT (tB te) ρ b := fun ps H σ l s Q q => h ps H σ l s _ fun v H1 e1 r1 => by cases r1; exact ⟨b, rfl, q H1 e1⟩
theorem et_T {b : Bool} (h : EvP te ρ (.bl b)) : EvT (tTest te) ρ b := fun ps H σ l s Q q => h ps H σ l s _ fun v H1 e1 r1 => by cases r1; exact ⟨b, rfl, q H1 e1⟩
theorem et_yes : EvT tYes ρ true := fun ps H σ l s Q q => q H (.refl H)
theorem et_and {a b : Bool} (h : EvT tt ρ a) (k : a = true → EvT tu ρ b) : EvT (tAnd tt tu) ρ (a && b) := fun ps H σ l s Q q => h ps H σ l s _ fun H1 e1 => by
  cases a with
  | true => exact k rfl ps H1 σ (l.ex e1) (s.ex (hid_mono e1)) _ fun H2 e2 => q H2 (e1.trans e2)
  | false => exact q H1 e1
theorem et_or {a b : Bool} (h : EvT tt ρ a) (k : a = false → EvT tu ρ b) : EvT (tOr tt tu) ρ (a || b) := fun ps H σ l s Q q => h ps H σ l s _ fun H1 e1 => by
  cases a with
  | false => exact k rfl ps H1 σ (l.ex e1) (s.ex (hid_mono e1)) _ fun H2 e2 => q H2 (e1.trans e2)
  | true => exact q H1 e1
theorem et_not {a : Bool} (h : EvT tt ρ a) : EvT (tNot tt) ρ (!a) := fun ps H σ l s Q q => h ps H σ l s _ fun H1 e1 => q H1 e1
theorem ev_and {a : Bool} (h : EvP ta ρ (.bl a)) (k : a = true → EvP tb ρ d) (k' : a = false → d = .bl false) : EvP (tAndV ta tb) ρ d := fun ps H σ l s Q q => h ps H σ l s _ fun v H1 e1 r1 => by
  cases r1
  refine ⟨a, rfl, ?_⟩
  cases a with
  | true => exact k rfl ps H1 σ (l.ex e1) (s.ex (hid_mono e1)) _ fun v H2 e2 => q v H2 (e1.trans e2)
  | false => rw [k' rfl] at q; exact q _ H1 e1 (.bl false)
theorem ev_or {a : Bool} (h : EvP ta ρ (.bl a)) (k : a = false → EvP tb ρ d) (k' : a = true → d = .bl true) : EvP (tOrV ta tb) ρ d := fun ps H σ l s Q q => h ps H σ l s _ fun v H1 e1 r1 => by
  cases r1
  refine ⟨a, rfl, ?_⟩
  cases a with
  | false => exact k rfl ps H1 σ (l.ex e1) (s.ex (hid_mono e1)) _ fun v H2 e2 => q v H2 (e1.trans e2)
  | true => rw [k' rfl] at q; exact q _ H1 e1 (.bl true)
theorem ev_andb {a b : Bool} (h : EvP ta ρ (.bl a)) (k : a = true → EvP tb ρ (.bl b)) : EvP (tAndV ta tb) ρ (.bl (a && b)) :=
  ev_and h (fun e => by subst e; exact k rfl) fun e => by subst e; rfl
theorem ev_not {a : Bool} (h : EvP ta ρ (.bl a)) : EvP (tNotV ta) ρ (.bl (!a)) := fun ps H σ l s Q q => h ps H σ l s _ fun v H1 e1 r1 => by
  cases r1
  exact ⟨a, rfl, q _ H1 e1 (.bl _)⟩
theorem ev_if {b : Bool} (h : EvT tt ρ b) (h1 : b = true → EvP ta ρ d) (h2 : b = false → EvP tb ρ d) : EvP (tIf tt ta tb) ρ d := fun ps H σ l s Q q => h ps H σ l s _ fun H1 e1 => by
  cases b with
  | true => exact h1 rfl ps H1 σ (l.ex e1) (s.ex (hid_mono e1)) _ fun v H2 e2 => q v H2 (e1.trans e2)
  | false => exact h2 rfl ps H1 σ (l.ex e1) (s.ex (hid_mono e1)) _ fun v H2 e2 => q v H2 (e1.trans e2)
theorem ev_chain {r r' : R2} {b : Bool} {g : Dt} (ha : EvP ta ρ d) (hb : EvP tb ρ e) (hr : OpD r d e (.bl b)) (hc : b = true → EvP tc ρ f) (hr' : b = true → OpD r' e f g) (hf : b = false → g = .bl false) : EvP (tChain r r' ta tb tc) ρ g := by
  intro ps H σ l s Q q
  refine ha ps H σ l s _ fun x H1 e1 r1 => ?_
  refine hb ps H1 σ (l.ex e1) (s.ex (hid_mono e1)) _ fun y H2 e2 r2 => ?_
  refine hr ps H2 x y (l.ex (e1.trans e2)) (r1.ex (hid_mono e2)) r2 _ fun z H3 e3 r3 => ?_
  cases r3
  have e13 := (e1.trans e2).trans e3
  refine ⟨b, rfl, ?_⟩
  cases b with
  | true =>
    refine hc rfl ps H3 σ (l.ex e13) (s.ex (hid_mono e13)) _ fun w H4 e4 r4 => ?_
    exact hr' rfl ps H4 y w (l.ex (e13.trans e4)) (r2.ex (hid_mono (e3.trans e4))) r4 _ fun u H5 e5 r5 => q u H5 ((e13.trans e4).trans e5) r5
  | false =>
    rw [hf rfl] at q
    exact q _ H3 e13 (.bl false)
theorem ev_isN (h : EvP ta ρ d) {b : Bool} (hb : ∀ G v, R G v d → decide (v = .non) = b) : EvP (tIsN ta) ρ (.bl b) := fun ps H σ l s Q q => h ps H σ l s _ fun v H1 e1 r1 => by
  show Q (.bl (decide (v = .non))) H1
  rw [hb _ _ r1]
  exact q _ H1 e1 (.bl b)
theorem eo_none : EvO tNoPart ρ none := fun ps H σ l s Q q => q H (.refl H)
theorem eo_some {i : Int} (h : EvP te ρ (.int i)) : EvO (tPart te) ρ (some i) := fun ps H σ l s Q q => h ps H σ l s _ fun v H1 e1 r1 => by cases r1; exact ⟨i, rfl, q H1 e1⟩
end

/-! ### operators -/
section
variable {K : PySem.W.Frag}
theorem od_val {r : R2} {x y z : Dt} (h : ∀ (G : Hp) (v w : V), R G v x → R G w y → ∃ u, (∀ G, R G u z) ∧ ∀ H Q, Q u H → r v w H Q) : OpD r x y z := fun ps H v w l rx ry Q q => by
  obtain ⟨u, hu, hr⟩ := h _ v w rx ry
  exact hr H Q (q u H (.refl H) (hu _))
theorem od_I0 {g : Int → Int → Int} {i j : Int} : OpD (rI0 fun i j => V.int (g i j)) (.int i) (.int j) (.int (g i j)) := od_val fun G v w rx ry => by
  cases rx; cases ry
  exact ⟨_, fun _ => .int _, fun H Q q => ⟨i, j, rfl, rfl, q⟩⟩
theorem od_B0 {g : Int → Int → Bool} {i j : Int} : OpD (rI0 fun i j => V.bl (g i j)) (.int i) (.int j) (.bl (g i j)) := od_val fun G v w rx ry => by
  cases rx; cases ry
  exact ⟨_, fun _ => .bl _, fun H Q q => ⟨i, j, rfl, rfl, q⟩⟩
theorem od_I {C : Int → Int → Prop} {g : Int → Int → Int} {i j : Int} (hc : C i j) : OpD (rI C fun i j => V.int (g i j)) (.int i) (.int j) (.int (g i j)) := od_val fun G v w rx ry => by
  cases rx; cases ry
  exact ⟨_, fun _ => .int _, fun H Q q => ⟨i, j, rfl, rfl, hc, q⟩⟩
theorem od_add {i j : Int} : OpD (rI0 fun i j => V.int (i + j)) (.int i) (.int j) (.int (i + j)) := od_I0
theorem od_sub {i j : Int} : OpD (rI0 fun i j => V.int (i - j)) (.int i) (.int j) (.int (i - j)) := od_I0
theorem od_lt {i j : Int} : OpD (rI0 fun i j => V.bl (decide (i < j))) (.int i) (.int j) (.bl (decide (i < j))) := od_B0
theorem od_le {i j : Int} : OpD (rI0 fun i j => V.bl (decide (i ≤ j))) (.int i) (.int j) (.bl (decide (i ≤ j))) := od_B0
theorem od_gt {i j : Int} : OpD (rI0 fun i j => V.bl (decide (j < i))) (.int i) (.int j) (.bl (decide (j < i))) := od_B0
theorem od_ge {i j : Int} : OpD (rI0 fun i j => V.bl (decide (j ≤ i))) (.int i) (.int j) (.bl (decide (j ≤ i))) := od_B0
/-- scalars -/
def sc : Dt → Option V
  | .non => some .non
  | .bl b => some (.bl b)
  | .int i => some (.int i)
  | .str x => some (.str x)
  | _ => none
theorem sc_of {G : Hp} {d : Dt} {v x : V} (r : R G v d) (h : sc d = some x) : v = x := by
  cases r <;> simp [sc] at h <;> exact h
theorem od_eq {d e : Dt} {x y : V} {b : Bool} (hx : sc d = some x) (hy : sc e = some y) (hs : scal x y = true) (hb : decide (x = y) = b) : OpD rEq d e (.bl b) := od_val fun G v w rx ry => by
  rw [sc_of rx hx, sc_of ry hy]
  exact ⟨_, fun _ => .bl _, fun H Q q => ⟨hs, by rw [hb]; exact q⟩⟩
theorem od_ne {d e : Dt} {x y : V} {b : Bool} (hx : sc d = some x) (hy : sc e = some y) (hs : scal x y = true) (hb : (!decide (x = y)) = b) : OpD rNe d e (.bl b) := od_val fun G v w rx ry => by
  rw [sc_of rx hx, sc_of ry hy]
  exact ⟨_, fun _ => .bl _, fun H Q q => ⟨hs, by rw [hb]; exact q⟩⟩
theorem decI (i j : Int) : decide (V.int i = V.int j) = decide (i = j) := by rw [dec_int, Bool.beq_eq_decide_eq]
theorem decS (i j : Str) : decide (V.str i = V.str j) = decide (i = j) := by
  by_cases h : i = j
  · subst h; simp
  · rw [decide_eq_false h, decide_eq_false fun z => h (V.str.inj z)]
theorem decB (i j : Bool) : decide (V.bl i = V.bl j) = decide (i = j) := by rw [dec_bl, Bool.beq_eq_decide_eq]
theorem od_eqI {i j : Int} : OpD rEq (.int i) (.int j) (.bl (decide (i = j))) := od_eq rfl rfl rfl (decI i j)
theorem od_eqS {i j : Str} : OpD rEq (.str i) (.str j) (.bl (decide (i = j))) := od_eq rfl rfl rfl (decS i j)
theorem od_eqB {i j : Bool} : OpD rEq (.bl i) (.bl j) (.bl (decide (i = j))) := od_eq rfl rfl rfl (decB i j)
theorem od_neI {i j : Int} : OpD rNe (.int i) (.int j) (.bl (!decide (i = j))) := od_ne rfl rfl rfl (by rw [decI])
theorem od_neS {i j : Str} : OpD rNe (.str i) (.str j) (.bl (!decide (i = j))) := od_ne rfl rfl rfl (by rw [decS])
theorem od_neB {i j : Bool} : OpD rNe (.bl i) (.bl j) (.bl (!decide (i = j))) := od_ne rfl rfl rfl (by rw [decB])
theorem od_isN {d : Dt} {b : Bool} (hb : ∀ G v, R G v d → decide (v = .non) = b) : OpD (fun x y H Q => y = .non ∧ Q (.bl (decide (x = .non))) H) d .non (.bl b) := od_val fun G v w rx ry => by
  cases ry
  refine ⟨_, fun _ => .bl _, fun H Q q => ⟨rfl, ?_⟩⟩
  rw [hb _ _ rx]
  exact q
theorem od_notN {d : Dt} {b : Bool} (hb : ∀ G v, R G v d → (!decide (v = .non)) = b) : OpD (fun x y H Q => y = .non ∧ Q (.bl (!decide (x = .non))) H) d .non (.bl b) := od_val fun G v w rx ry => by
  cases ry
  refine ⟨_, fun _ => .bl _, fun H Q q => ⟨rfl, ?_⟩⟩
  rw [hb _ _ rx]
  exact q
theorem R.atI {G : Hp} {xs : List V} {ds : List Dt} {i : Int} {d : Dt} (r : RA G xs ds) (h : L2.atI ds i = some d) : ∃ v, L2.atI xs i = some v ∧ R G v d := by
  unfold L2.atI at h ⊢
  rw [r.length]
  cases e : ixN ds.length i with
  | none => rw [e] at h; cases h
  | some j =>
    rw [e] at h
    obtain ⟨v, a, q⟩ := r.get (i := j) h
    exact ⟨v, by simpa using a, q⟩
theorem od_ixl {ds : List Dt} {i : Int} {d : Dt} (h : L2.atI ds i = some d) : OpD (rIx K) (.lst ds) (.int i) d := fun ps H v w l rx ry Q q => by
  cases ry
  cases rx with
  | lst ha r =>
    obtain ⟨u, a, ru⟩ := R.atI r h
    exact .inl ⟨_, _, i, u, rfl, rfl, .of (hid_some ha).1, a, q u H (.refl H) ru⟩
theorem od_ixt {ds : List Dt} {i : Int} {d : Dt} (h : L2.atI ds i = some d) : OpD (rIx K) (.tup ds) (.int i) d := fun ps H v w l rx ry Q q => by
  cases ry
  cases rx with
  | tup ha r =>
    obtain ⟨u, a, ru⟩ := R.atI r h
    exact .inr (.inl ⟨_, _, i, u, rfl, rfl, .of (hid_some ha).1, a, q u H (.refl H) ru⟩)
/-- a sign of a text -/
theorem od_ixs {z : Str} {i : Int} {c : Nat} (hz : z.length ≤ sizeLine) (h : L2.atI z.cps.toList i = some c) : OpD (rIx K) (.str z) (.int i) (.str ⟨#[c]⟩) := fun ps H v w l rx ry Q q => by
  cases ry; cases rx
  exact .inr (.inr ⟨z, i, c, rfl, rfl, hz, h, q _ H (.refl H) (.str _)⟩)
/-- in a list, a tuple of ints; of texts -/
theorem inV_ints (i : Int) (ns : List Int) : inV (.int i) (ns.map V.int) = decide (i ∈ ns) := by
  unfold inV
  induction ns with
  | nil => rfl
  | cons n ns ih =>
    rw [List.map_cons, List.any_cons, ih]
    show ((n == i) || decide (i ∈ ns)) = _
    by_cases h : n = i
    · subst h; simp
    · have h' : ¬ i = n := fun z => h z.symm
      simp [h, h']
theorem inV_strs (i : Str) (ns : List Str) : inV (.str i) (ns.map V.str) = decide (i ∈ ns) := by
  unfold inV
  induction ns with
  | nil => rfl
  | cons n ns ih =>
    rw [List.map_cons, List.any_cons, ih]
    show ((n == i) || decide (i ∈ ns)) = _
    by_cases h : n = i
    · subst h; simp
    · have h' : ¬ i = n := fun z => h z.symm
      simp [h, h']
theorem flat_ints (ns : List Int) : (ns.map V.int).all flatV = true := by
  rw [List.all_map, List.all_eq_true]; intro x _; rfl
theorem flat_strs (ns : List Str) : (ns.map V.str).all flatV = true := by
  rw [List.all_map, List.all_eq_true]; intro x _; rfl
theorem od_inIl {i : Int} (ns : List Int) : OpD (rIn K false) (.int i) (.lst (ns.map Dt.int)) (.bl (decide (i ∈ ns))) := fun ps H v w l rx ry Q q => by
  cases rx
  cases ry with
  | lst ha r =>
    rw [r.ints] at ha
    refine ⟨_, _, rfl, .inl (.of (hid_some ha).1), rfl, flat_ints ns, ?_⟩
    rw [inV_ints]
    exact q _ H (.refl H) (.bl _)
theorem od_niIl {i : Int} (ns : List Int) : OpD (rIn K true) (.int i) (.lst (ns.map Dt.int)) (.bl (!decide (i ∈ ns))) := fun ps H v w l rx ry Q q => by
  cases rx
  cases ry with
  | lst ha r =>
    rw [r.ints] at ha
    refine ⟨_, _, rfl, .inl (.of (hid_some ha).1), rfl, flat_ints ns, ?_⟩
    rw [inV_ints]
    exact q _ H (.refl H) (.bl _)
theorem od_niIt {i : Int} (ns : List Int) : OpD (rIn K true) (.int i) (.tup (ns.map Dt.int)) (.bl (!decide (i ∈ ns))) := fun ps H v w l rx ry Q q => by
  cases rx
  cases ry with
  | tup ha r =>
    rw [r.ints] at ha
    refine ⟨_, _, rfl, .inr (.of (hid_some ha).1), rfl, flat_ints ns, ?_⟩
    rw [inV_ints]
    exact q _ H (.refl H) (.bl _)
theorem od_inSt {i : Str} (ns : List Str) : OpD (rIn K false) (.str i) (.tup (ns.map Dt.str)) (.bl (decide (i ∈ ns))) := fun ps H v w l rx ry Q q => by
  cases rx
  cases ry with
  | tup ha r =>
    rw [r.strs] at ha
    refine ⟨_, _, rfl, .inr (.of (hid_some ha).1), rfl, flat_strs ns, ?_⟩
    rw [inV_strs]
    exact q _ H (.refl H) (.bl _)
theorem od_niSt {i : Str} (ns : List Str) : OpD (rIn K true) (.str i) (.tup (ns.map Dt.str)) (.bl (!decide (i ∈ ns))) := fun ps H v w l rx ry Q q => by
  cases rx
  cases ry with
  | tup ha r =>
    rw [r.strs] at ha
    refine ⟨_, _, rfl, .inr (.of (hid_some ha).1), rfl, flat_strs ns, ?_⟩
    rw [inV_strs]
    exact q _ H (.refl H) (.bl _)
theorem od_ltS {i j : Str} : OpD (fun x y H Q => ∃ i j, x = V.str i ∧ y = V.str j ∧ Q (.bl (decide (i.cps.toList < j.cps.toList))) H) (.str i) (.str j) (.bl (decide (i.cps.toList < j.cps.toList))) := od_val fun G v w rx ry => by
  cases rx; cases ry
  exact ⟨_, fun _ => .bl _, fun H Q q => ⟨i, j, rfl, rfl, q⟩⟩
/-- list + list -/
theorem od_cat {ds es : List Dt} (h : ds.length + es.length ≤ 100000) : OpD rCat (.lst ds) (.lst es) (.lst (ds ++ es)) := fun ps H v w l rx ry Q q => by
  cases rx with
  | lst ha r =>
    cases ry with
    | lst hb s =>
      refine ⟨_, _, _, _, rfl, rfl, (hid_some ha).1, (hid_some hb).1, by rw [r.length, s.length, sizeLine_eq]; omega, fun p hp => ?_⟩
      exact q _ _ (.new hp) (.lst (hid_mk upd_same (l.new hp)) ((r.append s).ex (hid_mono (.new hp))))
/-- tuple + tuple -/
theorem od_catT {ds es : List Dt} (h : ds.length + es.length ≤ 100000) : OpD (rCatA K) (.tup ds) (.tup es) (.tup (ds ++ es)) := fun ps H v w l rx ry Q q => by
  cases rx with
  | tup ha r =>
    cases ry with
    | tup hb s =>
      refine ⟨_, _, _, _, rfl, rfl, .of (hid_some ha).1, .of (hid_some hb).1, by rw [r.length, s.length, sizeLine_eq]; omega, fun e => ?_, fun e e' => ?_, fun e e' p hp => ?_⟩
      · subst e
        cases r
        exact q _ H (.refl H) (.tup hb s)
      · subst e'
        cases s
        rw [List.append_nil] at q
        exact q _ H (.refl H) (.tup ha r)
      · exact q _ _ (.new hp) (.tup (hid_mk upd_same (l.new hp)) ((r.append s).ex (hid_mono (.new hp))))
end
end Ck
namespace Ck
open PySem PySem.Spec L2
open PyProof.Rows hiding St

section
variable {K : PySem.W.Frag} {ρ : List (Option Dt)}
theorem ev_ty {n : String} : EvP (tC (.ty n)) ρ (.ty n) := ev_c fun _ => .ty n
theorem cd_lenl {ds : List Dt} : ClD (fun xs H Q => ∃ p ys, xs = [V.ref p] ∧ (SqL K H p ys ∨ SqT K H p ys) ∧ Q (.int ys.length) H) [.lst ds] (.int ds.length) := fun ps H vs l r Q q => by
  cases r with
  | cons r t =>
    cases t
    cases r with
    | lst ha r =>
      refine ⟨_, _, rfl, .inl (.of (hid_some ha).1), ?_⟩
      rw [r.length]
      exact q _ H (.refl H) (.int _)
theorem cd_lent {ds : List Dt} : ClD (fun xs H Q => ∃ p ys, xs = [V.ref p] ∧ (SqL K H p ys ∨ SqT K H p ys) ∧ Q (.int ys.length) H) [.tup ds] (.int ds.length) := fun ps H vs l r Q q => by
  cases r with
  | cons r t =>
    cases t
    cases r with
    | tup ha r =>
      refine ⟨_, _, rfl, .inr (.of (hid_some ha).1), ?_⟩
      rw [r.length]
      exact q _ H (.refl H) (.int _)
theorem cd_lens {z : Str} (hz : z.length ≤ sizeLine) : ClD (fun xs H Q => ∃ z, xs = [V.str z] ∧ z.length ≤ sizeLine ∧ Q (.int z.length) H) [.str z] (.int z.length) := fun ps H vs l r Q q => by
  cases r with
  | cons r t =>
    cases t
    cases r
    exact ⟨z, rfl, hz, q _ H (.refl H) (.int _)⟩
theorem cd_list {ds : List Dt} : ClD (fun xs H Q => ∃ p ys, xs = [V.ref p] ∧ (SqL K H p ys ∨ SqT K H p ys) ∧ ∀ l, H l = none → Q (.ref l) (upd H l (.lst ys))) [.lst ds] (.lst ds) := fun ps H vs l r Q q => by
  cases r with
  | cons r t =>
    cases t
    cases r with
    | lst ha r =>
      exact ⟨_, _, rfl, .inl (.of (hid_some ha).1), fun p hp => q _ _ (.new hp) (.lst (hid_mk upd_same (l.new hp)) (r.ex (hid_mono (.new hp))))⟩
theorem cd_tuple {ds : List Dt} : ClD (fun xs H Q => ∃ p ys, xs = [V.ref p] ∧ ((SqL K H p ys ∧ ∀ l, H l = none → Q (.ref l) (upd H l (.tup ys))) ∨ (SqT K H p ys ∧ Q (.ref p) H))) [.lst ds] (.tup ds) := fun ps H vs l r Q q => by
  cases r with
  | cons r t =>
    cases t
    cases r with
    | lst ha r =>
      exact ⟨_, _, rfl, .inl ⟨.of (hid_some ha).1, fun p hp => q _ _ (.new hp) (.tup (hid_mk upd_same (l.new hp)) (r.ex (hid_mono (.new hp))))⟩⟩
theorem cd_max2 {i j : Int} : ClD (fun xs H Q => ∃ i j, xs = [V.int i, V.int j] ∧ Q (.int (if j > i then j else i)) H) [.int i, .int j] (.int (max i j)) := fun ps H vs l r Q q => by
  cases r with
  | cons r t =>
    cases t with
    | cons r' t =>
      cases t; cases r; cases r'
      have e : (if j > i then j else i) = max i j := by split <;> omega
      exact ⟨i, j, rfl, by rw [e]; exact q _ H (.refl H) (.int _)⟩
theorem cd_min2 {i j : Int} : ClD (fun xs H Q => ∃ i j, xs = [V.int i, V.int j] ∧ Q (.int (if j < i then j else i)) H) [.int i, .int j] (.int (min i j)) := fun ps H vs l r Q q => by
  cases r with
  | cons r t =>
    cases t with
    | cons r' t =>
      cases t; cases r; cases r'
      have e : (if j < i then j else i) = min i j := by split <;> omega
      exact ⟨i, j, rfl, by rw [e]; exact q _ H (.refl H) (.int _)⟩
theorem cd_intI {i : Int} : ClD (fun xs H Q => (∃ i, xs = [V.int i] ∧ Q (.int i) H) ∨ ∃ k, xs = [V.bl k] ∧ Q (.int (if k then 1 else 0)) H) [.int i] (.int i) := fun ps H vs l r Q q => by
  cases r with
  | cons r t => cases t; cases r; exact .inl ⟨i, rfl, q _ H (.refl H) (.int _)⟩
theorem cd_intB {b : Bool} : ClD (fun xs H Q => (∃ i, xs = [V.int i] ∧ Q (.int i) H) ∨ ∃ k, xs = [V.bl k] ∧ Q (.int (if k then 1 else 0)) H) [.bl b] (.int (if b then 1 else 0)) := fun ps H vs l r Q q => by
  cases r with
  | cons r t => cases t; cases r; exact .inr ⟨b, rfl, q _ H (.refl H) (.int _)⟩
theorem cd_abs {i : Int} : ClD (fun xs H Q => ∃ i, xs = [V.int i] ∧ Q (.int (if i < 0 then -i else i)) H) [.int i] (.int (if i < 0 then -i else i)) := fun ps H vs l r Q q => by
  cases r with
  | cons r t => cases t; cases r; exact ⟨i, rfl, q _ H (.refl H) (.int _)⟩
theorem cd_gcd {a b : Int} : ClD rGcd [.int a, .int b] (.int ((Nat.gcd a.natAbs b.natAbs : Nat) : Int)) := fun ps H vs l r Q q => by
  cases r with
  | cons r t =>
    cases t with
    | cons r' t =>
      cases t; cases r; cases r'
      exact ⟨a, b, rfl, q _ H (.refl H) (.int _)⟩
theorem cd_all (bs : List Bool) : ClD (rAll K) [.lst (bs.map Dt.bl)] (.bl (bs.all id)) := fun ps H vs l r Q q => by
  cases r with
  | cons r t =>
    cases t
    cases r with
    | lst ha r =>
      rw [r.bls] at ha
      exact ⟨_, bs, rfl, .of (hid_some ha).1, q _ H (.refl H) (.bl _)⟩
theorem cd_sum (ns : List Int) : ClD (rSum K) [.lst (ns.map Dt.int)] (.int ns.sum) := fun ps H vs l r Q q => by
  cases r with
  | cons r t =>
    cases t
    cases r with
    | lst ha r =>
      rw [r.ints] at ha
      exact ⟨_, ns, rfl, .of (hid_some ha).1, q _ H (.refl H) (.int _)⟩
theorem cd_min {ns : List Int} {m : Int} (h1 : m ∈ ns) (h2 : ∀ y, y ∈ ns → m ≤ y) : ClD (rMin K) [.lst (ns.map Dt.int)] (.int m) := fun ps H vs l r Q q => by
  cases r with
  | cons r t =>
    cases t
    cases r with
    | lst ha r =>
      rw [r.ints] at ha
      refine ⟨_, ns, rfl, .of (hid_some ha).1, List.length_pos_of_mem h1, fun m' h1' h2' => ?_⟩
      have e : m' = m := Int.le_antisymm (h2' m h1) (h2 m' h1')
      rw [e]
      exact q _ H (.refl H) (.int _)
/-- two sorted lists of the same members, as often each -/
theorem sorted_one : ∀ {xs ys : List Int}, xs.Perm ys → xs.Pairwise (· ≤ ·) → ys.Pairwise (· ≤ ·) → xs = ys
  | [], ys, p, _, _ => (List.nil_perm.mp p).symm
  | x :: xs, [], p, _, _ => by have := p.length_eq; simp at this
  | x :: xs, y :: ys, p, hx, hy => by
    have h1 : x ≤ y := by
      have m : y ∈ x :: xs := p.mem_iff.mpr List.mem_cons_self
      rcases List.mem_cons.mp m with e | m
      · omega
      · exact (List.pairwise_cons.mp hx).1 y m
    have h2 : y ≤ x := by
      have m : x ∈ y :: ys := p.mem_iff.mp List.mem_cons_self
      rcases List.mem_cons.mp m with e | m
      · omega
      · exact (List.pairwise_cons.mp hy).1 x m
    have e : x = y := by omega
    subst e
    rw [sorted_one ((List.perm_cons x).mp p) (List.pairwise_cons.mp hx).2 (List.pairwise_cons.mp hy).2]
theorem cd_sorted {ns zs : List Int} (hl : ns.length < 64) (hp : zs.Perm ns) (hs : zs.Pairwise (· ≤ ·)) : ClD (rSorted K) [.lst (ns.map Dt.int)] (.lst (zs.map Dt.int)) := fun ps H vs l r Q q => by
  cases r with
  | cons r t =>
    cases t
    cases r with
    | lst ha r =>
      rw [r.ints] at ha
      refine ⟨_, ns, rfl, .of (hid_some ha).1, hl, fun ns' p pm pw hp' => ?_⟩
      have e : ns' = zs := sorted_one (pm.trans hp.symm) pw hs
      rw [e]
      exact q _ _ (.new hp') (.lst (hid_mk upd_same (l.new hp')) (RA.of_ints zs))
/-- isinstance -/
def tyN : Dt → Option String
  | .non => some "NoneType"
  | .bl _ => some "bool"
  | .int _ => some "int"
  | .str _ => some "str"
  | .lst _ => some "list"
  | .tup _ => some "tuple"
  | _ => none
theorem ty_of {H G : Hp} {v : V} {d : Dt} {t : String} (e : Ex G H) (r : R G v d) (h : tyN d = some t) : TyOf K H v (.type t) := by
  cases r with
  | non => cases h; exact .non
  | bl b => cases h; exact .bl b
  | int b => cases h; exact .int b
  | str b => cases h; exact .str b
  | lst ha r => cases h; exact .lst (e _ _ ha)
  | tup ha r => cases h; exact .tup (e _ _ ha)
  | adr a => cases h
  | ty n => cases h
  | dic ha r => cases h
  | dicu ha r => cases h
  | dicl ha r => cases h
theorem cd_isi {d : Dt} {t n : String} {b : Bool} (h : tyN d = some t) (hk : kitB t n = some b) : ClD (rIsi K) [d, .ty n] (.bl b) := fun ps H vs l r Q q => by
  cases r with
  | cons r s =>
    cases s with
    | cons r' s =>
      cases s; cases r'
      exact ⟨_, .ty n, .type t, .type n, b, rfl, .ty n, .base (ty_of (hid_ex ps H) r h), kit_ty hk, q _ H (.refl H) (.bl b)⟩
end
end Ck
namespace Ck
open PySem PySem.Spec L2
open PyProof.Rows hiding St

/-! ### what is walked -/
def ItOk (J : It) (G1 : Hp) (ds : List Dt) : Prop := ∀ (ps : List Addr) (H : Hp), Lv ps H → Ex G1 (hid ps H) →
  (∀ i, i < ds.length → J.go i H) ∧ J.stop ds.length H ∧ ∀ (i : Nat) (v : V) (H' : Hp) (d : Dt), ds[i]? = some d → J.yld i H v H' → Ex H H' ∧ R (hid ps H') v d
def EvI (wi : TI) (ρ : List (Option Dt)) (ds : List Dt) : Prop := ∀ (ps : List Addr) (H : Hp) (σ : St), Lv ps H → Sl (hid ps H) σ ρ → ∀ T : It → Hp → Prop, (∀ J H', Ex H H' → ItOk J (hid ps H') ds → T J H') → wi σ H T
/-- lo, lo + 1, .. -/
def rngD (lo : Int) (n : Nat) : List Dt := (List.range n).map fun (i : Nat) => .int (lo + (i : Int))
/-- numbered pairs -/
def enumD (ds : List Dt) : List Dt := ds.zipIdx.map fun p => .tup [.int (p.2 : Int), p.1]
def zipD (ds es : List Dt) : List Dt := (ds.zip es).map fun p => .tup [p.1, p.2]
def signsD (z : Str) : List Dt := z.cps.toList.map fun c => .str ⟨#[c]⟩
section
variable {K : PySem.W.Frag} {ρ : List (Option Dt)} {ds es : List Dt} {te : TE} {ta : TA}
theorem it_list {G : Hp} {a : Addr} {xs : List V} (ha : G a = some (.lst xs)) (r : RA G xs ds) : ItOk (Itl K a) G ds := fun ps H l e => by
  have hA : H a = some (.lst xs) := (hid_some (e _ _ ha)).1
  refine ⟨fun i hi => ?_, ⟨xs, .of hA, by rw [r.length] <;> exact Nat.le_refl _⟩, fun i v H' d hd y => ?_⟩
  · obtain ⟨v, hv, _⟩ := r.get (List.getElem?_eq_getElem hi)
    exact ⟨xs, v, .of hA, hv⟩
  · obtain ⟨rfl, hy⟩ := y
    obtain ⟨w, hw, rw'⟩ := r.get hd
    have := (hy xs (.of hA)).symm.trans hw
    cases this
    exact ⟨.refl _, rw'.ex e⟩
theorem it_tup {G : Hp} {a : Addr} {xs : List V} (ha : G a = some (.tup xs)) (r : RA G xs ds) : ItOk (Itt K a) G ds := fun ps H l e => by
  have hA : H a = some (.tup xs) := (hid_some (e _ _ ha)).1
  refine ⟨fun i hi => ?_, ⟨xs, .of hA, by rw [r.length] <;> exact Nat.le_refl _⟩, fun i v H' d hd y => ?_⟩
  · obtain ⟨v, hv, _⟩ := r.get (List.getElem?_eq_getElem hi)
    exact ⟨xs, v, .of hA, hv⟩
  · obtain ⟨rfl, hy⟩ := y
    obtain ⟨w, hw, rw'⟩ := r.get hd
    have := (hy xs (.of hA)).symm.trans hw
    cases this
    exact ⟨.refl _, rw'.ex e⟩
theorem ei_list (h : EvP te ρ (.lst ds)) : EvI (iList K te) ρ ds := fun ps H σ l s T q => h ps H σ l s _ fun v H1 e1 r1 => by
  cases r1 with
  | lst ha r => exact ⟨_, rfl, ⟨_, .of (hid_some ha).1⟩, q _ _ e1 (it_list ha r)⟩
theorem ei_tup (h : EvP te ρ (.tup ds)) : EvI (iTup K te) ρ ds := fun ps H σ l s T q => h ps H σ l s _ fun v H1 e1 r1 => by
  cases r1 with
  | tup ha r => exact ⟨_, rfl, ⟨_, .of (hid_some ha).1⟩, q _ _ e1 (it_tup ha r)⟩
theorem rng_get {lo : Int} {n i : Nat} {d : Dt} (h : (rngD lo n)[i]? = some d) : i < n ∧ d = .int (lo + i) := by
  unfold rngD at h
  rw [List.getElem?_map] at h
  by_cases c : i < n
  · rw [List.getElem?_range c] at h
    exact ⟨c, (Option.some.inj h).symm⟩
  · rw [List.getElem?_eq_none (by simpa using c)] at h
    cases h
theorem rng_len (lo : Int) (n : Nat) : (rngD lo n).length = n := by unfold rngD; simp
theorem it_rng {G : Hp} {lo : Int} {n : Nat} : ItOk (Itr lo n) G (rngD lo n) := fun ps H l e => by
  rw [rng_len]
  refine ⟨fun i hi => hi, Nat.le_refl _, fun i v H' d hd y => ?_⟩
  obtain ⟨rfl, rfl⟩ := y
  obtain ⟨_, rfl⟩ := rng_get hd
  exact ⟨.refl _, .int _⟩
theorem ei_rng1 {n : Nat} (h : EvA ta ρ [.int (n : Int)]) (hn : n ≤ 100000) : EvI (iRng1 ta) ρ (rngD 0 n) := fun ps H σ l s T q => h ps H σ l s _ fun vs H1 e1 r1 => by
  cases r1 with
  | cons r t =>
    cases t; cases r
    refine ⟨(n : Int), rfl, by omega, by omega, ?_⟩
    have e : (n : Int).toNat = n := by omega
    rw [e]
    exact q _ _ e1 it_rng
theorem it_enum {G : Hp} {a : Addr} {xs : List V} (ha : G a = some (.lst xs)) (r : RA G xs ds) : ItOk (Ite K a) G (enumD ds) := fun ps H l e => by
  have hA : H a = some (.lst xs) := (hid_some (e _ _ ha)).1
  have hl : (enumD ds).length = ds.length := by unfold enumD; simp
  rw [hl]
  refine ⟨fun i hi => ?_, ⟨xs, .of hA, by rw [r.length] <;> exact Nat.le_refl _⟩, fun i v H' d hd y => ?_⟩
  · obtain ⟨v, hv, _⟩ := r.get (List.getElem?_eq_getElem hi)
    exact ⟨xs, v, .of hA, hv⟩
  · obtain ⟨T, x, rfl, nT, rfl, hy⟩ := y
    have hx := hy xs (.of hA)
    obtain ⟨d', hd', rx⟩ := r.get' hx
    have ed : d = .tup [.int (i : Int), d'] := by
      unfold enumD at hd
      rw [List.getElem?_map, List.getElem?_zipIdx, hd'] at hd
      simpa using hd.symm
    subst ed
    exact ⟨.new nT, .tup (hid_mk upd_same (l.new nT)) (.cons (.int _) (.cons ((rx.ex e).ex (hid_mono (.new nT))) .nil))⟩
theorem ei_enum (h : EvA ta ρ [.lst ds]) : EvI (iEnum K ta) ρ (enumD ds) := fun ps H σ l s T q => h ps H σ l s _ fun vs H1 e1 r1 => by
  cases r1 with
  | cons r t =>
    cases t
    cases r with
    | lst ha r => exact ⟨_, _, rfl, .of (hid_some ha).1, q _ _ e1 (it_enum ha r)⟩
theorem it_zip {G : Hp} {a b : Addr} {xs ys : List V} (ha : G a = some (.lst xs)) (r : RA G xs ds) (hb : G b = some (.lst ys)) (r' : RA G ys es) : ItOk (Itz K a b) G (zipD ds es) := fun ps H l e => by
  have hA : H a = some (.lst xs) := (hid_some (e _ _ ha)).1
  have hB : H b = some (.lst ys) := (hid_some (e _ _ hb)).1
  have hl : (zipD ds es).length = min ds.length es.length := by unfold zipD; simp
  rw [hl]
  refine ⟨fun i hi => ?_, ⟨xs, ys, .of hA, .of hB, by rw [r.length, r'.length]; omega⟩, fun i v H' d hd y => ?_⟩
  · obtain ⟨v, hv, _⟩ := r.get (List.getElem?_eq_getElem (show i < ds.length by omega))
    obtain ⟨w, hw, _⟩ := r'.get (List.getElem?_eq_getElem (show i < es.length by omega))
    exact ⟨xs, ys, v, w, .of hA, .of hB, hv, hw⟩
  · obtain ⟨T, x, y, rfl, nT, rfl, hx, hy⟩ := y
    obtain ⟨d1, h1, rx⟩ := r.get' (hx xs (.of hA))
    obtain ⟨d2, h2, ry⟩ := r'.get' (hy ys (.of hB))
    have ed : d = .tup [d1, d2] := by
      unfold zipD at hd
      rw [List.getElem?_map, (List.getElem?_zip_eq_some (z := (d1, d2))).mpr ⟨h1, h2⟩] at hd
      simpa using hd.symm
    subst ed
    exact ⟨.new nT, .tup (hid_mk upd_same (l.new nT)) (.cons ((rx.ex e).ex (hid_mono (.new nT))) (.cons ((ry.ex e).ex (hid_mono (.new nT))) .nil))⟩
theorem ei_zip (h : EvA ta ρ [.lst ds, .lst es]) : EvI (iZip K ta) ρ (zipD ds es) := fun ps H σ l s T q => h ps H σ l s _ fun vs H1 e1 r1 => by
  cases r1 with
  | cons r t =>
    cases t with
    | cons r' t =>
      cases t
      cases r with
      | lst ha r =>
        cases r' with
        | lst hb r' => exact ⟨_, _, _, _, rfl, .of (hid_some ha).1, .of (hid_some hb).1, q _ _ e1 (it_zip ha r hb r')⟩
theorem it_str {G : Hp} {z : Str} : ItOk (Its z) G (signsD z) := fun ps H l e => by
  have hl : (signsD z).length = z.cps.size := by unfold signsD; simp
  rw [hl]
  refine ⟨fun i hi => hi, Nat.le_refl _, fun i v H' d hd y => ?_⟩
  obtain ⟨rfl, c, hc, rfl⟩ := y
  have ed : d = .str ⟨#[c]⟩ := by
    unfold signsD at hd
    rw [List.getElem?_map, Array.getElem?_toList, hc] at hd
    simpa using hd.symm
  subst ed
  exact ⟨.refl _, .str _⟩
theorem ei_str {z : Str} (h : EvP te ρ (.str z)) : EvI (iStr te) ρ (signsD z) := fun ps H σ l s T q => h ps H σ l s _ fun v H1 e1 r1 => by
  cases r1
  exact ⟨z, rfl, q _ _ e1 it_str⟩
end

/-! ### targets -/
/-- the store of d turns the slots into ρ'; js: the slots stored -/
def TgD (g : TG) (js : List Nat) (ρ : List (Option Dt)) (d : Dt) (ρ' : List (Option Dt)) : Prop := ∀ (ps : List Addr) (H : Hp) (σ : St) (v : V), Lv ps H → Sl (hid ps H) σ ρ → R (hid ps H) v d → ∀ Q : St → Hp → Prop,
  (∀ σ', Sl (hid ps H) σ' ρ' → (∀ vs : List Nat, (∀ j ∈ js, j ∈ vs) → wipe σ' vs = wipe σ vs) → Q σ' H) → g v σ H Q
theorem wipe_set_in {σ : St} {j : Nat} {x : Option V} : ∀ {vs : List Nat}, j ∈ vs → wipe (σ.set j x) vs = wipe σ vs
  | v :: vs, h => by
    have out : ∀ {ws : List Nat}, j ∉ ws → wipe (σ.set j x) ws = (wipe σ ws).set j x := by
      intro ws
      induction ws with
      | nil => intro _; rfl
      | cons w ws ih =>
        intro hn
        show (wipe (σ.set j x) ws).set w none = ((wipe σ ws).set w none).set j x
        rw [ih (fun z => hn (List.mem_cons_of_mem _ z)), List.set_comm _ _ (fun z : j = w => hn (by rw [z]; exact List.mem_cons_self))]
    show (wipe (σ.set j x) vs).set v none = (wipe σ vs).set v none
    by_cases c : j ∈ vs
    · rw [wipe_set_in c]
    · rw [out c]
      rcases List.mem_cons.mp h with e | h
      · subst e; rw [List.set_set]
      · exact absurd h c
theorem wipe_wipe {σ : St} : ∀ (vs ws : List Nat), (∀ j ∈ vs, j ∈ ws) → wipe (wipe σ vs) ws = wipe σ ws
  | [], ws, _ => rfl
  | v :: vs, ws, h => by
    show wipe ((wipe σ vs).set v none) ws = wipe σ ws
    rw [wipe_set_in (h v List.mem_cons_self), wipe_wipe vs ws fun j hj => h j (List.mem_cons_of_mem _ hj)]
section
variable {K : PySem.W.Frag} {ρ ρ' ρ1 ρ2 : List (Option Dt)} {ds es : List Dt} {d : Dt} {te : TE} {ta : TA}
theorem tg_name {i : Nat} : TgD (gName i) [i] ρ d (ρ.set i (some d)) := fun ps H σ v l s r Q q =>
  q _ (s.set i r) fun vs h => wipe_set_in (h i List.mem_cons_self)
/-- two names of a pair -/
theorem tg_two {i j : Nat} {d e : Dt} : TgD (gTup K 2 (gCons (gName i) (gCons (gName j) gNil))) [i, j] ρ (.tup [d, e]) ((ρ.set i (some d)).set j (some e)) := fun ps H σ v l s r Q q => by
  cases r with
  | tup ha r =>
    cases r with
    | cons r1 r =>
      cases r with
      | cons r2 r =>
        cases r
        refine ⟨_, _, rfl, .of (hid_some ha).1, rfl, _, _, rfl, _, _, rfl, rfl, ?_⟩
        refine q _ ((s.set i r1).set j r2) fun vs h => ?_
        rw [wipe_set_in (h j (by simp)), wipe_set_in (h i (by simp))]
end

/-! ### comprehensions -/
theorem hid_cons_ex {ps : List Addr} {H1 H : Hp} {D : Addr} (e : Ex H1 (hid [D] H)) : Ex (hid ps H1) (hid (D :: ps) H) := fun a o h => by
  obtain ⟨h, c⟩ := hid_some h
  obtain ⟨h, c'⟩ := hid_some (e _ _ h)
  exact hid_mk h fun z => (List.mem_cons.mp z).elim (fun z => c' (by simp [z])) c
theorem hid_one_upd {H : Hp} {D : Addr} {o : HO} : hid [D] (upd H D o) = hid [D] H := hid_upd (by simp)
theorem Lv.cons {ps : List Addr} {H1 H : Hp} {D : Addr} {o : HO} (l : Lv ps H1) (e : Ex H1 (hid [D] H)) (h : H D = some o) : Lv (D :: ps) H := fun a ha z => by
  rcases List.mem_cons.mp ha with q | ha
  · subst q; rw [h] at z; cases z
  · cases q : H1 a with
    | none => exact l a ha q
    | some u => rw [(hid_some (e _ _ q)).1] at z; cases z
theorem ev_lc {ρ : List (Option Dt)} {wi : TI} {g : TG} {tt : TT} {te : TE} {vs js : List Nat} {α : Type} (xs : List α) (emb : α → Dt) (fb : α → Bool) (fe : α → Dt) (ρf : α → List (Option Dt))
    (hi : EvI wi ρ (xs.map emb)) (hjs : ∀ j ∈ js, j ∈ vs) (hg : ∀ x ∈ xs, TgD g js (wipeD ρ vs) (emb x) (ρf x)) (ht : ∀ x ∈ xs, EvT tt (ρf x) (fb x)) (he : ∀ x ∈ xs, fb x = true → EvP te (ρf x) (fe x)) (hl : xs.length ≤ 100000) :
    EvP (tLc wi g tt te vs) ρ (.lst ((xs.filter fb).map fe)) := by
  intro ps H σ l s Q q
  refine hi ps H σ l s _ fun J H1 e1 ok D hD => ?_
  have l1 : Lv ps H1 := l.ex e1
  have s1 : Sl (hid ps H1) σ ρ := s.ex (hid_mono e1)
  refine ⟨fun i m H' => i + m = xs.length ∧ ∃ acc, H' D = some (.lst acc) ∧ RA (hid (D :: ps) H') acc (((xs.take i).filter fb).map fe) ∧ Ex H1 (hid [D] H'), ⟨xs.length, by omega, [], upd_same, .nil, ?_⟩, ?_⟩
  · rw [hid_one_upd]
    exact fun a o h => hid_mk h (by simpa using ne_of_none h hD)
  · rintro i m H' ⟨him, acc, hacc, hr, hx⟩
    have lD : Lv (D :: ps) H' := l1.cons hx hacc
    have eG : Ex (hid ps H1) (hid (D :: ps) H') := hid_cons_ex hx
    obtain ⟨hgo, hstop, hy⟩ := ok (D :: ps) H' lD eG
    rw [List.length_map] at hgo hstop
    by_cases hi : i < xs.length
    · refine .inr ⟨hgo i hi, fun H'' => i + 1 + (m - 1) = xs.length ∧ ∃ acc, H'' D = some (.lst acc) ∧ RA (hid (D :: ps) H'') acc (((xs.take (i + 1)).filter fb).map fe) ∧ Ex H1 (hid [D] H''), fun H'' h => ⟨m - 1, by omega, h⟩, fun v H2 y => ?_⟩
      have hxi : xs[i]? = some xs[i] := List.getElem?_eq_getElem hi
      have hmem : xs[i] ∈ xs := List.getElem_mem hi
      obtain ⟨e2, rv⟩ := hy i v H2 (emb xs[i]) (by rw [List.getElem?_map, hxi]; rfl) y
      have lD2 : Lv (D :: ps) H2 := lD.ex e2
      have sW : Sl (hid (D :: ps) H2) (wipe σ vs) (wipeD ρ vs) := ((s1.ex eG).ex (hid_mono e2)).wipe vs
      refine hg _ hmem (D :: ps) H2 (wipe σ vs) v lD2 sW rv _ fun σ' s' hw => ⟨?_, ?_⟩
      · rw [hw vs hjs, wipe_wipe vs vs fun _ h => h]
      · have hx2 : Ex H1 (hid [D] H2) := hx.trans (hid_mono e2)
        refine ht _ hmem (D :: ps) H2 σ' lD2 s' _ fun H3 e3 => ?_
        have ea : (xs.take (i + 1)).filter fb = (xs.take i).filter fb ++ (if fb xs[i] = true then [xs[i]] else []) := by
          rw [List.take_add_one, hxi, List.filter_append]
          congr 1
          cases c : fb xs[i] <;> simp [c]
        cases c : fb xs[i] with
        | true =>
          rw [if_pos rfl]
          refine he _ hmem c (D :: ps) H3 σ' (lD2.ex e3) (s'.ex (hid_mono e3)) _ fun y H4 e4 r4 => ?_
          have hacc4 : H4 D = some (.lst acc) := e4 _ _ (e3 _ _ (e2 _ _ hacc))
          have hr4 : RA (hid (D :: ps) H4) acc _ := hr.ex (hid_mono ((e2.trans e3).trans e4))
          refine ⟨acc, hacc4, ?_, by omega, acc ++ [y], upd_same, ?_, ?_⟩
          · rw [hr.length, List.length_map, sizeLine_eq]
            have h1 := List.length_filter_le fb (xs.take i)
            have h2 := List.length_take_le i xs
            omega
          · rw [hid_upd (by simp), ea, if_pos c, List.map_append]
            exact hr4.append (.one r4)
          · rw [hid_one_upd]
            exact hx2.trans (hid_mono (e3.trans e4))
        | false =>
          rw [if_neg Bool.false_ne_true]
          refine ⟨by omega, acc, e3 _ _ (e2 _ _ hacc), ?_, hx2.trans (hid_mono e3)⟩
          rw [ea, if_neg (by rw [c]; exact Bool.false_ne_true), List.append_nil]
          exact hr.ex (hid_mono (e2.trans e3))
    · have hn : i = xs.length := by omega
      subst hn
      rw [List.take_length] at hr
      refine .inl ⟨hstop, q _ _ (e1.trans (hx.trans (hid_ex _ _))) (.lst (hid_mk hacc (l1.new hD)) (hr.ex (hid_sub _ fun a h => List.mem_cons_of_mem _ h)))⟩
/-- without tests -/
theorem ev_lc0 {ρ : List (Option Dt)} {wi : TI} {g : TG} {te : TE} {vs js : List Nat} {α : Type} (xs : List α) (emb : α → Dt) (fe : α → Dt) (ρf : α → List (Option Dt))
    (hi : EvI wi ρ (xs.map emb)) (hjs : ∀ j ∈ js, j ∈ vs) (hg : ∀ x ∈ xs, TgD g js (wipeD ρ vs) (emb x) (ρf x)) (he : ∀ x ∈ xs, EvP te (ρf x) (fe x)) (hl : xs.length ≤ 100000) :
    EvP (tLc wi g tYes te vs) ρ (.lst (xs.map fe)) := by
  have h := ev_lc (tt := tYes) (te := te) xs emb (fun _ => true) fe ρf hi hjs hg (fun _ _ => et_yes) (fun x hx _ => he x hx) hl
  rw [show xs.filter (fun _ => true) = xs from List.filter_eq_self.mpr fun _ _ => rfl] at h
  exact h

/-! ### dicts that are read -/
def look (kvs : List (Key × Dt)) (k : Key) : Option Dt := (kvs.find? fun kv => decide (kv.1 = k)).map (·.2)
theorem RK.isSome {G : Hp} {es : List (Key × V)} {kvs : List (Key × Dt)} (r : RK G es kvs) (k : Key) : (valV es k).isSome = (look kvs k).isSome := by
  cases c : look kvs k with
  | none => rw [r.none k c]; rfl
  | some d =>
    obtain ⟨v, hv, _⟩ := r.val k c
    rw [hv]; rfl
def kD : Key → Dt
  | .inl i => .int i
  | .inr x => .str x
theorem kD_v {G : Hp} {v : V} : ∀ {k : Key}, R G v (kD k) → v = kV k
  | .inl i, r => by cases r; rfl
  | .inr x, r => by cases r; rfl
theorem dget_of {G H : Hp} {a : Addr} {es : List (Key × V)} {k : Key} (e : Ex G H) (h : Rd G a (.dK es)) : DGet H a (kV k) (valV es k) := by
  refine .inl ⟨es, k, ?_, rfl, rfl⟩
  rcases h with h | ⟨o, h⟩
  · exact .inl (e _ _ h)
  · exact .inr ⟨o, e _ _ h⟩
section
variable {ρ : List (Option Dt)} {td ty : TE} {kvs : List (Key × Dt)} {k : Key} {d : Dt}
theorem ev_dget (hd : EvP td ρ (.dic kvs)) (hy : EvP ty ρ (kD k)) (h : look kvs k = some d) : EvP (tDGet td ty) ρ d := fun ps H σ l s Q q =>
  hd ps H σ l s _ fun x H1 e1 r1 => hy ps H1 σ (l.ex e1) (s.ex (hid_mono e1)) _ fun y H2 e2 r2 => by
    cases kD_v r2
    cases r1 with
    | dic ha r =>
      have ha2 := (Ex.kp (hid_mono (ps := ps) e2)).d _ _ ha
      obtain ⟨v, hv, rv⟩ := r.val k h
      refine ⟨_, v, rfl, ?_, q v H2 (e1.trans e2) (rv.ex (hid_mono e2))⟩
      rw [← hv]
      exact dget_of (hid_ex ps H2) ha2
theorem ev_din (hy : EvP ty ρ (kD k)) (hd : EvP td ρ (.dic kvs)) : EvP (tDIn ty td) ρ (.bl (look kvs k).isSome) := fun ps H σ l s Q q =>
  hy ps H σ l s _ fun y H1 e1 r1 => hd ps H1 σ (l.ex e1) (s.ex (hid_mono e1)) _ fun x H2 e2 r2 => by
    cases kD_v r1
    cases r2 with
    | dic ha r =>
      refine ⟨_, _, rfl, dget_of (hid_ex ps H2) ha, ?_⟩
      rw [r.isSome k]
      exact q _ H2 (e1.trans e2) (.bl _)
theorem ev_dnin (hy : EvP ty ρ (kD k)) (hd : EvP td ρ (.dic kvs)) : EvP (tDNotIn ty td) ρ (.bl (!(look kvs k).isSome)) := fun ps H σ l s Q q =>
  hy ps H σ l s _ fun y H1 e1 r1 => hd ps H1 σ (l.ex e1) (s.ex (hid_mono e1)) _ fun x H2 e2 r2 => by
    cases kD_v r1
    cases r2 with
    | dic ha r =>
      refine ⟨_, _, rfl, dget_of (hid_ex ps H2) ha, ?_⟩
      rw [r.isSome k]
      exact q _ H2 (e1.trans e2) (.bl _)
end

/-! ### pure defs -/
/-- a def that makes d of ds where F says so, and leaves all as it is -/
def spP (F : List Dt → Dt → Prop) : Sp := fun vs H Q _ => ∃ (ps : List Addr) (ds : List Dt) (d : Dt), Lv ps H ∧ RA (hid ps H) vs ds ∧ F ds d ∧ ∀ v H', Ex H H' → R (hid ps H') v d → Q v H'
theorem ev_call {ρ : List (Option Dt)} {F : List Dt → Dt → Prop} {ds : List Dt} {d : Dt} {ta : TA} {E : XK} (ha : EvA ta ρ ds) (hF : F ds d) : EvP (tCall (spP F) [] E ta) ρ d := fun ps H σ l s Q q =>
  ha ps H σ l s _ fun vs H1 e1 r1 => ⟨ps, ds, d, l.ex e1, by rw [List.append_nil]; exact r1, hF, fun v H2 e2 r2 => q v H2 (e1.trans e2) r2⟩
/-- a def of the text, as it can be called -/
structure Has (P : Program) (w : World) (K : PySem.W.Frag) (mg : Str → Option Value) (base : Heap) (k : Nat) (x : Str) (ps : List Str) (sp : Sp) : Prop where
  ex : ∃ (f : Addr) (fd : FuncData), FnOk P w K mg base CX0 k f fd ps sp ∧ mg x = some (.ref f) ∧ PySem.W.keepIn K (.ref f) = true ∧ Binds K fd ps []
theorem Has.up {P : Program} {w : World} {K : PySem.W.Frag} {mg : Str → Option Value} {base : Heap} {j k : Nat} {x : Str} {ps : List Str} {sp : Sp} (h : Has P w K mg base j x ps sp) (le : j ≤ k) : Has P w K mg base k x ps sp := by
  obtain ⟨f, fd, F, r⟩ := h.ex
  exact ⟨f, fd, F.mono le, r⟩
theorem pe_has {X : Cx} {k : Nat} {x : Str} {ps : List Str} {sp : Sp} {p pos : Pos} {e : Expr} {es : List Expr} {t : TA} (h : Has X.prog X.w X.K X.mg X.base k x ps sp) (hr : Room k X.A) (hg : Gl X x) (ha : PA X (e :: es) t)
    (hdb : (x == ("__debug__" : Str)) = false := by decide) (he : starEach (e :: es) X.env = (false, eval e X.env) :: starEach es X.env := by rfl) (hpl : (backTo pos (starEach es X.env)).any (·.1) = false := by rfl) :
    PE X (.Call (.Name x p) (e :: es) [] pos) (tCall sp [] E0 t) := by
  obtain ⟨f, fd, F, hm, hk, hb⟩ := h.ex
  exact pe_call F hr hg hm hk hb .nil pass0 ha hdb he hpl
structure Dfn (K : PySem.W.Frag) (mg : Str → Option Value) (x : Str) (st : Stmt) : Prop where
  ex : ∃ (f : Addr) (fd : FuncData), Fun K x x st f fd ∧ mg x = some (.ref f)
/-- how n values are bound -/
def BindN (x : Str) (st : Stmt) (ps : List Str) : Prop := ∀ (kV doc pm : Value) (an : Option Addr) (cdv ct : Value) (us : List Value), us.length = ps.length → bindArgs (PySem.W.fnOf x x (defArgs st) (defBody st) (defScope st) .none kV doc pm an cdv ct) ⟨us, []⟩ = pure (ps.zip us)
/-- the context of a def's body, where nothing is raised out -/
abbrev cxN (P : Program) (w : World) (K : PySem.W.Frag) (mg : Str → Option Value) (base : Heap) (N : List Str) (x : Str) (sc : Scope) (f : Addr) (cdv : Value) (A : Around) (outer : List Env) (s : Shared) (H : Hp) (E : XK) : Cx :=
  (cxOf CX0 P w K mg base N x sc f cdv A outer s H E).nox
theorem Dfn.has {P : Program} {w : World} {K : PySem.W.Frag} {mg : Str → Option Value} {base : Heap} {x : Str} {st : Stmt} {N ps : List Str} {k : Nat} {sp : Sp} (D : Dfn K mg x st) (S : FnScope N ps (defScope st)) (hb : BindN x st ps)
    (len : ∀ vs H Q E, sp vs H Q E → vs.length = ps.length)
    (hbody : ∀ (f : Addr) (cdv : Value) (A : Around) (outer : List Env) (s : Shared) (H : Hp) (vs : List V) (Q : VK) (E : XK), Room k (A.deeper (envOfC x (defScope st) s.heap.objs.size f cdv)) → sp vs H Q E →
      ∃ t, PSs (cxN P w K mg base N x (defScope st) f cdv A outer s H E) (defBody st) t ∧ t { nx := fun _ H' => Q .non H', rt := Q } (L2.start N vs) H) : Has P w K mg base (k + 1) x ps sp := by
  obtain ⟨f, fd, F, hm⟩ := D.ex
  exact ⟨f, fd, F.ok S len (fun cdv A outer s H vs Q E hr h => hbody f cdv A outer s H vs Q E hr h), hm, F.kp, F.binds hb⟩
end Ck
namespace Ck
open PySem PySem.Spec L2
open PyProof.Rows hiding St

/-! ### the state: what is one's own (and changes), what is hidden, the slots -/
inductive Oc where
  | lst (ds : List Dt)
  | dic (kvs : List (Key × Dt))
  | deck (n : Nat)
abbrev Os := List (Addr × Oc)
def ks (os : Os) : List Addr := os.map (·.1)
abbrev vw (ps : List Addr) (os : Os) (H : Hp) : Hp := hid ps (hid (ks os) H)
def Oc.ok (G H : Hp) (p : Addr) : Oc → Prop
  | .lst ds => ∃ xs, H p = some (.lst xs) ∧ RA G xs ds
  | .dic kvs => ∃ es, H p = some (.dK es) ∧ RK G es kvs
  | .deck n => ∃ (q : Addr) (ns : List Int) (k : Nat) (gr mx : Int) (ct : Nat), H p = some (.lst [.ref q, .int k, .int gr, .int mx, .int ct]) ∧ G q = some (.lst (ns.map V.int)) ∧ ns.length ≤ 63 ∧ k ≤ ns.length ∧ 0 ≤ gr ∧ 0 ≤ mx ∧ mx < 2 ^ 100 + (k : Int) * 2 ^ 64 ∧ ct ≤ n + 1
theorem Oc.ok.mono {G G' H H' : Hp} {p : Addr} {c : Oc} (h : c.ok G H p) (e : Ex G G') (eh : H' p = H p) : c.ok G' H' p := by
  cases c with
  | lst ds => obtain ⟨xs, a, r⟩ := h; exact ⟨xs, eh.trans a, r.ex e⟩
  | dic kvs => obtain ⟨es, a, r⟩ := h; exact ⟨es, eh.trans a, r.ex e⟩
  | deck n => obtain ⟨q, ns, k, gr, mx, ct, a, b, r⟩ := h; exact ⟨q, ns, k, gr, mx, ct, eh.trans a, e _ _ b, r⟩
theorem Oc.ok.live {G H : Hp} {p : Addr} {c : Oc} (h : c.ok G H p) : ∃ o, H p = some o := by
  cases c with
  | lst ds => obtain ⟨xs, a, r⟩ := h; exact ⟨_, a⟩
  | dic kvs => obtain ⟨es, a, r⟩ := h; exact ⟨_, a⟩
  | deck n => obtain ⟨q, ns, k, gr, mx, ct, a, b, r⟩ := h; exact ⟨_, a⟩
theorem nd_mid {α : Type} {l r : List α} {a : α} : (l ++ a :: r).Nodup ↔ (a :: (l ++ r)).Nodup := List.perm_middle.nodup_iff
structure S (ps : List Addr) (H0 : Hp) (os : Os) (H : Hp) (σ : St) (ρ : List (Option Dt)) : Prop where
  live : Lv ps H0
  base : Ex H0 (hid (ks os) H)
  nd : (ks os).Nodup
  own : ∀ p c, (p, c) ∈ os → c.ok (vw ps os H) H p
  sl : Sl (vw ps os H) σ ρ
section
variable {ps : List Addr} {H0 H1 H H' : Hp} {os os' : Os} {σ σ' : St} {ρ ρ' : List (Option Dt)} {d : Dt} {D : Ends}
theorem S.ex (s : S ps H0 os H σ ρ) (e : Ex H H') : S ps H0 os H' σ ρ where
  live := s.live
  base := s.base.trans (hid_mono e)
  nd := s.nd
  own := fun p c h => by
    obtain ⟨o, ho⟩ := (s.own p c h).live
    exact (s.own p c h).mono (hid_mono (hid_mono e)) (by rw [ho, e _ _ ho])
  sl := s.sl.ex (hid_mono (hid_mono e))
theorem S.lv (s : S ps H0 os H σ ρ) : Lv (ps ++ ks os) H := fun a h z => by
  rcases List.mem_append.mp h with h | h
  · cases q : H0 a with
    | none => exact s.live a h q
    | some o => rw [(hid_some (s.base _ _ q)).1] at z; cases z
  · obtain ⟨p, hp, rfl⟩ := List.mem_map.mp h
    obtain ⟨o, ho⟩ := (s.own p.1 p.2 hp).live
    rw [ho] at z; cases z
theorem vw_eq (ps : List Addr) (os : Os) (H : Hp) : vw ps os H = hid (ps ++ ks os) H := hid_hid _ _ _
theorem S.evp (s : S ps H0 os H σ ρ) {te : TE} (h : EvP te ρ d) {Q : VK} (q : ∀ v H', Ex H H' → S ps H0 os H' σ ρ → R (vw ps os H') v d → Q v H') : te σ H Q := by
  have sl := s.sl
  rw [vw_eq] at sl
  exact h (ps ++ ks os) H σ s.lv sl Q fun v H' e r => q v H' e (s.ex e) (by rw [vw_eq]; exact r)
theorem S.evt (s : S ps H0 os H σ ρ) {tt : TT} {b : Bool} (h : EvT tt ρ b) {Q : Bool → Hp → Prop} (q : ∀ H', Ex H H' → S ps H0 os H' σ ρ → Q b H') : tt σ H Q := by
  have sl := s.sl
  rw [vw_eq] at sl
  exact h (ps ++ ks os) H σ s.lv sl Q fun H' e => q H' e (s.ex e)
theorem S.eva (s : S ps H0 os H σ ρ) {ta : TA} {ds : List Dt} (h : EvA ta ρ ds) {Q : List V → Hp → Prop} (q : ∀ vs H', Ex H H' → S ps H0 os H' σ ρ → RA (vw ps os H') vs ds → Q vs H') : ta σ H Q := by
  have sl := s.sl
  rw [vw_eq] at sl
  exact h (ps ++ ks os) H σ s.lv sl Q fun v H' e r => q v H' e (s.ex e) (by rw [vw_eq]; exact r)
theorem S.back (s : S ps H1 os H σ ρ) (l : Lv ps H0) (e : Ex H0 H1) : S ps H0 os H σ ρ := ⟨l, e.trans s.base, s.nd, s.own, s.sl⟩
/-- from here on -/
theorem S.here (s : S ps H0 os H σ ρ) : S ps (hid (ks os) H) os H σ ρ where
  live := fun a h => by
    cases q : H0 a with
    | none => exact absurd q (s.live a h)
    | some o => rw [s.base _ _ q]; exact Option.some_ne_none _
  base := Ex.refl _
  nd := s.nd
  own := s.own
  sl := s.sl
theorem S.slots (s : S ps H0 os H σ ρ) (h : Sl (vw ps os H) σ' ρ') : S ps H0 os H σ' ρ' := ⟨s.live, s.base, s.nd, s.own, h⟩
theorem S.set (s : S ps H0 os H σ ρ) (i : Nat) {v : V} (r : R (vw ps os H) v d) : S ps H0 os H (σ.set i (some v)) (ρ.set i (some d)) := s.slots (s.sl.set i r)
/-- what is one's own is left to all -/
theorem S.drop {pre post : Os} {p : Addr} {c : Oc} (s : S ps H0 (pre ++ (p, c) :: post) H σ ρ) : S ps H0 (pre ++ post) H σ ρ := by
  have hsub : ∀ a, a ∈ ks (pre ++ post) → a ∈ ks (pre ++ (p, c) :: post) := fun a h => by
    unfold ks at h ⊢
    rw [List.map_append, List.mem_append] at h
    rw [List.map_append, List.map_cons, List.mem_append, List.mem_cons]
    exact h.elim .inl fun h => .inr (.inr h)
  have e : Ex (vw ps (pre ++ (p, c) :: post) H) (vw ps (pre ++ post) H) := hid_mono (hid_sub H hsub)
  refine ⟨s.live, s.base.trans (hid_sub H hsub), ?_, fun q c' h => ?_, s.sl.ex e⟩
  · have nd := s.nd
    unfold ks at nd ⊢
    rw [List.map_append, List.map_cons] at nd
    rw [List.map_append]
    exact nd.sublist (List.Sublist.append_left (List.sublist_cons_self _ _) _)
  · refine (s.own q c' ?_).mono e rfl
    rw [List.mem_append] at h ⊢
    exact h.elim .inl fun h => .inr (List.mem_cons_of_mem _ h)
/-- what a list of one's own is worth to all -/
theorem S.worth {pre post : Os} {p : Addr} {ds : List Dt} (s : S ps H0 (pre ++ (p, .lst ds) :: post) H σ ρ) (hp : p ∉ ps) : R (vw ps (pre ++ post) H) (.ref p) (.lst ds) := by
  have hsub : ∀ a, a ∈ ks (pre ++ post) → a ∈ ks (pre ++ (p, Oc.lst ds) :: post) := fun a h => by
    unfold ks at h ⊢
    rw [List.map_append, List.mem_append] at h
    rw [List.map_append, List.map_cons, List.mem_append, List.mem_cons]
    exact h.elim .inl fun h => .inr (.inr h)
  obtain ⟨xs, a, r⟩ := s.own p (.lst ds) (by simp)
  have np : p ∉ ks (pre ++ post) := by
    have nd := s.nd
    unfold ks at nd ⊢
    rw [List.map_append, List.map_cons, nd_mid, List.nodup_cons] at nd
    rw [List.map_append]
    exact nd.1
  exact .lst (hid_mk (hid_mk a np) hp) (r.ex (hid_mono (hid_sub H hsub)))
theorem S.worthD {pre post : Os} {p : Addr} {kvs : List (Key × Dt)} (s : S ps H0 (pre ++ (p, .dic kvs) :: post) H σ ρ) (hp : p ∉ ps) : R (vw ps (pre ++ post) H) (.ref p) (.dic kvs) := by
  have hsub : ∀ a, a ∈ ks (pre ++ post) → a ∈ ks (pre ++ (p, Oc.dic kvs) :: post) := fun a h => by
    unfold ks at h ⊢
    rw [List.map_append, List.mem_append] at h
    rw [List.map_append, List.map_cons, List.mem_append, List.mem_cons]
    exact h.elim .inl fun h => .inr (.inr h)
  obtain ⟨xs, a, r⟩ := s.own p (.dic kvs) (by simp)
  have np : p ∉ ks (pre ++ post) := by
    have nd := s.nd
    unfold ks at nd ⊢
    rw [List.map_append, List.map_cons, nd_mid, List.nodup_cons] at nd
    rw [List.map_append]
    exact nd.1
  exact .dic (.inl (hid_mk (hid_mk a np) hp)) (r.ex (hid_mono (hid_sub H hsub)))
/-- an own place is not hidden by others -/
theorem S.out (s : S ps H0 os H σ ρ) {p : Addr} {c : Oc} (h : (p, c) ∈ os) : p ∉ ps := fun hp => by
  cases q : H0 p with
  | none => exact s.live p hp q
  | some o => exact (hid_some (s.base _ _ q)).2 (List.mem_map.mpr ⟨_, h, rfl⟩)
/-- the slot that holds a list of one's own: frozen -/
theorem S.freeze {pre post : Os} {p : Addr} {ds : List Dt} (s : S ps H0 (pre ++ (p, .lst ds) :: post) H σ ρ) {i : Nat} (h : ρ[i]? = some (some (.adr p))) : S ps H0 (pre ++ post) H σ (ρ.set i (some (.lst ds))) := by
  obtain ⟨v, hv, r⟩ := s.sl.2 i _ h
  cases r
  have w := s.worth (s.out (c := .lst ds) (by simp))
  have s' := s.drop.set i w
  have e : σ.set i (some (.ref p)) = σ := by
    apply List.ext_getElem?
    intro j
    by_cases c : j = i
    · subst c
      rw [List.getElem?_set_self (List.getElem?_eq_some_iff.mp hv).1, hv]
    · rw [List.getElem?_set_ne (Ne.symm c)]
  rw [e] at s'
  exact s'
theorem S.freezeD {pre post : Os} {p : Addr} {kvs : List (Key × Dt)} (s : S ps H0 (pre ++ (p, .dic kvs) :: post) H σ ρ) {i : Nat} (h : ρ[i]? = some (some (.adr p))) : S ps H0 (pre ++ post) H σ (ρ.set i (some (.dic kvs))) := by
  obtain ⟨v, hv, r⟩ := s.sl.2 i _ h
  cases r
  have w := s.worthD (s.out (c := .dic kvs) (by simp))
  have s' := s.drop.set i w
  have e : σ.set i (some (.ref p)) = σ := by
    apply List.ext_getElem?
    intro j
    by_cases c : j = i
    · subst c
      rw [List.getElem?_set_self (List.getElem?_eq_some_iff.mp hv).1, hv]
    · rw [List.getElem?_set_ne (Ne.symm c)]
  rw [e] at s'
  exact s'
/-- a new object of one's own -/
theorem S.fresh {pre post : Os} (s : S ps H0 (pre ++ post) H σ ρ) {p : Addr} (hp : H p = none) (o : HO) {c : Oc} (hc : ∀ G H', H' p = some o → c.ok G H' p) : S ps H0 (pre ++ (p, c) :: post) (upd H p o) σ ρ := by
  have np : p ∉ ps ++ ks (pre ++ post) := s.lv.new hp
  have np1 : p ∉ ps := fun h => np (List.mem_append_left _ h)
  have np2 : p ∉ ks (pre ++ post) := fun h => np (List.mem_append_right _ h)
  have hk : ∀ a, a ∈ ks (pre ++ (p, c) :: post) ↔ a = p ∨ a ∈ ks (pre ++ post) := fun a => by
    unfold ks
    rw [List.map_append, List.map_append, List.map_cons, List.mem_append, List.mem_append, List.mem_cons]
    constructor
    · rintro (h | h | h)
      · exact .inr (.inl h)
      · exact .inl h
      · exact .inr (.inr h)
    · rintro (h | h | h)
      · exact .inr (.inl h)
      · exact .inl h
      · exact .inr (.inr h)
  have e1 : Ex (hid (ks (pre ++ post)) H) (hid (ks (pre ++ (p, c) :: post)) (upd H p o)) := fun a u h => by
    obtain ⟨h, hn⟩ := hid_some h
    refine hid_mk (Ex.new hp _ _ h) fun z => ?_
    rcases (hk a).mp z with z | z
    · subst z; rw [hp] at h; cases h
    · exact hn z
  refine ⟨s.live, s.base.trans e1, ?_, fun q c' h => ?_, s.sl.ex (hid_mono e1)⟩
  · have nd := s.nd
    unfold ks at nd np2 ⊢
    rw [List.map_append] at nd np2
    rw [List.map_append, List.map_cons, nd_mid, List.nodup_cons]
    exact ⟨np2, nd⟩
  · rw [List.mem_append, List.mem_cons] at h
    have old : (q, c') ∈ pre ++ post → c'.ok (vw ps (pre ++ (p, c) :: post) (upd H p o)) (upd H p o) q := fun h => by
      have hq := s.own q c' h
      obtain ⟨u, hu⟩ := hq.live
      exact hq.mono (hid_mono e1) (by rw [hu]; exact Ex.new hp _ _ hu)
    rcases h with h | h | h
    · exact old (List.mem_append_left _ h)
    · cases h
      exact hc _ _ upd_same
    · exact old (List.mem_append_right _ h)
/-- an own object is written -/
theorem S.write {pre post : Os} {p : Addr} {c c' : Oc} {o : HO} (s : S ps H0 (pre ++ (p, c) :: post) H σ ρ) (hc : c'.ok (vw ps (pre ++ (p, c) :: post) H) (upd H p o) p) : S ps H0 (pre ++ (p, c') :: post) (upd H p o) σ ρ := by
  have hk : ks (pre ++ (p, c') :: post) = ks (pre ++ (p, c) :: post) := by unfold ks; simp
  have hin : p ∈ ks (pre ++ (p, c) :: post) := by unfold ks; simp
  have e : hid (ks (pre ++ (p, c') :: post)) (upd H p o) = hid (ks (pre ++ (p, c) :: post)) H := by rw [hk, hid_upd hin]
  have ev : vw ps (pre ++ (p, c') :: post) (upd H p o) = vw ps (pre ++ (p, c) :: post) H := by unfold vw; rw [e]
  have nd := s.nd
  refine ⟨s.live, by rw [e]; exact s.base, by rw [hk]; exact nd, fun q d h => ?_, by rw [ev]; exact s.sl⟩
  rw [ev]
  rw [List.mem_append, List.mem_cons] at h
  have ne : (q, d) ∈ pre ++ post → q ≠ p := fun h z => by
    unfold ks at nd
    rw [List.map_append, List.map_cons, nd_mid, List.nodup_cons] at nd
    exact nd.1 (by rw [← List.map_append]; exact List.mem_map.mpr ⟨_, h, z⟩)
  have old : (q, d) ∈ pre ++ post → d.ok (vw ps (pre ++ (p, c) :: post) H) (upd H p o) q := fun h =>
    (s.own q d (by rw [List.mem_append] at h ⊢; exact h.elim .inl fun h => .inr (List.mem_cons_of_mem _ h))).mono (.refl _) (upd_ne (ne h))
  rcases h with h | h | h
  · exact old (List.mem_append_left _ h)
  · cases h; exact hc
  · exact old (List.mem_append_right _ h)

/-! ### statements -/
/-- what a return of d leads to -/
def Ret (ps : List Addr) (H0 : Hp) (d : Dt) (D : Ends) : Prop := ∀ v H' os' σ' ρ', S ps H0 os' H' σ' ρ' → R (vw ps os' H') v d → D.rt v H'
theorem s_seq {t u : TS} (h : t { D with nx := u D } σ H) : tSeq t u D σ H := h
theorem s_set {te : TE} {i : Nat} (h : EvP te ρ d) (s : S ps H0 os H σ ρ) (k : ∀ σ' H', S ps H0 os H' σ' (ρ.set i (some d)) → D.nx σ' H') : tAsg te (gName i) D σ H :=
  s.evp h fun v H' e s' r => k _ _ (s'.set i r)
theorem s_asg {te : TE} {g : TG} {js : List Nat} (h : EvP te ρ d) (tg : TgD g js ρ d ρ') (s : S ps H0 os H σ ρ) (k : ∀ σ' H', S ps H0 os H' σ' ρ' → D.nx σ' H') : tAsg te g D σ H :=
  s.evp h fun v H' e s' r => by
    have sl := s'.sl
    rw [vw_eq] at sl r
    exact tg (ps ++ ks os) H' σ v s'.lv sl r _ fun σ2 s2 _ => k _ _ (s'.slots (by rw [vw_eq]; exact s2))
theorem s_if {tt : TT} {t u : TS} {b : Bool} (h : EvT tt ρ b) (s : S ps H0 os H σ ρ) (k1 : b = true → ∀ H', S ps H0 os H' σ ρ → t D σ H') (k2 : b = false → ∀ H', S ps H0 os H' σ ρ → u D σ H') : tIfS tt t u D σ H :=
  s.evt h fun H' e s' => by
    cases b with
    | true => rw [if_pos rfl]; exact k1 rfl H' s'
    | false => rw [if_neg Bool.false_ne_true]; exact k2 rfl H' s'
theorem s_ifF {tt : TT} {t u : TS} (h : EvT tt ρ false) (s : S ps H0 os H σ ρ) (k : ∀ H', S ps H0 os H' σ ρ → u D σ H') : tIfS tt t u D σ H := s_if h s (fun z => by cases z) fun _ => k
theorem s_ifT {tt : TT} {t u : TS} (h : EvT tt ρ true) (s : S ps H0 os H σ ρ) (k : ∀ H', S ps H0 os H' σ ρ → t D σ H') : tIfS tt t u D σ H := s_if h s (fun _ => k) fun z => by cases z
/-- a guard that isn't taken; one that is an if without else, taken -/
theorem s_gd {tt : TT} {t : TS} (h : EvT tt ρ false) (s : S ps H0 os H σ ρ) (k : ∀ H', S ps H0 os H' σ ρ → D.nx σ H') : tIfS tt t tNext D σ H := s_ifF h s k
theorem s_ret {te : TE} (h : EvP te ρ d) (s : S ps H0 os H σ ρ) (k : Ret ps H0 d D) : tRet te D σ H := s.evp h fun v H' e s' r => k v H' os σ ρ s' r
theorem s_drop {te : TE} (h : EvP te ρ d) (s : S ps H0 os H σ ρ) (k : ∀ H', S ps H0 os H' σ ρ → D.nx σ H') : tDrop te D σ H := s.evp h fun v H' e s' r => k H' s'
/-- x = [] , x = {} of one's own -/
theorem s_own {pre post : Os} {i : Nat} (s : S ps H0 (pre ++ post) H σ ρ) (k : ∀ p σ' H', S ps H0 (pre ++ (p, .lst []) :: post) H' σ' (ρ.set i (some (.adr p))) → D.nx σ' H') : tAsg (tLst tNil) (gName i) D σ H := by
  refine ⟨Nat.zero_le _, fun p hp => ?_⟩
  have s' := s.fresh hp (.lst []) (c := .lst []) fun G H' h => ⟨[], h, .nil⟩
  exact k p _ _ (s'.set i (.adr p))
theorem s_ownD {pre post : Os} {i : Nat} (s : S ps H0 (pre ++ post) H σ ρ) (k : ∀ p σ' H', S ps H0 (pre ++ (p, .dic []) :: post) H' σ' (ρ.set i (some (.adr p))) → D.nx σ' H') : tAsg tDNewK (gName i) D σ H := by
  intro p hp
  have s' := s.fresh hp (.dK []) (c := .dic []) fun G H' h => ⟨[], h, .nil⟩
  exact k p _ _ (s'.set i (.adr p))
/-- x.append(e), x one's own -/
theorem s_app {K : PySem.W.Frag} {pre post : Os} {p : Addr} {ds : List Dt} {to te : TE} (s : S ps H0 (pre ++ (p, .lst ds) :: post) H σ ρ) (ho : EvP to ρ (.adr p)) (he : EvP te ρ d) (hl : ds.length ≤ 100000)
    (k : ∀ H', S ps H0 (pre ++ (p, .lst (ds ++ [d])) :: post) H' σ ρ → D.nx σ H') : tDrop (tBM K "list" rAppend to (tCons te tNil)) D σ H := by
  refine s.evp ho fun v H1 e1 s1 r1 => ?_
  cases r1
  obtain ⟨xs, a, r⟩ := s1.own p (.lst ds) (by simp)
  refine ⟨.inl ⟨rfl, xs, .of a⟩, s1.evp he fun v H2 e2 s2 r2 => ?_⟩
  obtain ⟨xs, a, r⟩ := s2.own p (.lst ds) (by simp)
  refine ⟨p, xs, v, rfl, rfl, a, by rw [r.length, sizeLine_eq]; omega, k _ (s2.write ⟨_, upd_same, r.append (.one r2)⟩)⟩
/-- d[k] = e, d one's own, k new -/
theorem look_none_val {G : Hp} {es : List (Key × V)} {kvs : List (Key × Dt)} (r : RK G es kvs) {k : Key} (h : look kvs k = none) : valV es k = none := r.none k h
def putD (kvs : List (Key × Dt)) (k : Key) (d : Dt) : List (Key × Dt) := if (kvs.any fun kv => decide (kv.1 = k)) = true then kvs.map (fun kv => if kv.1 = k then (kv.1, d) else kv) else kvs ++ [(k, d)]
theorem RK.any {G : Hp} (k : Key) : ∀ {es : List (Key × V)} {kvs : List (Key × Dt)}, RK G es kvs → (es.any fun kv => decide (kv.1 = k)) = (kvs.any fun kv => decide (kv.1 = k))
  | _, _, .nil => rfl
  | _, _, .cons r t => by rw [List.any_cons, List.any_cons, RK.any k t]
theorem RK.repl {G : Hp} {k : Key} {v : V} {d : Dt} (q : R G v d) : ∀ {es : List (Key × V)} {kvs : List (Key × Dt)}, RK G es kvs → RK G (es.map fun kv => if kv.1 = k then (kv.1, v) else kv) (kvs.map fun kv => if kv.1 = k then (kv.1, d) else kv)
  | _, _, .nil => .nil
  | _, _, .cons (k := k') r t => by
    rw [List.map_cons, List.map_cons]
    by_cases c : k' = k
    · rw [if_pos c, if_pos c]; exact .cons q (RK.repl q t)
    · rw [if_neg c, if_neg c]; exact .cons r (RK.repl q t)
theorem RK.put {G : Hp} {k : Key} {v : V} {d : Dt} {es : List (Key × V)} {kvs : List (Key × Dt)} (r : RK G es kvs) (q : R G v d) : RK G (putK es k v) (putD kvs k d) := by
  unfold putK putD
  rw [r.any k]
  split
  · exact r.repl q
  · exact r.append (.cons q .nil)
theorem s_dput {pre post : Os} {p : Addr} {kvs : List (Key × Dt)} {k : Key} {td ty tv : TE} (s : S ps H0 (pre ++ (p, .dic kvs) :: post) H σ ρ) (hv : EvP tv ρ d) (hd : EvP td ρ (.adr p)) (hy : EvP ty ρ (kD k)) (hl : kvs.length ≤ 100000)
    (kk : ∀ H', S ps H0 (pre ++ (p, .dic (putD kvs k d)) :: post) H' σ ρ → D.nx σ H') : sDPut td ty tv D σ H := by
  refine s.evp hv fun v H1 e1 s1 r1 => ?_
  refine s1.evp hd fun x H2 e2 s2 r2 => ?_
  refine s2.evp hy fun y H3 e3 s3 r3 => ?_
  cases r2
  cases kD_v r3
  obtain ⟨es, a, r⟩ := s3.own p (.dic kvs) (by simp)
  refine ⟨p, _, rfl, .k a (by rw [r.length, sizeLine_eq]; omega), kk _ (s3.write ⟨_, upd_same, r.put (r1.ex ?_)⟩)⟩
  exact hid_mono (hid_mono (e2.trans e3))
/-! ### for -/
theorem s_for {α : Type} {wi : TI} {g : TG} {tb : TS} {js : List Nat} (xs : List α) (emb : α → Dt) (up : α → List (Option Dt) → List (Option Dt)) (I : Nat → Os → List (Option Dt) → Prop)
    (hi : EvI wi ρ (xs.map emb)) (tg : ∀ x ρ', TgD g js ρ' (emb x) (up x ρ')) (s : S ps H0 os H σ ρ) (h0 : I 0 os ρ)
    (step : ∀ H1, Ex H0 H1 → Lv ps H1 → ∀ (i : Nat) (x : α) os' ρ' H' σ', xs[i]? = some x → I i os' ρ' → S ps H1 os' H' σ' (up x ρ') →
      tb { D with nx := fun σ'' H'' => ∃ os'' ρ'', I (i + 1) os'' ρ'' ∧ S ps H1 os'' H'' σ'' ρ'', ct := fun σ'' H'' => ∃ os'' ρ'', I (i + 1) os'' ρ'' ∧ S ps H1 os'' H'' σ'' ρ'', bk := D.nx } σ' H')
    (done : ∀ os' ρ' H' σ', I xs.length os' ρ' → S ps H0 os' H' σ' ρ' → D.nx σ' H') : tFor wi g tb D σ H := by
  have sl := s.sl
  rw [vw_eq] at sl
  refine hi (ps ++ ks os) H σ s.lv sl _ fun J H1 e1 ok => ?_
  have s1 := s.ex e1
  have sh := s1.here
  rw [← vw_eq] at ok
  have eb : Ex H0 (hid (ks os) H1) := s1.base
  refine ⟨fun i m σ' H' => i + m = xs.length ∧ ∃ os' ρ', I i os' ρ' ∧ S ps (hid (ks os) H1) os' H' σ' ρ', ⟨xs.length, by omega, os, ρ, h0, sh⟩, ?_⟩
  rintro i m σ' H' ⟨him, os', ρ', hI, s'⟩
  have hG : Ex (vw ps os H1) (hid (ps ++ ks os') H') := by
    rw [← vw_eq]
    exact hid_mono s'.base
  obtain ⟨hgo, hstop, hy⟩ := ok (ps ++ ks os') H' s'.lv hG
  rw [List.length_map] at hgo hstop
  by_cases c : i < xs.length
  · refine .inr ⟨hgo i c, fun σ'' H'' => ∃ os'' ρ'', I (i + 1) os'' ρ'' ∧ S ps (hid (ks os) H1) os'' H'' σ'' ρ'', fun σ'' H'' ⟨os'', ρ'', h1, h2⟩ => ⟨m - 1, by omega, by omega, os'', ρ'', h1, h2⟩, fun v H2 y => ?_⟩
    have hxi : xs[i]? = some xs[i] := List.getElem?_eq_getElem c
    obtain ⟨e2, rv⟩ := hy i v H2 (emb xs[i]) (by rw [List.getElem?_map, hxi]; rfl) y
    have s2 := s'.ex e2
    have sl2 := s2.sl
    rw [vw_eq] at sl2
    refine tg xs[i] ρ' (ps ++ ks os') H2 σ' v s2.lv sl2 rv _ fun σ2 sl3 _ => ?_
    exact step _ eb sh.live i xs[i] os' ρ' H2 σ2 hxi hI (s2.slots (by rw [vw_eq]; exact sl3))
  · have hn : i = xs.length := by omega
    subst hn
    exact .inl ⟨hstop, done os' ρ' H' σ' hI (s'.back s.live eb)⟩
end
/-! ### pure defs, by their bodies -/
theorem Dfn.hasP {P : Program} {w : World} {K : PySem.W.Frag} {mg : Str → Option Value} {base : Heap} {x : Str} {st : Stmt} {N pp : List Str} {k : Nat} {F : List Dt → Dt → Prop} (D : Dfn K mg x st) (Sc : FnScope N pp (defScope st)) (hb : BindN x st pp)
    (len : ∀ ds d, F ds d → ds.length = pp.length)
    (hbody : ∀ (f : Addr) (cdv : Value) (A : Around) (outer : List Env) (s : Shared) (H : Hp) (E : XK), Room k (A.deeper (envOfC x (defScope st) s.heap.objs.size f cdv)) →
      ∃ t, PSs (cxN P w K mg base N x (defScope st) f cdv A outer s H E) (defBody st) t ∧
        ∀ ds d, F ds d → ∀ (ps : List Addr) (σ : St) (D : Ends), S ps H [] H σ (ds.map some ++ List.replicate (N.length - ds.length) none) → Ret ps H d D → (∀ σ' H', D.nx σ' H' = D.rt .non H') → t D σ H) : Has P w K mg base (k + 1) x pp (spP F) := by
  refine D.has Sc hb (fun vs H Q E h => ?_) (fun f cdv A outer s H vs Q E hr h => ?_)
  · obtain ⟨ps, ds, d, l, r, hF, _⟩ := h
    rw [r.length, len ds d hF]
  · obtain ⟨ps, ds, d, l, r, hF, q⟩ := h
    obtain ⟨t, ht, hb⟩ := hbody f cdv A outer s H E hr
    refine ⟨t, ht, hb ds d hF ps _ _ ⟨l, ?_, .nil, (fun p c h => by cases h), ?_⟩ (fun v H' os' σ' ρ' s' r' => ?_) (fun σ' H' => rfl)⟩
    · rw [show hid (ks []) H = H from hid_nil H]; exact .refl H
    · show Sl (hid ps (hid (ks []) H)) _ _
      rw [show hid (ks []) H = H from hid_nil H]
      exact r.start N
    · refine q v H' (s'.base.trans (hid_ex _ _)) (r'.ex ?_)
      exact hid_mono (hid_ex _ _)
end Ck
namespace Ck
open PySem PySem.Spec L2
open PyProof.Rows hiding St

/-! ### enumerate of a tuple -/
set_option maxHeartbeats 4000000 in
theorem enumT_new (l : Addr) (items : Array Value) :
    Meets (Builtin.«enumerate.__new__» ⟨[.type "enumerate", .ref l], []⟩) (fun _ R s => s.heap.IsTuple l items ∧
      R (.ok (.ret (.ref (s.heap.push { cls := .type "tuple_iterator", data := .fields #[.ref l, .int 0 0] }).objs.size)))
        { s with heap := (s.heap.push { cls := .type "tuple_iterator", data := .fields #[.ref l, .int 0 0] }).push { cls := .type "enumerate", data := .fields #[.none, .bool false, .ref s.heap.objs.size, rawInt 0, .none, .none] } }) :=
  .of_wp fun prog w A R s h => by
    obtain ⟨hp, g, d, tk, os⟩ := s
    obtain ⟨hl, h⟩ := h
    have hsub := sub_enumerate
    have q1 : ∀ {A' : Around} {E : Value → Shared → Prop} {Q : Value → Shared → Prop}, Q (.ref hp.objs.size) ⟨hp.push { cls := .type "tuple_iterator", data := .fields #[.ref l, .int 0 0] }, g, d, tk, os⟩ → wpAny (model prog w) A' (pyIter (.ref l)) Q E ⟨hp, g, d, tk, os⟩ :=
      fun q => wpAny_pyIter_tuple (s := ⟨hp, g, d, tk, os⟩) hl q
    wp_walk using q1
    refine wpAny_stack_any fun st => wpAny_pure ?_
    split
    · rename_i c _ _ _ _ _
      cases (c == Value.type "enumerate")
      · wp_walk using q1
        exact ⟨_, rfl, h⟩
      · wp_walk using q1
        exact ⟨_, rfl, h⟩
    · wp_walk using q1
      exact ⟨_, rfl, h⟩
theorem enumT_call {prog : Program} {w : World} {A : Around} {E : Value → Shared → Prop} {s : Shared} {l : Addr} {items : Array Value} {Q : Value → Shared → Prop} (hL : s.heap.IsTuple l items)
    (h : ∀ h', IsEnum h' (s.heap.objs.size + 1) s.heap.objs.size 0 .none → h'.IsTupleIter s.heap.objs.size l 0 → h'.objs.size = s.heap.objs.size + 2 →
      (∀ b o, s.heap.get? b = some o → h'.get? b = some o) → Q (.ref (s.heap.objs.size + 1)) { s with heap := h' }) :
    wpAny (model prog w) A (call (.type "enumerate") [.ref l]) Q E s := by
  refine callType_new F.called_enumerate (by decide) (F.typeCall_enumerate_1 _) (F.newCall_enumerate_1 _) (fun obj => F.args_object_init_2 obj _) F.entry_enumerate_new (enumT_new l items) ⟨hL, ?_⟩
  have hz : (s.heap.push { cls := .type "tuple_iterator", data := .fields #[.ref l, .int 0 0] }).objs.size = s.heap.objs.size + 1 := Heap.size_push ..
  refine (show _ ∧ _ from ?_)
  rw [hz]
  have he : IsEnum ((s.heap.push { cls := .type "tuple_iterator", data := .fields #[.ref l, .int 0 0] }).push { cls := .type "enumerate", data := .fields #[.none, .bool false, .ref s.heap.objs.size, rawInt 0, .none, .none] }) (s.heap.objs.size + 1) s.heap.objs.size 0 .none := by
    have q := Heap.get?_push_size (s.heap.push { cls := .type "tuple_iterator", data := .fields #[.ref l, .int 0 0] }) (o := { cls := .type "enumerate", data := .fields #[.none, .bool false, .ref s.heap.objs.size, rawInt 0, .none, .none] }) rfl
    rw [hz] at q
    exact q
  exact ⟨⟨_, he, rfl⟩, h _ he ⟨_, Heap.get?_push_of_some _ (Heap.get?_push_size _ rfl), rfl, rfl⟩ (by rw [Heap.size_push, hz]) fun b o x => Heap.get?_push_of_some _ (Heap.get?_push_of_some _ x)⟩
/-- the tuple at a, each item in a new pair -/
def IteT (K : PySem.W.Frag) (a : Addr) : It where
  go := fun i H => ∃ (xs : List V) (x : V), SqT K H a xs ∧ xs[i]? = some x
  yld := fun i H v H' => ∃ T x, v = .ref T ∧ H T = none ∧ H' = upd H T (.tup [.int (i : Nat), x]) ∧ ∀ xs, SqT K H a xs → xs[i]? = some x
  stop := fun i H => ∃ xs : List V, SqT K H a xs ∧ xs.length ≤ i
theorem turn_enumT {P : Program} {w : World} {K : PySem.W.Frag} {elts : List Expr} {kk : Nat} {tpos : Pos} (a e it : Addr) :
    Turn P w K (.Tuple elts kk tpos) (IteT K a) [e, it] e (fun i h => (∃ old, IsEnum h e it ((i : Nat) : Int) old) ∧ h.IsTupleIter it a i ∧ e ≠ it ∧ a ≠ it ∧ a ≠ e) where
  mem := by simp
  obj := fun i h st b hb => by
    obtain ⟨⟨old, he⟩, ⟨o, ho, hc, hd⟩, _⟩ := st
    rcases List.mem_cons.mp hb with z | z
    · rw [z]; exact ⟨_, he, fun v q => nomatch q⟩
    · rw [List.mem_singleton.mp z]; exact ⟨o, ho, fun v q => by rw [hd] at q; cases q⟩
  keep := fun i h h' st k => by
    obtain ⟨⟨old, he⟩, hi, hne⟩ := st
    exact ⟨⟨old, k e (by simp) _ he⟩, hi.at fun o q => k it (by simp) o q, hne⟩
  item := by
    intro X hP hw hK hc i pins s σ H E I hf st hg
    subst hP hw hK
    obtain ⟨⟨old, he⟩, hit, hne, nai, nae⟩ := st
    obtain ⟨xs, x, hq, hx⟩ := hg
    obtain ⟨its, rv, p, hz⟩ := I.tuple hq
    have hi : i < its.toArray.size := by
      have h1 := (List.getElem?_eq_some_iff.mp hx).1
      have h2 := rv.length
      simp only [List.size_toArray]
      omega
    have hel : e < s.heap.objs.size := Heap.lt_size he
    have hil : it < s.heap.objs.size := by obtain ⟨_, q, _⟩ := hit; exact Heap.lt_size q
    have hh : X.A.in1.handled = none := I.ok.hd hc
    refine wpAny_pyNext_enum_itemD (Draws.tuple hh it a nai its.toArray) he ⟨hit, p⟩ hi hne (by simp [hne, Ne.symm nae]) fun u h' tk hu ho hit' hT hsz hk => ?_
    obtain ⟨u', hu', ru⟩ := rv.get hx
    have eu : u' = u := Option.some.inj (hu'.symm.trans (by simpa using hu))
    subst eu
    refine ⟨_, rfl, wpAny_letOwnedTupleGo_enum (s := { s with heap := h', toks := tk + 1 }) ho fun h'' he' sb => ?_⟩
    have hT2 : h''.get? s.heap.objs.size = some { cls := .type "tuple", data := .seq #[.int i tk, u'] } := (sb.2 _ (Nat.ne_of_gt hel)).trans hT
    have new : ObjOk X.prog X.w (upd H s.heap.objs.size (.tup [.int (i : Nat), x])) h'' s.heap.objs.size (.tup [.int (i : Nat), x]) :=
      ⟨by show 2 ≤ sizeLine; decide, [.int i tk, u'], .cons ⟨_, rfl⟩ (.cons ru .nil), ⟨_, hT2, rfl, _, rfl⟩⟩
    have I1 : Inv X pins σ (upd H s.heap.objs.size (.tup [.int (i : Nat), x])) { s with heap := h'', toks := tk + 1 } :=
      I.turnedNew (ch := [e, it]) (fun b ob hb q => (sb.2 b (fun z => hb (by simp [z]))).trans (hk b ob (fun z => hb (by simp [z])) (fun z => hb (by simp [z])) q)) hf (Nat.le_refl _) new
    refine ⟨.ref s.heap.objs.size, _, I1, rfl, ⟨_, x, rfl, I.hok.fresh (Nat.le_refl _), rfl, fun ys hy => by rw [I.tuple_inj hy hq]; exact hx⟩, ⟨⟨u', ?_⟩, hit'.1.at fun o q => (sb.2 it (Ne.symm hne)).trans q, hne, nai, nae⟩, fun b hb => ?_⟩
    · have e1 : ((i + 1 : Nat) : Int) = (i : Int) + 1 := by omega
      rw [e1]
      exact he'
    · have hb' : b < s.heap.objs.size := by
        rcases List.mem_cons.mp hb with z | z
        · rw [z]; exact hel
        · rw [List.mem_singleton.mp z]; exact hil
      rw [upd_ne (Nat.ne_of_lt hb')]
      exact (hf b hb).1
  done := by
    intro X hP hw hK hc i pins s σ H E I hf st hg
    subst hP hw hK
    obtain ⟨⟨old, he⟩, hit, hne, nai, nae⟩ := st
    obtain ⟨xs, hq, hx⟩ := hg
    obtain ⟨its, rv, p, hz⟩ := I.tuple hq
    obtain ⟨f0, f1, f2, f3, f4, f5⟩ := hf it (by simp)
    have hl := rv.length
    have hh : X.A.in1.handled = none := I.ok.hd hc
    have D1 : Draws X.prog X.w X.A.in1 it [it, a] i (fun _ _ => True) (fun j h => j = i ∧ h.IsTupleIter it a i ∧ h.IsTuple a its.toArray) := {
      live := fun _ _ z => let ⟨o, ho, _⟩ := z.2.1; ⟨o, ho⟩
      frame := fun _ _ _ z k => ⟨z.1, z.2.1.at fun o q => k it (by simp) o q, z.2.2.at fun o q => k a (by simp) o q⟩
      item := fun j _ _ _ hj z _ => absurd z.1 (Nat.ne_of_lt hj)
      done := fun s' Q' E' z hQ => wpAny_nextOf_tuple_end hh z.2.1 z.2.2 (by simp; omega) hQ }
    exact wpAny_pyNext_enum_endD D1 he ⟨rfl, hit, p⟩ fun h' eb => ⟨rfl, I.turned (t' := s.toks) (fun b o hb q => eb b o hb q) f0 f1 f3 f4 f5⟩
  self := fun A i s Q E st h => let ⟨⟨_, he⟩, _⟩ := st; wpAny_pyIter_enum he h
def iEnumT (K : PySem.W.Frag) (ta : TA) : TI := fun σ H R => ta σ H fun vs H1 => ∃ a xs, vs = [V.ref a] ∧ SqT K H1 a xs ∧ R (IteT K a) H1
theorem pi_enumT {X : Cx} {e : Expr} {ta : TA} {p pos tpos : Pos} {elts : List Expr} {kk : Nat} (hg : Gl X "enumerate") (hm : X.mg "enumerate" = none) (ha : PA X [e] ta) (hs : starEach [e] X.env = [(false, eval e X.env)] := by rfl) :
    PI X (.Tuple elts kk tpos) (.Call (.Name "enumerate" p) [e] [] pos) (iEnumT X.K ta) := by
  refine ⟨fun pins s σ H R I h => ?_⟩
  refine Call_ (ld_blt I hg hm boot_enumerate (PyProof.Rows.callWith_type1 (thn (ha.run pos pins s σ H _ I h) fun us s1 ⟨vs, H1, I1, r1, q1⟩ => ?_) hs rfl))
  obtain ⟨a, xs, ex, hq, q⟩ := q1
  subst ex
  rw [Vals.ref1 r1]
  obtain ⟨its, rv, pt, hz⟩ := I1.tuple hq
  have hal : a < s1.heap.objs.size := by obtain ⟨o, ho, _⟩ := pt; exact Heap.lt_size ho
  refine enumT_call pt fun h' he hit hsz hk => wpAny_pyIter_enum he ?_
  have I2 : Inv X pins σ H1 { s1 with heap := h' } := I1.kept (t' := s1.toks) hk
  refine ⟨s1.heap.objs.size + 1, [s1.heap.objs.size + 1, s1.heap.objs.size], _, _, H1, rfl, I2, turn_enumT a (s1.heap.objs.size + 1) s1.heap.objs.size, ⟨⟨.none, he⟩, hit, Nat.succ_ne_self _, Nat.ne_of_lt hal, Nat.ne_of_lt (Nat.lt_succ_of_lt hal)⟩, fun b hb => ?_, q⟩
  have hle : s1.heap.objs.size ≤ b := by
    rcases List.mem_cons.mp hb with z | z
    · rw [z]; exact Nat.le_add_right _ _
    · rw [List.mem_singleton.mp z]; exact Nat.le_refl _
  exact I1.fpOk hle (I1.hok.fresh hle)
theorem it_enumT {K : PySem.W.Frag} {G : Hp} {a : Addr} {xs : List V} {ds : List Dt} (ha : G a = some (.tup xs)) (r : RA G xs ds) : ItOk (IteT K a) G (enumD ds) := fun ps H l e => by
  have hA : H a = some (.tup xs) := (hid_some (e _ _ ha)).1
  have hl : (enumD ds).length = ds.length := by unfold enumD; simp
  rw [hl]
  refine ⟨fun i hi => ?_, ⟨xs, .of hA, by rw [r.length] <;> exact Nat.le_refl _⟩, fun i v H' d hd y => ?_⟩
  · obtain ⟨v, hv, _⟩ := r.get (List.getElem?_eq_getElem hi)
    exact ⟨xs, v, .of hA, hv⟩
  · obtain ⟨T, x, rfl, nT, rfl, hy⟩ := y
    have hx := hy xs (.of hA)
    obtain ⟨d', hd', rx⟩ := r.get' hx
    have ed : d = .tup [.int (i : Int), d'] := by
      unfold enumD at hd
      rw [List.getElem?_map, List.getElem?_zipIdx, hd'] at hd
      simpa using hd.symm
    subst ed
    exact ⟨.new nT, .tup (hid_mk upd_same (l.new nT)) (.cons (.int _) (.cons ((rx.ex e).ex (hid_mono (.new nT))) .nil))⟩
theorem ei_enumT {K : PySem.W.Frag} {ρ : List (Option Dt)} {ds : List Dt} {ta : TA} (h : EvA ta ρ [.tup ds]) : EvI (iEnumT K ta) ρ (enumD ds) := fun ps H σ l s T q => h ps H σ l s _ fun vs H1 e1 r1 => by
  cases r1 with
  | cons r t =>
    cases t
    cases r with
    | tup ha r => exact ⟨_, _, rfl, .of (hid_some ha).1, q _ _ e1 (it_enumT ha r)⟩
end Ck
namespace Ck
open PySem PySem.Spec L2
open PyProof.Rows hiding St

/-! ### set(list of ints), that can be sorted -/
abbrev eset (w : World) : Obj := { cls := .type "set", dict := none, data := .set #[] 0 (.fresh 0 0 (!w.params.followText "set-order")) }
section
variable {P : Program} {w : World} {A : Around} {E : Value → Shared → Prop} {s : Shared}
set_option maxHeartbeats 4000000 in
theorem setL_call {l : Addr} {items : Array Value} (ns : List Int) {Q : Value → Shared → Prop} (hh : A.handled = none) (hl : s.heap.IsList l items) (hit : IntsAre items.toList ns) (hb : ns.length + 1 < scanBound)
    (h : ∀ (h' : Heap) (tk c : Nat), SetR w h' s.heap.objs.size (fun j => decide (j ∈ ns)) c → c ≤ ns.length → (∀ b o, s.heap.get? b = some o → h'.get? b = some o) → Q (.ref s.heap.objs.size) { s with heap := h', toks := tk }) :
    wpAny (model P w) A (call (.type "set") [.ref l]) Q E s := by
  have hn : items.size = ns.length := by simpa using IntsAre.length hit
  obtain ⟨c, tl, hmro⟩ := F.called_set.mro
  have hmade := F.called_set.made
  have hsub := F.called_set.sub
  refine wpAny_call (codeAny_of_tree (show wpAny _ _ (callAny (.type "set") _) _ _ _ from ?_))
  refine wpAny_pure ⟨Code.quiet_builtin _ (by decide +kernel), codeAny_builtin F.entry_type_call ?_⟩
  rw [Around.under_plain (weight_type_call_type "set" [.ref l] []) rfl]
  have hnt := F.called_set.notType
  have hcc := F.called_set.canCreate
  have htc := F.typeCall_set_1 (.ref l)
  repeat (any_goals (first | assumption | wp_step))
  refine codeAny_mono (code_set_led1 (.ref l) (E := E) (Q₁ := fun obj s₁ => obj = .ref s.heap.objs.size ∧ s₁ = { s with heap := s.heap.push (eset w) }) ⟨rfl, rfl⟩) fun r s₁ hr => ?_
  rcases r with e | fl
  · exact hr
  rcases fl with _ | _ | _ | obj
  · exact hr.elim
  · exact hr.elim
  · exact hr.elim
  obtain ⟨rfl, rfl⟩ := hr
  have hS : (s.heap.push (eset w)).get? s.heap.objs.size = some (eset w) := Heap.get?_push_size _ rfl
  have hT : Shared.TypeIs { s with heap := s.heap.push (eset w) } (.ref s.heap.objs.size) "set" := ⟨_, hS, rfl⟩
  have hli := F.called_set.init.lookup
  have hbi := F.called_set.init.bind (.ref s.heap.objs.size)
  repeat (any_goals (first | assumption | wp_step))
  refine codeAny_mono (codeAny_call_builtin (R := wants (fun r s₂ => r = .none ∧ ∃ h' tk c, s₂ = { s with heap := h', toks := tk } ∧ SetR w h' s.heap.objs.size (fun j => decide (j ∈ ns)) c ∧ c ≤ ns.length ∧
      (∀ b o, s.heap.get? b = some o → h'.get? b = some o)) E) F.called_set.init.plain F.entry_set_init (check_set_init_1 hT ?_)) fun r₂ s₂ hr₂ => ?_
  · obtain ⟨⟨ocls, odict, odata, oslots⟩, hol, hcl, nl, hdl⟩ := hl
    simp only at hcl hdl
    subst hcl; subst hdl
    have hol' : (s.heap.push (eset w)).get? l = some { cls := .type "list", dict := odict, data := .seq items nl, slots := oslots } := Heap.get?_push_of_some _ hol
    have hsls := F.sub_list_set
    have hslf := F.sub_list_frozenset
    have hne : (Value.type "list" == Value.type "dict") = false := by decide
    have hl1 : (s.heap.push (eset w)).IsList l items := ⟨_, hol', rfl, nl, rfl⟩
    unfold Builtin.«set.__init__» noKeywords Builtin.Frozenset.updateFrom
    generalize hPI : pyIter = PI
    wp_walk
    subst hPI
    refine wpAny_pyIter_list hl1 (wpAny_bind (wpAny_runValue ?_))
    have hlS : l < s.heap.objs.size := Heap.lt_size hol
    have hz : (s.heap.push (eset w)).objs.size = s.heap.objs.size + 1 := Heap.size_push ..
    have hneI : l ≠ (s.heap.push (eset w)).objs.size := by rw [hz]; exact Nat.ne_of_lt (Nat.lt_succ_of_lt hlS)
    have hSf : s.heap.objs.size ∉ [(s.heap.push (eset w)).objs.size, l] := by
      rw [hz]
      simp only [List.mem_cons, List.mem_singleton, List.not_mem_nil, or_false, not_or]
      exact ⟨Nat.ne_of_lt (Nat.lt_succ_self _), Nat.ne_of_gt hlS⟩
    have hval : ∀ (i : Nat) (v : Value), items[i]? = some v → ∃ k t, ns[i]? = some k ∧ v = .int k t := fun i v hv => by
      have hi : i < ns.length := by rw [← hn]; exact (Array.getElem?_eq_some_iff.mp hv).1
      obtain ⟨t, e⟩ := PyProof.Rows.IntsAre.int_at hit i v (by rw [Array.getElem?_toList]; exact hv)
      refine ⟨ns[i], t, List.getElem?_eq_getElem hi, ?_⟩
      rw [e, List.getD_eq_getElem?_getD, List.getElem?_eq_getElem hi]
      rfl
    have hget : ((s.heap.push (eset w)).push { cls := .type "list_iterator", data := .fields #[.ref l, .int 0 0] }).get? s.heap.objs.size = some (eset w) := Heap.get?_push_of_some _ hS
    have hhn : A.in1.in1.in1.handled = none := by simp [hh]
    refine set_update_ints ((Walks.list hhn _ l hneI items).toS) s.heap.objs.size hSf ns hn hb hval (items.size - 0) 0 _ (by omega) (Nat.zero_le _)
      ⟨⟨_, Heap.get?_push_size _ rfl, rfl, rfl⟩, (hl1.push _)⟩ ⟨0, Nat.le_refl 0, setR_new_at hget⟩ fun s' c' hm hc' hS' => ?_
    obtain ⟨h', g2, d', tk', os'⟩ := s'
    have eg : g2 = s.gens := hm.gens
    have ed : d' = s.drawn := hm.drawn
    have eo : os' = s.os := hm.os
    subst eg; subst ed; subst eo
    refine (show wpAny _ _ _ _ _ _ from wpAny_pure ?_)
    refine (show wpAny _ _ (ret Value.none) _ _ _ from ?_)
    rw [hn] at hc'
    refine wpAny_pure ⟨rfl, h', tk', c', rfl, hS', hc', fun b o e => ?_⟩
    have hb0 : b < s.heap.objs.size := Heap.lt_size e
    refine hm.heap b o ?_ (Heap.get?_push_of_some _ (Heap.get?_push_of_some _ e))
    simp only [List.mem_cons, List.mem_singleton, List.not_mem_nil, or_false, not_or, hz]
    exact ⟨Nat.ne_of_lt hb0, Nat.ne_of_lt (Nat.lt_succ_of_lt hb0)⟩
  · rcases r₂ with e | fl₂
    · exact hr₂
    rcases fl₂ with _ | _ | _ | r
    · exact hr₂.elim
    · exact hr₂.elim
    · exact hr₂.elim
    obtain ⟨rfl, h', tk, c', rfl, hS', hc', hk'⟩ := hr₂
    repeat (any_goals (first | assumption | wp_step))
    exact h _ _ _ hS' hc' hk'
end
end Ck
namespace Ck
open PySem PySem.Spec L2
open PyProof.Rows hiding St

/-! ### the built-in names that the text leaves alone -/
structure Bt (mg : Str → Option Value) : Prop where
  abs : mg "abs" = none
  all : mg "all" = none
  bool : mg "bool" = none
  enumerate : mg "enumerate" = none
  int : mg "int" = none
  isinstance : mg "isinstance" = none
  len : mg "len" = none
  list : mg "list" = none
  max : mg "max" = none
  min : mg "min" = none
  range : mg "range" = none
  repr : mg "repr" = none
  set : mg "set" = none
  sorted : mg "sorted" = none
  str : mg "str" = none
  sum : mg "sum" = none
  tuple : mg "tuple" = none
  zip : mg "zip" = none
  gcd : mg "gcd" = some (.builtin "math.gcd")

/-! ### a power of a great int -/
def CPowW (i j : Int) : Prop := 0 ≤ j ∧ (Builtin.Int.intBits i : Int) * j ≤ 2 ^ 27
section
variable {X : Cx}
theorem op_powW : OpR X (binaryOp .Pow) (rI CPowW fun i j => .int (i ^ j.toNat)) := opI fun _ _ _ _ _ _ _ hc q => PyProof.Rows.pow_int hc.1 hc.2 q
end
theorem un_negD {i : Int} : UnD (rU fun i => V.int (-i)) (.int i) (.int (-i)) := fun ps H v l r Q q => by
  cases r
  exact ⟨i, rfl, q _ H (.refl H) (.int _)⟩
theorem ev_bits {ρ : List (Option Dt)} {te : TE} {i : Int} (h : EvP te ρ (.int i)) : EvP (tBits te) ρ (.int (Builtin.Int.intBits i : Nat)) := fun ps H σ l s Q q => h ps H σ l s _ fun v H1 e1 r1 => by
  cases r1
  exact ⟨i, rfl, q _ H1 e1 (.int _)⟩

/-! ### sorted(set(list of ints)) -/
def rSetOfL (K : PySem.W.Frag) (w : World) : List V → Hp → VK → Prop := fun xs H Q => ∃ (l : Addr) (ns : List Int), xs = [V.ref l] ∧ SqL K H l (ns.map V.int) ∧ ns.length < 60 ∧
  ∀ (a : Addr) (n : Nat), H a = none → n ≤ ns.length → Q (.ref a) (upd H a (SetO w a (fun j => decide (j ∈ ns)) n))
theorem cr_setOfL {X : Cx} (hc : X.calm = true) : CallR X (.type "set") (rSetOfL X.K X.w) := by
  intro pins s σ H xs us Q I r h
  obtain ⟨l, ns, rfl, hl, hn, q⟩ := h
  rw [Vals.ref1 r]
  obtain ⟨its, rv, pl, hz⟩ := I.list hl
  refine setL_call (P := X.prog) (w := X.w) ns (I.ok.hd hc) pl.isList (by simpa using rv.ints) (by unfold scanBound; omega) fun h' tk c R hc k => ?_
  exact ⟨.ref s.heap.objs.size, _, I.laid (t' := tk) k (Nat.le_refl _) (setO_new R), rfl, q _ _ (I.hok.fresh (Nat.le_refl _)) hc⟩
theorem strict_one : ∀ {xs ys : List Int}, xs.Pairwise (· < ·) → ys.Pairwise (· < ·) → (∀ k, k ∈ xs ↔ k ∈ ys) → xs = ys
  | [], [], _, _, _ => rfl
  | [], y :: ys, _, _, h => absurd ((h y).mpr List.mem_cons_self) (by simp)
  | x :: xs, [], _, _, h => absurd ((h x).mp List.mem_cons_self) (by simp)
  | x :: xs, y :: ys, hx, hy, h => by
    have px := List.pairwise_cons.mp hx
    have py := List.pairwise_cons.mp hy
    have e : x = y := by
      rcases List.mem_cons.mp ((h x).mp List.mem_cons_self) with q | q
      · exact q
      · rcases List.mem_cons.mp ((h y).mpr List.mem_cons_self) with q' | q'
        · exact q'.symm
        · have h1 := py.1 x q
          have h2 := px.1 y q'
          omega
    subst e
    rw [strict_one px.2 py.2 fun k => ?_]
    constructor
    · intro m
      rcases List.mem_cons.mp ((h k).mp (List.mem_cons_of_mem _ m)) with q | q
      · have := px.1 k m; omega
      · exact q
    · intro m
      rcases List.mem_cons.mp ((h k).mpr (List.mem_cons_of_mem _ m)) with q | q
      · have := py.1 k m; omega
      · exact q
theorem ev_sortset {K : PySem.W.Frag} {w : World} {ρ : List (Option Dt)} {te : TE} {ns zs : List Int} (h : EvP te ρ (.lst (ns.map Dt.int))) (hl : ns.length < 60) (hz : zs.Pairwise (· < ·)) (hm : ∀ k, k ∈ zs ↔ k ∈ ns) :
    EvP (tCB (rSortedSet w) (tCons (tCB (rSetOfL K w) (tCons te tNil)) tNil)) ρ (.lst (zs.map Dt.int)) := by
  intro ps H σ l s Q q
  refine h ps H σ l s _ fun v H1 e1 r1 => ?_
  cases r1 with
  | lst ha r =>
    rw [r.ints] at ha
    refine ⟨_, ns, rfl, .of (hid_some ha).1, hl, fun a n hn hc => ?_⟩
    refine ⟨a, _, n, rfl, upd_same, by omega, fun ns' p pw mem _ hp => ?_⟩
    have e : ns' = zs := strict_one pw hz fun k => by rw [mem, hm]; simp
    rw [e]
    have lp : Lv ps (upd H1 a (SetO w a (fun j => decide (j ∈ ns)) n)) := (l.ex e1).ex (.new hn)
    exact q _ _ (e1.trans ((Ex.new hn).trans (.new hp))) (.lst (hid_mk upd_same (lp.new hp)) (RA.of_ints zs))

/-! ### len(set(list of tuples of ints)) -/
/-- each member once -/
def ded : List (List Int) → List (List Int)
  | [] => []
  | x :: xs => if x ∈ xs then ded xs else x :: ded xs
theorem mem_ded (y : List Int) : ∀ xs : List (List Int), y ∈ ded xs ↔ y ∈ xs
  | [] => by simp [ded]
  | x :: xs => by
    unfold ded
    by_cases c : x ∈ xs
    · rw [if_pos c, mem_ded y xs, List.mem_cons]
      exact ⟨.inr, fun h => h.elim (fun e => e ▸ c) id⟩
    · rw [if_neg c, List.mem_cons, List.mem_cons, mem_ded y xs]
theorem nd_ded : ∀ xs : List (List Int), (ded xs).Nodup
  | [] => .nil
  | x :: xs => by
    unfold ded
    by_cases c : x ∈ xs
    · rw [if_pos c]; exact nd_ded xs
    · rw [if_neg c]; exact List.nodup_cons.mpr ⟨fun h => c ((mem_ded x xs).mp h), nd_ded xs⟩
theorem ded_len : ∀ xs : List (List Int), (ded xs).length ≤ xs.length ∧ ((ded xs).length = xs.length ↔ xs.Nodup)
  | [] => ⟨Nat.le_refl _, by simp [ded]⟩
  | x :: xs => by
    have ih := ded_len xs
    unfold ded
    by_cases c : x ∈ xs
    · rw [if_pos c, List.length_cons, List.nodup_cons]
      exact ⟨by omega, fun h => by omega, fun h => absurd c h.1⟩
    · rw [if_neg c, List.length_cons, List.length_cons, List.nodup_cons]
      exact ⟨by omega, fun h => ⟨c, ih.2.mp (by omega)⟩, fun h => by rw [ih.2.mpr h.2]⟩
theorem nd_len {xs ys : List (List Int)} (hx : xs.Nodup) (hy : ys.Nodup) (h : ∀ k, k ∈ xs ↔ k ∈ ys) : xs.length = ys.length :=
  ((List.perm_ext_iff_of_nodup hx hy).mpr h).length_eq
def rLenSetT (P : Program) (w : World) : List V → Hp → VK → Prop := fun xs H Q => ∃ (a : Addr) (L : List (Addr × List Int)), xs = [V.ref a] ∧ H a = some (SetTO P w a L) ∧ ((L.map (·.2)).Nodup → Q (.int L.length) H)
theorem cr_lenSetT {X : Cx} : CallR X (.builtin "len") (rLenSetT X.prog X.w) := by
  intro pins s σ H xs us Q I r h
  obtain ⟨a, L, rfl, ha, q⟩ := h
  rw [Vals.ref1 r]
  have R0 : SetT0 X.prog X.w s.heap a L := (I.hok a _ ha).1
  have ⟨es, ep, t, ⟨o, ho, hex, hd⟩, hr, ht, hnd, hp, hld, hro, hfew⟩ := R0.ex
  have hsz : es.size = L.length := by
    have h := congrArg List.length hr
    unfold rowsOf at h
    rw [Array.length_toList, List.length_map] at h
    exact h
  have hfit : t.fits es.size = true := by
    have h1 := ht.sz
    rw [List.length_map] at h1
    unfold SetTable.fits SetTable.fill
    rw [ht.dm, Bool.and_eq_true, beq_iff_eq, decide_eq_true_eq]
    constructor
    · rw [h1, hsz]
    · simp only [Array.size_empty, Nat.add_zero]; omega
  refine call_len_set ho hex hd hfit (by omega) ⟨.int L.length, H, I.tok _, ⟨_, by rw [hsz]⟩, q hnd⟩
theorem ev_lenset {K : PySem.W.Frag} {P : Program} {w : World} {ρ : List (Option Dt)} {te : TE} {kss : List (List Int)} (h : EvP te ρ (.lst (kss.map fun ks => .tup (ks.map Dt.int)))) (hl : kss.length < 64) :
    EvP (tCB (rLenSetT P w) (tCons (tCB (rSetOfT K P w) (tCons te tNil)) tNil)) ρ (.int ((ded kss).length : Nat)) := by
  intro ps H σ l s Q q
  refine h ps H σ l s _ fun v H1 e1 r1 => ?_
  cases r1 with
  | lst ha r =>
    rename_i a xs
    have key : ∀ {vs : List V} {kss : List (List Int)}, RA (hid ps H1) vs (kss.map fun ks => .tup (ks.map Dt.int)) → ∃ L : List (Addr × List Int), vs = L.map (fun p => V.ref p.1) ∧ L.map (·.2) = kss ∧ ∀ p ∈ L, H1 p.1 = some (.tup (p.2.map V.int)) := by
      intro vs kss
      induction kss generalizing vs with
      | nil => intro r; cases r; exact ⟨[], rfl, rfl, by simp⟩
      | cons ks kss ih =>
        intro r
        cases r with
        | cons r1 r =>
          obtain ⟨L, e1, e2, e3⟩ := ih r
          cases r1 with
          | tup hb rr =>
            rename_i b ys
            rw [rr.ints] at hb
            refine ⟨(b, ks) :: L, by rw [e1]; rfl, by rw [List.map_cons, e2], fun p hp => ?_⟩
            rcases List.mem_cons.mp hp with z | z
            · rw [z]; exact (hid_some hb).1
            · exact e3 p z
    obtain ⟨L, eL, eK, hL⟩ := key r
    subst eL
    have hlen : L.length = kss.length := by rw [← eK, List.length_map]
    refine ⟨a, L, rfl, .of (hid_some ha).1, fun p hp => .of (hL p hp), by omega, fun b L' hb h1 h2 => ?_⟩
    have hmem : ∀ k, k ∈ L'.map (·.2) ↔ k ∈ ded kss := fun k => by
      rw [mem_ded, ← eK]
      constructor
      · intro hk
        obtain ⟨p, hp, e⟩ := List.mem_map.mp hk
        exact List.mem_map.mpr ⟨p, h1 p hp, e⟩
      · intro hk
        obtain ⟨p, hp, e⟩ := List.mem_map.mp hk
        rw [← e]
        exact h2 p hp
    have hle : (L'.map (·.2)).Nodup → L'.length = (ded kss).length := fun nd => by
      have := nd_len nd (nd_ded kss) hmem
      rw [List.length_map] at this
      exact this
    refine ⟨b, L', rfl, upd_same, fun nd => ?_⟩
    rw [hle nd]
    exact q _ _ (e1.trans (.new hb)) (.int _)

/-! ### repr of a list of ints -/
def rReprI (K : PySem.W.Frag) : List V → Hp → VK → Prop := fun xs H Q => ∃ (a : Addr) (ns : List Int), xs = [V.ref a] ∧ SqL K H a (ns.map V.int) ∧ (∀ n ∈ ns, n.natAbs < 1000) ∧ ns.length ≤ 1000 ∧ Q (.str (PyData.shown (.list (ns.map PyData.int)))) H
theorem dp_ints {K : PySem.W.Frag} {H : Hp} : ∀ ns : List Int, DpAll K H (ns.map V.int) (ns.map PyData.int)
  | [] => .nil
  | n :: ns => .cons (.int n) (dp_ints ns)
theorem showable_ints : ∀ ns : List Int, (∀ n ∈ ns, n.natAbs < 1000) → PyData.showableAll (ns.map PyData.int) = true
  | [], _ => by simp [PyData.showableAll]
  | n :: ns, h => by
    have h1 := h n List.mem_cons_self
    have h2 : n.natAbs.log2 < 1920 := by
      by_cases c : n.natAbs = 0
      · rw [c]; decide
      · exact Nat.lt_trans ((Nat.log2_lt c).mpr (show n.natAbs < 2 ^ 10 by omega)) (by decide)
    simp only [List.map_cons, PyData.showableAll, PyData.showable, Bool.and_eq_true, decide_eq_true_eq]
    exact ⟨h2, showable_ints ns fun m hm => h m (List.mem_cons_of_mem _ hm)⟩
end Ck
namespace Ck
open PySem PySem.Spec L2
open PyProof.Rows hiding St

theorem shown_ints_le : ∀ ns : List Int, (∀ n ∈ ns, n.natAbs < 1000) → ((PyData.shownAll (ns.map PyData.int)).map (·.length)).sum ≤ 13 * ns.length ∧ (PyData.shownAll (ns.map PyData.int)).length = ns.length
  | [], _ => by simp [PyData.shownAll]
  | n :: ns, h => by
    obtain ⟨h1, h2⟩ := shown_ints_le ns fun m hm => h m (List.mem_cons_of_mem _ hm)
    have h3 : (PyData.shown (.int n)).length ≤ 13 := PyData.shown_int_le (Nat.lt_trans (h n List.mem_cons_self) (by decide))
    simp only [List.map_cons, PyData.shownAll, List.sum_cons, List.length_cons]
    omega
theorem hasDict_ints : ∀ ns : List Int, PyData.hasDictAll (ns.map PyData.int) = false
  | [] => by simp [PyData.hasDictAll]
  | n :: ns => by simp only [List.map_cons, PyData.hasDictAll, PyData.hasDict, hasDict_ints ns, Bool.or_false]
theorem depth_ints : ∀ ns : List Int, PyData.depthAll (ns.map PyData.int) = 0
  | [] => by simp [PyData.depthAll]
  | n :: ns => by simp only [List.map_cons, PyData.depthAll, PyData.depth, depth_ints ns, Nat.max_self]
theorem cr_reprI {X : Cx} (hg : X.A.guards = some []) (hu : X.A.units + 64 < cLine) : CallR X (.builtin "repr") (rReprI X.K) := by
  intro pins s σ H xs us Q I r h
  obtain ⟨a, ns, rfl, hl, hb, hn, q⟩ := h
  rw [Vals.ref1 r]
  obtain ⟨as, rd⟩ := Dp.reads I (.list (ns.map PyData.int)) (.ref a) (.ref a) (.lst hl (dp_ints ns)) rfl
  obtain ⟨h1, h2⟩ := shown_ints_le ns hb
  have hlen : (PyData.shown (.list (ns.map PyData.int))).length ≤ sizeLine := by
    simp only [PyData.shown]
    have := listText_len_le (PyData.shownAll (ns.map PyData.int))
    rw [sizeLine_eq]
    omega
  refine repr_of_reads' (h₀ := s.heap) rd (by simp only [PyData.showable]; exact showable_ints ns hb) (fun z => ?_) hg (by simp only [PyData.depth, depth_ints]; omega) (fun _ _ e => e) (fun h' u tk k => ?_) hlen
  · simp only [PyData.hasDict] at z
    rw [hasDict_ints] at z
    cases z
  · exact ⟨.str _, H, I.kept (t' := tk) k, ⟨u, rfl⟩, q⟩
theorem cd_repr {K : PySem.W.Frag} {ns : List Int} (hb : ∀ n ∈ ns, n.natAbs < 1000) (hn : ns.length ≤ 1000) : ClD (rReprI K) [.lst (ns.map Dt.int)] (.str (PyData.shown (.list (ns.map PyData.int)))) := fun ps H vs l r Q q => by
  cases r with
  | cons r t =>
    cases t
    cases r with
    | lst ha r =>
      rw [r.ints] at ha
      exact ⟨_, ns, rfl, .of (hid_some ha).1, hb, hn, q _ H (.refl H) (.str _)⟩

/-! ### t[::-1] of a tuple -/
theorem rev_pick (xs : Array Value) : ((List.range xs.size).filterMap fun (m : Nat) => xs[(((xs.size : Int) - 1) + (m : Int) * (-1)).toNat]?).toArray = xs.toList.reverse.toArray := by
  have e : ∀ n : Nat, n ≤ xs.size → ((List.range n).filterMap fun (m : Nat) => xs[(((xs.size : Int) - 1) + (m : Int) * (-1)).toNat]?) = (xs.toList.drop (xs.size - n)).reverse := by
    intro n
    induction n with
    | zero => intro _; simp
    | succ n ih =>
      intro hn
      rw [List.range_succ, List.filterMap_append, ih (by omega)]
      have hi : (((xs.size : Int) - 1) + (n : Int) * (-1)).toNat = xs.size - (n + 1) := by omega
      have hlt : xs.size - (n + 1) < xs.toList.length := by rw [Array.length_toList]; omega
      have e1 : xs.toList.drop (xs.size - (n + 1)) = xs.toList[xs.size - (n + 1)] :: xs.toList.drop (xs.size - n) := by
        rw [List.drop_eq_getElem_cons hlt]
        congr 2
        omega
      rw [e1, List.reverse_cons]
      congr 1
      have hlt' : xs.size - (n + 1) < xs.size := by omega
      simp only [List.filterMap_cons, List.filterMap_nil, hi]
      rw [Array.getElem?_eq_getElem hlt']
      simp
  rw [e xs.size (Nat.le_refl _), Nat.sub_self, List.drop_zero]
section
variable {prog : Program} {w : World} {A : Around} {E : Value → Shared → Prop} {s : Shared}
theorem sliceApplied_rev {sl : Addr} {vl vu vs : Value} {n : Nat} {Q : Int × Int × Nat → Shared → Prop} (hs : s.heap.IsSliceOf sl vl vu vs) (pl : IsPart vl none) (pu : IsPart vu none) (pt : IsPart vs (some (-1)))
    (h : Q ((n : Int) - 1, -1, n) s) : wpAny (model prog w) A (Builtin.Slice.sliceApplied (.ref sl) (pure (n : Int))) Q E s := by
  obtain ⟨os, hos, hcs, hds⟩ := id hs
  unfold Builtin.Slice.sliceApplied Builtin.Slice.sliceFields
  refine wpAny_bind (wpAny_bind (wpAny_field hos hds (x := vl) rfl (wpAny_bind (wpAny_field hos hds (x := vu) rfl (wpAny_bind (wpAny_field hos hds (x := vs) rfl (wpAny_pure ?_)))))))
  refine wpAny_bind (HT.slicePart_ pt ?_)
  refine (show wpAny _ _ (if ((-1 : Int) == 0) = true then _ else _) _ _ s from ?_)
  rw [if_neg (by decide)]
  refine wpAny_bind (HT.slicePart_ pl (wpAny_bind (HT.slicePart_ pu (wpAny_bind (wpAny_pure ?_)))))
  have e1 : Builtin.Slice.sliceAdjust none none (-1) (n : Int) = ((n : Int) - 1, -1) := by
    unfold Builtin.Slice.sliceAdjust
    simp
  have e2 : Builtin.Slice.slicePlaces ((n : Int) - 1) (-1) (-1) = n := by
    unfold Builtin.Slice.slicePlaces
    have h1 : ¬ ((-1 : Int) > 0) := by omega
    simp only [h1, if_false, Int.neg_neg, Int.ediv_one]
    split <;> omega
  refine (show wpAny _ _ (match Builtin.Slice.sliceAdjust none none (-1) (n : Int) with | (lo, hi) => pure (lo, (-1 : Int), Builtin.Slice.slicePlaces lo hi (-1))) _ _ s from ?_)
  rw [e1]
  refine (show wpAny _ _ (pure ((n : Int) - 1, (-1 : Int), Builtin.Slice.slicePlaces ((n : Int) - 1) (-1) (-1))) _ _ s from ?_)
  rw [e2]
  exact wpAny_pure h
theorem getItem_tuple_rev {t sl : Addr} {items : Array Value} {vl vu vs : Value} {Q : Value → Shared → Prop} (ht : IsTup s.heap t items) (hs : s.heap.IsSliceOf sl vl vu vs) (pl : IsPart vl none) (pu : IsPart vu none) (pt : IsPart vs (some (-1)))
    (h : Q (.ref s.heap.objs.size) { s with heap := s.heap.push { cls := .type "tuple", data := .seq items.toList.reverse.toArray } })
    (hsz : items.size ≤ sizeLine) : wpAny (model prog w) A (getItem (.ref t) (.ref sl)) Q E s := by
  have htake : sizeOk (.seq items.toList.reverse.toArray) := by
    refine (show items.toList.reverse.toArray.size ≤ sizeLine from ?_)
    rw [List.size_toArray, List.length_reverse, Array.length_toList]
    exact hsz
  obtain ⟨os, hos, hcs, hds⟩ := id hs
  have hTs : s.TypeIs (.ref sl) "slice" := ⟨os, hos, hcs⟩
  unfold getItem
  try with_reducible refine wpAny_holding ?_
  first | refine wpAny_bind (wpAny_pure ?_) | skip
  refine wpAny_bind (wpAny_sequenceKey ht.typeIs (by decide) ?_)
  refine wpAny_bind (wpAny_callSpecial?_slot (name := Str.ofString "__getitem__") ht.typeIs PyProof.Rows.slot_tuple_getitem
    (wpAny_call_entry PyProof.Rows.slot_tuple_getitem ht.typeIs entry_tuple_getitem ?_ (args_tuple_getitem _ _)))
  refine (show wpAny _ _ (Builtin.Tuple.tupleItemsOf (.ref t) >>= _) _ _ s from ?_)
  refine wpAny_bind (tupleItemsOf_ ht ?_)
  refine wpAny_bind (wpAny_typeOf hTs ?_)
  rw [if_pos (by decide)]
  refine wpAny_bind (sliceApplied_rev hs pl pu pt ?_)
  have hno : ¬ ((((items.size : Int) - 1) == 0 && (-1 : Int) == 1 && items.size == items.size) = true) := by simp
  refine (show wpAny _ _ (if (((items.size : Int) - 1) == 0 && (-1 : Int) == 1 && items.size == items.size) = true then _ else _) _ _ s from ?_)
  rw [if_neg hno, rev_pick]
  first
    | exact wpAny_bind (m := Builtin.Tuple.tupleExact _) (wpAny_newObj_type (wpAny_pure ⟨_, rfl, wpAny_pure h⟩) htake)
    | exact wpAny_bind (m := Builtin.Tuple.tupleExact _) (wpAny_newObj_type (wpAny_bind (wpAny_pure (wpAny_pure ⟨_, rfl, wpAny_pure h⟩))) htake)
    | exact wpAny_bind (wpAny_bind (m := Builtin.Tuple.tupleExact _) (wpAny_newObj_type (wpAny_pure (wpAny_pure ⟨_, rfl, wpAny_pure h⟩)) htake))
    | exact wpAny_bind (wpAny_bind (m := Builtin.Tuple.tupleExact _) (wpAny_newObj_type (wpAny_pure ⟨_, rfl, wpAny_pure h⟩) htake))
end
def tRevT (K : PySem.W.Frag) (te : TE) : TE := fun σ H Q => te σ H fun x H1 => ∃ a xs, x = .ref a ∧ SqT K H1 a xs ∧ ∀ p, H1 p = none → Q (.ref p) (upd H1 p (.tup xs.reverse))
theorem pe_revT {X : Cx} {e : Expr} {te : TE} {k : Nat} {p1 p2 p3 pos : Pos} (he : PE X e te) : PE X (.Subscript e (.Slice none none (some (.UnaryOp .USub (.Constant (.int 1) k p1) p2)) p3) pos) (tRevT X.K te) := by
  refine ⟨fun pins s σ H Q I h => ?_⟩
  refine Subscript_ (thn (he.run pins s σ H _ I h) fun v s1 ⟨x, H1, I1, r1, a, xs, ex, hx, q⟩ => ?_)
  subst ex
  cases r1
  have hst : PO X (some (.UnaryOp .USub (.Constant (.int 1) k p1) p2)) (tPart (tUn (rU fun i => .int (-i)) (tC (.int 1)))) := po_some (pe_un un_neg pe_int)
  refine wpAny_Slice (thn (po_none.run pins s1 σ H1 (fun o H2 => o = none ∧ H2 = H1) I1 ⟨rfl, rfl⟩) fun vl s2 ⟨l, H2, I2, pl, el, e2⟩ => ?_)
  subst el e2
  refine thn (po_none.run pins s2 σ H2 (fun o H3 => o = none ∧ H3 = H2) I2 ⟨rfl, rfl⟩) fun vu s3 ⟨u, H3, I3, pu, eu, e3⟩ => ?_
  subst eu e3
  refine thn (hst.run pins s3 σ H3 (fun o H4 => o = some (-1) ∧ H4 = H3) I3 ⟨1, rfl, -1, rfl, rfl, rfl⟩) fun vs s4 ⟨o, H4, I4, pt, eo, e4⟩ => ?_
  subst eo e4
  have I5 : Inv X pins σ H4 { s4 with heap := s4.heap.push { cls := .type "slice", data := .fields #[vl, vu, vs] } } := I4.kept (t' := s4.toks) fun b ob z => Heap.get?_push_of_some _ z
  obtain ⟨its, r, ht, hz⟩ := I5.tuple hx
  have hlen := r.length
  refine (show wpAny (model X.prog X.w) X.A (subscriptTail e (.Slice none none (some (.UnaryOp .USub (.Constant (.int 1) k p1) p2)) p3) (.ref a) (.ref s4.heap.objs.size)) (EP X pins σ Q) X.xe { s4 with heap := s4.heap.push { cls := .type "slice", data := .fields #[vl, vu, vs] } } from ?_)
  refine tail_any (ops := [.ref a, .ref s4.heap.objs.size]) ht.typeIs (PyProof.Rows.slot_tuple_getitem.lookup) ?_ (by with_unfolding_all rfl)
  refine getItem_tuple_rev ht (Heap.IsSliceOf.new _ vl vu vs) pl pu pt ?_ (by rw [List.size_toArray]; omega)
  refine ⟨.ref _, _, I5.laid (t' := s4.toks) (o := .tup xs.reverse) (fun b ob z => Heap.get?_push_of_some _ z) (Nat.le_refl _) ?_, rfl, q _ (I5.hok.fresh (Nat.le_refl _))⟩
  exact ⟨by rw [List.length_reverse]; exact hz, its.reverse, r.reverse, ⟨_, Heap.get?_push_size _ rfl, rfl, 0, rfl⟩⟩
theorem RA.snoc_rev {G : Hp} : ∀ {vs : List V} {ds : List Dt}, RA G vs ds → RA G vs.reverse ds.reverse
  | _, _, .nil => .nil
  | _, _, .cons r t => by rw [List.reverse_cons, List.reverse_cons]; exact (RA.snoc_rev t).append (.one r)
theorem ev_revT {K : PySem.W.Frag} {ρ : List (Option Dt)} {te : TE} {ds : List Dt} (h : EvP te ρ (.tup ds)) : EvP (tRevT K te) ρ (.tup ds.reverse) := fun ps H σ l s Q q => h ps H σ l s _ fun v H1 e1 r1 => by
  cases r1 with
  | tup ha r => exact ⟨_, _, rfl, .of (hid_some ha).1, fun p hp => q _ _ (e1.trans (.new hp)) (.tup (hid_mk upd_same ((l.ex e1).new hp)) (r.snoc_rev.ex (hid_mono (.new hp))))⟩

/-! ### == of data -/
mutual
def toPy : Dt → PyData
  | .non => .none
  | .bl b => .bool b
  | .int i => .int i
  | .str x => .str x
  | .lst ds => .list (toPyL ds)
  | .tup ds => .tuple (toPyL ds)
  | .dic _ => .none
  | .dicu _ => .none
  | .dicl _ => .none
  | .adr _ => .none
  | .ty _ => .none
def toPyL : List Dt → List PyData
  | [] => []
  | d :: ds => toPy d :: toPyL ds
end
mutual
def okD : Dt → Bool
  | .non => true
  | .bl _ => true
  | .int _ => true
  | .str _ => true
  | .lst ds => okDL ds
  | .tup ds => okDL ds
  | .dic _ => false
  | .dicu _ => false
  | .dicl _ => false
  | .adr _ => false
  | .ty _ => false
def okDL : List Dt → Bool
  | [] => true
  | d :: ds => okD d && okDL ds
end
mutual
theorem dp_of {K : PySem.W.Frag} {G H : Hp} (e : Ex G H) : ∀ {v : V} {d : Dt}, R G v d → okD d = true → Dp K H v (toPy d)
  | _, _, .non, _ => by simp only [toPy]; exact .non
  | _, _, .bl b, _ => by simp only [toPy]; exact .bl b
  | _, _, .int i, _ => by simp only [toPy]; exact .int i
  | _, _, .str x, _ => by simp only [toPy]; exact .str x
  | _, _, .lst h r, o => by simp only [toPy]; exact .lst (.of (e _ _ h)) (dpA_of e r (by simpa only [okD] using o))
  | _, _, .tup h r, o => by simp only [toPy]; exact .tup (.of (e _ _ h)) (dpA_of e r (by simpa only [okD] using o))
  | _, _, .dic _ _, o => by simp only [okD] at o; cases o
  | _, _, .dicu _ _, o => by simp only [okD] at o; cases o
  | _, _, .dicl _ _, o => by simp only [okD] at o; cases o
  | _, _, .adr _, o => by simp only [okD] at o; cases o
  | _, _, .ty _, o => by simp only [okD] at o; cases o
theorem dpA_of {K : PySem.W.Frag} {G H : Hp} (e : Ex G H) : ∀ {vs : List V} {ds : List Dt}, RA G vs ds → okDL ds = true → DpAll K H vs (toPyL ds)
  | _, _, .nil, _ => by simp only [toPyL]; exact .nil
  | _, _, .cons r t, o => by
    simp only [okDL, Bool.and_eq_true] at o
    simp only [toPyL]
    exact .cons (dp_of e r o.1) (dpA_of e t o.2)
end
theorem od_eqD {K : PySem.W.Frag} {d e : Dt} {b : Bool} (hd : okD d = true) (he : okD e = true) (sd : SeqAt.shaped (toPy d) = true) (se : SeqAt.shaped (toPy e) = true) (hb : PyData.eqv (toPy d) (toPy e) = b) : OpD (rEqD K) d e (.bl b) := fun ps H v w l rx ry Q q =>
  ⟨_, _, dp_of (hid_ex ps H) rx hd, dp_of (hid_ex ps H) ry he, sd, se, by rw [hb]; exact q _ H (.refl H) (.bl b)⟩
theorem od_neD {K : PySem.W.Frag} {d e : Dt} {b : Bool} (hd : okD d = true) (he : okD e = true) (sd : SeqAt.shaped (toPy d) = true) (se : SeqAt.shaped (toPy e) = true) (hb : (!PyData.eqv (toPy d) (toPy e)) = b) : OpD (rNeD K) d e (.bl b) := fun ps H v w l rx ry Q q =>
  ⟨_, _, dp_of (hid_ex ps H) rx hd, dp_of (hid_ex ps H) ry he, sd, se, by rw [hb]; exact q _ H (.refl H) (.bl b)⟩
end Ck
namespace Ck
open PySem PySem.Spec L2
open PyProof.Rows hiding St

/-! ### the data of the program -/
abbrev fr (a b : Int) : Dt := .tup [.int a, .int b]
abbrev Fill := List (Str × Int × Int)
def entD (e : Str × Int × Int) : Dt := .tup [.str e.1, fr e.2.1 e.2.2]
def fillD (f : Fill) : Dt := .tup (f.map entD)
def cellarD (c : List Fill) : Dt := .tup (c.map fillD)
inductive Deed where
  | move (i j : Nat) (a b : Int)
  | swap (i j : Nat) (a b : Int)
  | draw (i : Nat) (a b : Int)
  | keep (i : Nat) (a b : Int)
  | add (i : Nat) (f : Fill)
def deedD : Deed → Dt
  | .move i j a b => .tup [.str "move", .int i, .int j, fr a b]
  | .swap i j a b => .tup [.str "swap", .int i, .int j, fr a b]
  | .draw i a b => .tup [.str "draw", .int i, fr a b]
  | .keep i a b => .tup [.str "keep", .int i, fr a b]
  | .add i f => .tup [.str "add", .int i, fillD f]
def storyD (s : List Deed) : Dt := .tup (s.map deedD)
structure KindOk (x : Str) : Prop where
  lo : 1 ≤ x.length
  hi : x.length ≤ 8
  az : ∀ c ∈ x.cps.toList, 97 ≤ c ∧ c ≤ 122
def FracOk (a b : Int) : Prop := 1 ≤ b ∧ Nat.gcd a.natAbs b.natAbs = 1
def ShareOk (a b : Int) : Prop := FracOk a b ∧ 0 ≤ a ∧ a ≤ b
structure FillOk (f : Fill) : Prop where
  few : f.length ≤ 100
  ent : ∀ e ∈ f, KindOk e.1 ∧ FracOk e.2.1 e.2.2 ∧ 0 < e.2.1
  up : ∀ (i : Nat) (e e' : Str × Int × Int), f[i]? = some e → f[i + 1]? = some e' → e.1.cps.toList < e'.1.cps.toList
structure CellarOk (c : List Fill) : Prop where
  lo : 1 ≤ c.length
  hi : c.length ≤ 8
  all : ∀ f ∈ c, FillOk f
def DeedOk (n : Nat) : Deed → Prop
  | .move i j a b => i < n ∧ j < n ∧ i ≠ j ∧ ShareOk a b
  | .swap i j a b => i < n ∧ j < n ∧ i ≠ j ∧ ShareOk a b
  | .draw i a b => i < n ∧ ShareOk a b
  | .keep i a b => i < n ∧ ShareOk a b
  | .add i f => i < n ∧ FillOk f
structure StoryOk (n : Nat) (s : List Deed) : Prop where
  hi : s.length ≤ 24
  all : ∀ x ∈ s, DeedOk n x
/-! short words for lengths -/
theorem le5 {n : Nat} (h : n ≤ 1000) : n ≤ 100000 := by omega
theorem line_of {n : Nat} (h : n ≤ 100000) : n ≤ sizeLine := by rw [sizeLine_eq]; omega
theorem all_true {α : Type} (xs : List α) : (xs.map fun _ => true).all id = true := by
  induction xs with
  | nil => rfl
  | cons x xs ih => rw [List.map_cons, List.all_cons, ih]; rfl
end Ck
namespace Ck
open PySem PySem.Spec L2
open PyProof.Rows hiding St

/-! ### a statement, then the rest u -/
section
variable {ps : List Addr} {H0 H : Hp} {os : Os} {σ : St} {ρ ρ' : List (Option Dt)} {d : Dt} {D : Ends} {u : TS}
theorem q_set {te : TE} {i : Nat} (h : EvP te ρ d) (s : S ps H0 os H σ ρ) (k : ∀ σ' H', S ps H0 os H' σ' (ρ.set i (some d)) → u D σ' H') : tSeq (tAsg te (gName i)) u D σ H := s_set (D := { D with nx := u D }) h s k
theorem q_asg {te : TE} {g : TG} {js : List Nat} (h : EvP te ρ d) (tg : TgD g js ρ d ρ') (s : S ps H0 os H σ ρ) (k : ∀ σ' H', S ps H0 os H' σ' ρ' → u D σ' H') : tSeq (tAsg te g) u D σ H := s_asg (D := { D with nx := u D }) h tg s k
/-- a guard that isn't taken -/
theorem q_gd {tt : TT} {t : TS} (h : EvT tt ρ false) (s : S ps H0 os H σ ρ) (k : ∀ H', S ps H0 os H' σ ρ → u D σ H') : tSeq (tIfS tt t tNext) u D σ H := s_ifF (D := { D with nx := u D }) h s k
/-- .. that is -/
theorem q_gt {tt : TT} {t w : TS} (h : EvT tt ρ true) (s : S ps H0 os H σ ρ) (k : ∀ H', S ps H0 os H' σ ρ → t { D with nx := u D } σ H') : tSeq (tIfS tt t w) u D σ H := s_ifT (D := { D with nx := u D }) h s k
theorem q_if {tt : TT} {t w : TS} {b : Bool} (h : EvT tt ρ b) (s : S ps H0 os H σ ρ) (k1 : b = true → ∀ H', S ps H0 os H' σ ρ → t { D with nx := u D } σ H') (k2 : b = false → ∀ H', S ps H0 os H' σ ρ → w { D with nx := u D } σ H') : tSeq (tIfS tt t w) u D σ H := s_if (D := { D with nx := u D }) h s k1 k2
theorem q_drop {te : TE} (h : EvP te ρ d) (s : S ps H0 os H σ ρ) (k : ∀ H', S ps H0 os H' σ ρ → u D σ H') : tSeq (tDrop te) u D σ H := s_drop (D := { D with nx := u D }) h s k
theorem q_own {pre post : Os} {i : Nat} (s : S ps H0 (pre ++ post) H σ ρ) (k : ∀ p σ' H', S ps H0 (pre ++ (p, .lst []) :: post) H' σ' (ρ.set i (some (.adr p))) → u D σ' H') : tSeq (tAsg (tLst tNil) (gName i)) u D σ H := s_own (D := { D with nx := u D }) s k
theorem q_ownD {pre post : Os} {i : Nat} (s : S ps H0 (pre ++ post) H σ ρ) (k : ∀ p σ' H', S ps H0 (pre ++ (p, .dic []) :: post) H' σ' (ρ.set i (some (.adr p))) → u D σ' H') : tSeq (tAsg tDNewK (gName i)) u D σ H := s_ownD (D := { D with nx := u D }) s k
theorem q_app {K : PySem.W.Frag} {pre post : Os} {p : Addr} {ds : List Dt} {to te : TE} (s : S ps H0 (pre ++ (p, .lst ds) :: post) H σ ρ) (ho : EvP to ρ (.adr p)) (he : EvP te ρ d) (hl : ds.length ≤ 100000)
    (k : ∀ H', S ps H0 (pre ++ (p, .lst (ds ++ [d])) :: post) H' σ ρ → u D σ H') : tSeq (tDrop (tBM K "list" rAppend to (tCons te tNil))) u D σ H := s_app (D := { D with nx := u D }) s ho he hl k
theorem q_dput {pre post : Os} {p : Addr} {kvs : List (Key × Dt)} {k : Key} {td ty tv : TE} (s : S ps H0 (pre ++ (p, .dic kvs) :: post) H σ ρ) (hv : EvP tv ρ d) (hd : EvP td ρ (.adr p)) (hy : EvP ty ρ (kD k)) (hl : kvs.length ≤ 100000)
    (kk : ∀ H', S ps H0 (pre ++ (p, .dic (putD kvs k d)) :: post) H' σ ρ → u D σ H') : tSeq (sDPut td ty tv) u D σ H := s_dput (D := { D with nx := u D }) s hv hd hy hl kk
theorem q_for {α : Type} {wi : TI} {g : TG} {tb : TS} {js : List Nat} (xs : List α) (emb : α → Dt) (up : α → List (Option Dt) → List (Option Dt)) (I : Nat → Os → List (Option Dt) → Prop)
    (hi : EvI wi ρ (xs.map emb)) (tg : ∀ x ρ', TgD g js ρ' (emb x) (up x ρ')) (s : S ps H0 os H σ ρ) (h0 : I 0 os ρ)
    (step : ∀ H1, Ex H0 H1 → Lv ps H1 → ∀ (i : Nat) (x : α) os' ρ' H' σ', xs[i]? = some x → I i os' ρ' → S ps H1 os' H' σ' (up x ρ') → ∀ D' : Ends, D'.rt = D.rt → (∀ σ'' H'' os'' ρ'', I (i + 1) os'' ρ'' → S ps H1 os'' H'' σ'' ρ'' → D'.nx σ'' H'') → tb D' σ' H')
    (done : ∀ os' ρ' H' σ', I xs.length os' ρ' → S ps H0 os' H' σ' ρ' → u D σ' H') : tSeq (tFor wi g tb) u D σ H :=
  s_for (D := { D with nx := u D }) xs emb up I hi tg s h0 (fun H1 e l i x os' ρ' H' σ' hx hI s' => step H1 e l i x os' ρ' H' σ' hx hI s' _ rfl fun σ'' H'' os'' ρ'' h1 h2 => ⟨os'', ρ'', h1, h2⟩) done
theorem s_for' {α : Type} {wi : TI} {g : TG} {tb : TS} {js : List Nat} (xs : List α) (emb : α → Dt) (up : α → List (Option Dt) → List (Option Dt)) (I : Nat → Os → List (Option Dt) → Prop)
    (hi : EvI wi ρ (xs.map emb)) (tg : ∀ x ρ', TgD g js ρ' (emb x) (up x ρ')) (s : S ps H0 os H σ ρ) (h0 : I 0 os ρ)
    (step : ∀ H1, Ex H0 H1 → Lv ps H1 → ∀ (i : Nat) (x : α) os' ρ' H' σ', xs[i]? = some x → I i os' ρ' → S ps H1 os' H' σ' (up x ρ') → ∀ D' : Ends, D'.rt = D.rt → (∀ σ'' H'' os'' ρ'', I (i + 1) os'' ρ'' → S ps H1 os'' H'' σ'' ρ'' → D'.nx σ'' H'') → tb D' σ' H')
    (done : ∀ os' ρ' H' σ', I xs.length os' ρ' → S ps H0 os' H' σ' ρ' → D.nx σ' H') : tFor wi g tb D σ H :=
  s_for xs emb up I hi tg s h0 (fun H1 e l i x os' ρ' H' σ' hx hI s' => step H1 e l i x os' ρ' H' σ' hx hI s' _ rfl fun σ'' H'' os'' ρ'' h1 h2 => ⟨os'', ρ'', h1, h2⟩) done
/-- what follows in the same block, at its end -/
theorem s_end (h : D.nx σ H) : tNext D σ H := h
/-- nothing is returned: None -/
theorem Ret.fall (h : Ret ps H0 .non D) (nx : ∀ σ' H', D.nx σ' H' = D.rt .non H') (s : S ps H0 os H σ ρ) : D.nx σ H := by
  rw [nx]
  exact h .non H os σ ρ s .non
/-- slots as they are written -/
theorem S.as (s : S ps H0 os H σ ρ) (h : ρ = ρ') : S ps H0 os H σ ρ' := h ▸ s
end
end Ck
namespace Ck
open PySem PySem.Spec L2
open PyProof.Rows hiding St
section
variable {ρ : List (Option Dt)} {ta tb tc te : TE} {d e f : Dt} {r r' : R2} {K : PySem.W.Frag}
theorem ev_chb {x y : Bool} (ha : EvP ta ρ d) (hb : EvP tb ρ e) (hc : EvP tc ρ f) (hr : OpD r d e (.bl x)) (hr' : OpD r' e f (.bl y)) : EvP (tChain r r' ta tb tc) ρ (.bl (x && y)) :=
  ev_chain ha hb hr (fun _ => hc) (fun z => by subst z; exact hr') fun z => by subst z; rfl
theorem cut_one (xs : List V) : cutV xs (some 1) none = xs.drop 1 := by
  unfold cutV
  rw [show HT.sIx xs.length 0 (some 1) = min 1 xs.length from HT.sIx_nat xs.length 0 1, HT.sIx_none]
  cases xs with
  | nil => rfl
  | cons x r =>
    rw [show min 1 (x :: r).length = 1 by rw [List.length_cons]; omega]
    refine (show (List.take ((x :: r).length - 1) r) = r from ?_)
    rw [List.length_cons, Nat.add_sub_cancel]
    exact List.take_length
theorem RA.drop {G : Hp} : ∀ {vs : List V} {ds : List Dt} (n : Nat), RA G vs ds → RA G (vs.drop n) (ds.drop n)
  | _, _, 0, r => r
  | _, _, _ + 1, .nil => .nil
  | _, _, n + 1, .cons _ r => RA.drop n r
theorem ev_sl1 {ds : List Dt} (h : EvP te ρ (.lst ds)) : EvP (tSl (rSlL K) te (tPart (tC (.int 1))) tNoPart) ρ (.lst (ds.drop 1)) := fun ps H σ l s Q q => h ps H σ l s _ fun v H1 e1 r1 => by
  cases r1 with
  | lst ha r =>
    refine ⟨1, rfl, _, _, rfl, .of (hid_some ha).1, fun p hp => ?_⟩
    rw [cut_one]
    exact q _ _ (e1.trans (.new hp)) (.lst (hid_mk upd_same ((l.ex e1).new hp)) ((r.drop 1).ex (hid_mono (.new hp))))
end
end Ck
namespace Ck
open PySem PySem.Spec L2
open PyProof.Rows hiding St
theorem cd_allT {K : PySem.W.Frag} {α : Type} (xs : List α) : ClD (rAll K) [.lst (xs.map fun _ => Dt.bl true)] (.bl true) := by
  have e := cd_all (K := K) (xs.map fun _ => true)
  rw [List.map_map, all_true] at e
  exact e
end Ck
namespace Ck
open PySem PySem.Spec L2
open PyProof.Rows hiding St

/-! ### the rules with the written part by its own name (for blocks of comprehensions, too) -/
section
variable {X : Cx} {K : PySem.W.Frag}
theorem k_ix (hK : X.K = K) : IxR X (rIx K) := by subst hK; exact ix_seq
theorem k_in (hK : X.K = K) : OpR X (compareOp .In) (rIn K false) := by subst hK; exact op_in_seq
theorem k_notIn (hK : X.K = K) : OpR X (compareOp .NotIn) (rIn K true) := by subst hK; exact op_notIn_seq
theorem k_eqD (hK : X.K = K) (hu : X.A.units + 64 < cLine) : OpR X (compareOp .Eq) (rEqD K) := by subst hK; exact op_eqD hu
theorem k_neD (hK : X.K = K) (hu : X.A.units + 64 < cLine) : OpR X (compareOp .NotEq) (rNeD K) := by subst hK; exact op_neD hu
theorem k_catA (hK : X.K = K) : OpR X (binaryOp .Add) (rCatA K) := by subst hK; exact op_catA
theorem k_len (hK : X.K = K) : CallR X (.builtin "len") (fun xs H Q => ∃ p ys, xs = [V.ref p] ∧ (SqL K H p ys ∨ SqT K H p ys) ∧ Q (.int ys.length) H) := by subst hK; exact call_len_seq
theorem k_list (hK : X.K = K) : CallR X (.type "list") (fun xs H Q => ∃ p ys, xs = [V.ref p] ∧ (SqL K H p ys ∨ SqT K H p ys) ∧ ∀ l, H l = none → Q (.ref l) (upd H l (.lst ys))) := by subst hK; exact call_list_of
theorem k_tuple (hK : X.K = K) : CallR X (.type "tuple") (fun xs H Q => ∃ p ys, xs = [V.ref p] ∧ ((SqL K H p ys ∧ ∀ l, H l = none → Q (.ref l) (upd H l (.tup ys))) ∨ (SqT K H p ys ∧ Q (.ref p) H))) := by subst hK; exact call_tuple_of
theorem k_all (hK : X.K = K) (hc : X.calm = true) : CallR X (.builtin "all") (rAll K) := by subst hK; exact cr_all hc
theorem k_sum (hK : X.K = K) (hc : X.calm = true) : CallR X (.builtin "sum") (rSum K) := by subst hK; exact cr_sum hc
theorem k_min (hK : X.K = K) (hc : X.calm = true) : CallR X (.builtin "min") (rMin K) := by subst hK; exact cr_min hc
theorem k_max (hK : X.K = K) (hc : X.calm = true) : CallR X (.builtin "max") (rMax K) := by subst hK; exact cr_max hc
theorem k_sorted (hK : X.K = K) : CallR X (.builtin "sorted") (rSorted K) := by subst hK; exact cr_sorted
theorem k_isi (hK : X.K = K) : CallR X (.builtin "isinstance") (rIsi K) := by subst hK; exact call_isi
theorem k_setOfL {w : World} (hK : X.K = K) (hw : X.w = w) (hc : X.calm = true) : CallR X (.type "set") (rSetOfL K w) := by subst hK; subst hw; exact cr_setOfL hc
theorem k_sortedSet {w : World} (hw : X.w = w) (hc : X.calm = true) : CallR X (.builtin "sorted") (rSortedSet w) := by subst hw; exact cr_sortedSet hc
theorem k_setOfT {P : Program} {w : World} (hK : X.K = K) (hP : X.prog = P) (hw : X.w = w) (hc : X.calm = true) (hu : X.A.units + 64 < cLine) : CallR X (.type "set") (rSetOfT K P w) := by subst hK; subst hw; subst hP; exact cr_setOfT hc hu
theorem k_lenSetT {P : Program} {w : World} (hP : X.prog = P) (hw : X.w = w) : CallR X (.builtin "len") (rLenSetT P w) := by subst hw; subst hP; exact cr_lenSetT
theorem k_repr (hK : X.K = K) (hg : X.A.guards = some []) (hu : X.A.units + 64 < cLine) : CallR X (.builtin "repr") (rReprI K) := by subst hK; exact cr_reprI hg hu
theorem k_slL (hK : X.K = K) : SlR X (rSlL K) := by subst hK; exact sl_list
theorem k_piL {tg l : Expr} {tl : TE} (hK : X.K = K) (hl : PE X l tl) : PI X tg l (iList K tl) := by subst hK; exact pi_list hl
theorem k_piT {tg l : Expr} {tl : TE} (hK : X.K = K) (hl : PE X l tl) : PI X tg l (iTup K tl) := by subst hK; exact pi_tup hl
theorem k_piE {e : Expr} {ta : TA} {p pos tpos : Pos} {elts : List Expr} {kk : Nat} (hK : X.K = K) (hg : Gl X "enumerate") (hm : X.mg "enumerate" = none) (ha : PA X [e] ta) (hs : starEach [e] X.env = [(false, eval e X.env)] := by rfl) :
    PI X (.Tuple elts kk tpos) (.Call (.Name "enumerate" p) [e] [] pos) (iEnum K ta) := by subst hK; exact pi_enum hg hm ha hs
theorem k_piET {e : Expr} {ta : TA} {p pos tpos : Pos} {elts : List Expr} {kk : Nat} (hK : X.K = K) (hg : Gl X "enumerate") (hm : X.mg "enumerate" = none) (ha : PA X [e] ta) (hs : starEach [e] X.env = [(false, eval e X.env)] := by rfl) :
    PI X (.Tuple elts kk tpos) (.Call (.Name "enumerate" p) [e] [] pos) (iEnumT K ta) := by subst hK; exact pi_enumT hg hm ha hs
theorem k_piZ {e e2 : Expr} {ta : TA} {p pos tpos : Pos} {elts : List Expr} {kk : Nat} (hK : X.K = K) (hg : Gl X "zip") (hm : X.mg "zip" = none) (ha : PA X [e, e2] ta)
    (hs : starEach [e, e2] X.env = (false, eval e X.env) :: starEach [e2] X.env := by rfl) (hpl : (backTo pos (starEach [e2] X.env)).any (·.1) = false := by rfl) :
    PI X (.Tuple elts kk tpos) (.Call (.Name "zip" p) [e, e2] [] pos) (iZip K ta) := by subst hK; exact pi_zip hg hm ha hs hpl
theorem k_tup {es : List Expr} {kk : Nat} {t : TGs} {n : Nat} {pos : Pos} (hK : X.K = K) (hc : X.calm = true) (h : PGs X es t)
    (hn : (assignEach es X.env).length = n := by rfl) (hst : (assignEach es X.env).findIdx? (·.1) = none := by rfl) : PG X (.Tuple es kk pos) (gTup K n t) := by subst hK; exact pg_tup hc h hn hst
theorem k_app {o e : Expr} {to te : TE} {apos cpos : Pos} (hK : X.K = K) (ho : PE X o to) (ha : PE X e te)
    (hs : starEach [e] X.env = (false, eval e X.env) :: starEach [] X.env := by rfl)
    (hbase : attributeBase o "append" X.env (eval o X.env) = eval o X.env := by rfl)
    (hfew : ((backTo cpos (starEach [e] X.env)).all (fun x => !x.1) && (backToKw cpos (keywordEach [] X.env)).all (fun x => x.1.isSome)
      && decide ([e].length + ([] : List Keyword).length + (if ([] : List Keyword).isEmpty then 0 else 1) < 30)) = true := by rfl)
    (hline : (apos.endLine == cpos.line) = true := by rfl) : PE X (.Call (.Attribute o "append" apos) [e] [] cpos) (tBM K "list" rAppend to (tCons te tNil)) := by
  subst hK
  exact pe_bm PySem.F.plainAttrs_list PySem.F.slot_list_append PySem.F.type_list_append mt_append ho (pa_cons ha pa_nil hs) hbase hfew hline hs (by rfl)
theorem k_revT {e : Expr} {te : TE} {k : Nat} {p1 p2 p3 pos : Pos} (hK : X.K = K) (he : PE X e te) : PE X (.Subscript e (.Slice none none (some (.UnaryOp .USub (.Constant (.int 1) k p1) p2)) p3) pos) (tRevT K te) := by subst hK; exact pe_revT he
end
end Ck
namespace Ck
open PySem PySem.Spec L2
open PyProof.Rows hiding St

theorem az_in : ∀ c : Nat, 97 ≤ c → c ≤ 122 → c ∈ (("abcdefghijklmnopqrstuvwxyz" : Str).cps.toList) := fun c h1 h2 => by
  have e : (("abcdefghijklmnopqrstuvwxyz" : Str).cps.toList) = (List.range 26).map (· + 97) := by decide +kernel
  rw [e, List.mem_map]
  exact ⟨c - 97, List.mem_range.mpr (by omega), by omega⟩
section
variable {P : Program} {w : World} {K : PySem.W.Frag} {mg : Str → Option Value} {base : Heap} {k : Nat}

def F_is_integer : List Dt → Dt → Prop := fun ds d => ∃ i, ds = [.int i] ∧ d = .bl true
theorem len_is_integer {ds : List Dt} {d : Dt} (h : F_is_integer ds d) : ds.length = 1 := by
  obtain ⟨i, rfl, _⟩ := h; rfl
theorem sc_is_integer : FnScope ["value"] ["value"] (defScope s_is_integer) := ⟨rfl, rfl, rfl, by decide +kernel, rfl, by decide +kernel, by decide +kernel⟩
theorem has_is_integer (T : Bt mg) (D : Dfn K mg "is_integer" s_is_integer) : Has P w K mg base (k + 1) "is_integer" ["value"] (spP F_is_integer) := by
  have nd := (sc_is_integer).nd
  refine D.hasP sc_is_integer (fun _ _ _ _ _ _ us hl => match us, hl with | [_], _ => rfl) ?_ (fun f cdv A outer s H E hr => ?_)
  · intro ds d h
    exact len_is_integer h
  have hu := hu_of hr
  refine ⟨_, (pss_one (ps_ret (pe_and (pe_callB (k_isi (K := K) rfl) (by rfl) T.isinstance (by decide +kernel) (pa_cons (pv 0) (pa_cons (pe_bltn (v := .ty "int") (by rfl) T.int (by decide +kernel) rfl) pa_nil))) (pe_one (pe_not (pe_callB (k_isi (K := K) rfl) (by rfl) T.isinstance (by decide +kernel) (pa_cons (pv 0) (pa_cons (pe_bltn (v := .ty "bool") (by rfl) T.bool (by decide +kernel) rfl) pa_nil)))))))), ?_⟩
  rintro ds d ⟨i, rfl, rfl⟩ ps σ D s rt nx
  refine s_ret (ev_is (ev_andb (ev_cb (ea_cons (ev_var (i := 0) rfl) (ea_cons ev_ty ea_nil)) (cd_isi (b := true) rfl (by decide +kernel))) fun _ => (ev_not (ev_cb (ea_cons (ev_var (i := 0) rfl) (ea_cons ev_ty ea_nil)) (cd_isi (b := false) rfl (by decide +kernel))))) rfl) s rt
def F_is_kind : List Dt → Dt → Prop := fun ds d => ∃ x, ds = [.str x] ∧ KindOk x ∧ d = .bl true
theorem len_is_kind {ds : List Dt} {d : Dt} (h : F_is_kind ds d) : ds.length = 1 := by
  obtain ⟨x, rfl, _⟩ := h; rfl
theorem sc_is_kind : FnScope ["value", "letter"] ["value"] (defScope s_is_kind) := ⟨rfl, rfl, rfl, by decide +kernel, rfl, by decide +kernel, by decide +kernel⟩
theorem has_is_kind (T : Bt mg) (D : Dfn K mg "is_kind" s_is_kind) : Has P w K mg base (k + 1) "is_kind" ["value"] (spP F_is_kind) := by
  have nd := (sc_is_kind).nd
  refine D.hasP sc_is_kind (fun _ _ _ _ _ _ us hl => match us, hl with | [_], _ => rfl) ?_ (fun f cdv A outer s H E hr => ?_)
  · intro ds d h
    exact len_is_kind h
  have hu := hu_of hr
  refine ⟨_, (pss_cons (ps_if (PW.pt (pw_or (pt_not (pt_val (pe_callB (k_isi (K := K) rfl) (by rfl) T.isinstance (by decide +kernel) (pa_cons (pv 0) (pa_cons (pe_bltn (v := .ty "str") (by rfl) T.str (by decide +kernel) rfl) pa_nil))))) (pw_or1 (pt_not (pt_chain op_le op_le pe_int (pe_callB call_len_str (by rfl) T.len PySem.boot_len (pa_cons (pv 0) pa_nil)) pe_int))))) (pss_one (ps_ret pe_bl)) pss_nil)
    (pss_one (ps_ret (pe_callB (k_all (K := K) rfl rfl) (by rfl) T.all (by decide +kernel) (pa_cons (pe_lc (own := [("letter", 1)]) (g := (gName 1)) (tt := tYes) rfl nd (pi_str (pv 0)) (blkOk_by (N := ["value", "letter"]) (sc := defScope s_is_kind) (by decide +kernel)) (fun _ _ _ _ _ => (pg_name (i := 1) nd rfl (Or.inl rfl))) (fun _ _ _ _ _ => pts_nil) (fun _ _ _ _ _ => (pe_cmpR op_in_sign (pv 1) pe_str (by rfl)))) pa_nil))))), ?_⟩
  rintro ds d ⟨x, rfl, ok, rfl⟩ ps σ D s rt nx
  have hl : x.length ≤ sizeLine := line_of (Nat.le_trans ok.hi (by omega))
  have h1 := ok.lo
  have h2 := ok.hi
  refine q_gd (et_is (et_or (et_not (et_B (ev_cb (ea_cons (ev_var (i := 0) rfl) (ea_cons ev_ty ea_nil)) (cd_isi (b := true) rfl (by decide +kernel))))) fun _ => et_not (et_T (ev_chb ev_int (ev_cb (ea_cons (ev_var (i := 0) rfl) ea_nil) (cd_lens hl)) ev_int od_le od_le))) ?_) s fun H1 s1 => ?_
  · have e1 : (1 : Int) ≤ (x.length : Int) := by omega
    have e2 : (x.length : Int) ≤ 8 := by omega
    simp [e1, e2]
  · refine s_ret (d := .bl true) ?_ s1 rt
    have hlen : x.cps.toList.length ≤ 100000 := by
      have : x.cps.toList.length = x.length := by simp [Str.length]
      omega
    have h := ev_lc0 (ρ := [some (.str x), none]) (te := tOp (fun x y H Q => ∃ (c : Nat) (z : Str), x = V.str ⟨#[c]⟩ ∧ y = V.str z ∧ Q (.bl (decide (c ∈ z.cps.toList))) H) (tVar 1) (tC (.str "abcdefghijklmnopqrstuvwxyz"))) (vs := [1]) x.cps.toList (fun c => Dt.str ⟨#[c]⟩) (fun _ => .bl true) (fun c => [some (.str x), some (.str ⟨#[c]⟩)]) (ei_str (ev_var (i := 0) rfl)) (js := [1]) (by simp) (fun c _ => tg_name) (fun c hc => ev_op (ev_var rfl) ev_str ?_) hlen
    · exact ev_cb (ea_cons h ea_nil) (cd_allT _)
    · refine od_val fun G v w rx ry => ?_
      cases rx; cases ry
      refine ⟨_, fun _ => .bl true, fun H Q q => ⟨c, _, rfl, rfl, ?_⟩⟩
      have hin : c ∈ (("abcdefghijklmnopqrstuvwxyz" : Str).cps.toList) := az_in _ (ok.az c hc).1 (ok.az c hc).2
      rw [decide_eq_true hin]
      exact q
def F_is_fraction : List Dt → Dt → Prop := fun ds d => ∃ a b, ds = [fr a b] ∧ FracOk a b ∧ d = .bl true
theorem len_is_fraction {ds : List Dt} {d : Dt} (h : F_is_fraction ds d) : ds.length = 1 := by
  obtain ⟨a, b, rfl, _⟩ := h; rfl
theorem sc_is_fraction : FnScope ["value"] ["value"] (defScope s_is_fraction) := ⟨rfl, rfl, rfl, by decide +kernel, rfl, by decide +kernel, by decide +kernel⟩
theorem has_is_fraction (T : Bt mg) (D : Dfn K mg "is_fraction" s_is_fraction) (h_is_integer : Has P w K mg base k "is_integer" ["value"] (spP F_is_integer)) : Has P w K mg base (k + 1) "is_fraction" ["value"] (spP F_is_fraction) := by
  have nd := (sc_is_fraction).nd
  refine D.hasP sc_is_fraction (fun _ _ _ _ _ _ us hl => match us, hl with | [_], _ => rfl) ?_ (fun f cdv A outer s H E hr => ?_)
  · intro ds d h
    exact len_is_fraction h
  have hu := hu_of hr
  refine ⟨_, (pss_cons (ps_if (PW.pt (pw_or (pt_not (pt_val (pe_callB (k_isi (K := K) rfl) (by rfl) T.isinstance (by decide +kernel) (pa_cons (pv 0) (pa_cons (pe_bltn (v := .ty "tuple") (by rfl) T.tuple (by decide +kernel) rfl) pa_nil))))) (pw_or1 (pt_cmpR op_ne (pe_callB (k_len (K := K) rfl) (by rfl) T.len PySem.boot_len (pa_cons (pv 0) pa_nil)) pe_int (nomark _))))) (pss_one (ps_ret pe_bl)) pss_nil)
    (pss_cons (ps_if (PW.pt (pw_or (pt_not (pt_val (pe_has h_is_integer hr (by rfl) (pa_cons (pe_ix (k_ix (K := K) rfl) (pv 0) pe_int (fun _ _ => rfl)) pa_nil)))) (pw_or1 (pt_not (pt_val (pe_has h_is_integer hr (by rfl) (pa_cons (pe_ix (k_ix (K := K) rfl) (pv 0) pe_int (fun _ _ => rfl)) pa_nil))))))) (pss_one (ps_ret pe_bl)) pss_nil)
    (pss_one (ps_ret (pe_and (pe_cmpR op_ge (pe_ix (k_ix (K := K) rfl) (pv 0) pe_int (fun _ _ => rfl)) pe_int (nomark _)) (pe_one (pe_cmpR op_eq (pe_callBfun cr_gcd (by rfl) T.gcd (pa_cons (pe_ix (k_ix (K := K) rfl) (pv 0) pe_int (fun _ _ => rfl)) (pa_cons (pe_ix (k_ix (K := K) rfl) (pv 0) pe_int (fun _ _ => rfl)) pa_nil))) pe_int (nomark _)))))))), ?_⟩
  rintro ds d ⟨a, b, rfl, ok, rfl⟩ ps σ D s rt nx
  have h1 := ok.1
  refine q_gd (et_is (et_or (et_not (et_B (ev_cb (ea_cons (ev_var (i := 0) rfl) (ea_cons ev_ty ea_nil)) (cd_isi (b := true) rfl (by decide +kernel))))) fun _ => (et_T (ev_op (ev_cb (ea_cons (ev_var (i := 0) rfl) ea_nil) (by first | exact cd_lenl | exact cd_lent)) ev_int (by first | exact od_neI | exact od_neS | exact od_neB)))) rfl) s fun H1 s1 => ?_
  refine q_gd (et_is (et_or (et_not (et_B (ev_call (ea_cons (ev_op (ev_var (i := 0) rfl) ev_int (by first | exact od_ixt rfl | exact od_ixl rfl)) ea_nil) ⟨a, rfl, rfl⟩))) fun _ => et_not (et_B (ev_call (ea_cons (ev_op (ev_var (i := 0) rfl) ev_int (by first | exact od_ixt rfl | exact od_ixl rfl)) ea_nil) ⟨b, rfl, rfl⟩))) rfl) s1 fun H2 s2 => ?_
  refine s_ret (ev_is (ev_andb (ev_op (ev_op (ev_var (i := 0) rfl) ev_int (by first | exact od_ixt rfl | exact od_ixl rfl)) ev_int od_ge) fun _ => (ev_op (ev_cb (ea_cons (ev_op (ev_var (i := 0) rfl) ev_int (by first | exact od_ixt rfl | exact od_ixl rfl)) (ea_cons (ev_op (ev_var (i := 0) rfl) ev_int (by first | exact od_ixt rfl | exact od_ixl rfl)) ea_nil)) cd_gcd) ev_int (by first | exact od_eqI | exact od_eqS | exact od_eqB))) ?_) s2 rt
  have e1 : decide ((1 : Int) ≤ b) = true := decide_eq_true h1
  have e2 : decide (((Nat.gcd a.natAbs b.natAbs : Nat) : Int) = 1) = true := decide_eq_true (by rw [ok.2]; rfl)
  rw [e1, e2]
  rfl
def F_is_share : List Dt → Dt → Prop := fun ds d => ∃ a b, ds = [fr a b] ∧ ShareOk a b ∧ d = .bl true
theorem len_is_share {ds : List Dt} {d : Dt} (h : F_is_share ds d) : ds.length = 1 := by
  obtain ⟨a, b, rfl, _⟩ := h; rfl
theorem sc_is_share : FnScope ["value"] ["value"] (defScope s_is_share) := ⟨rfl, rfl, rfl, by decide +kernel, rfl, by decide +kernel, by decide +kernel⟩
theorem has_is_share (T : Bt mg) (D : Dfn K mg "is_share" s_is_share) (h_is_fraction : Has P w K mg base k "is_fraction" ["value"] (spP F_is_fraction)) : Has P w K mg base (k + 1) "is_share" ["value"] (spP F_is_share) := by
  have nd := (sc_is_share).nd
  refine D.hasP sc_is_share (fun _ _ _ _ _ _ us hl => match us, hl with | [_], _ => rfl) ?_ (fun f cdv A outer s H E hr => ?_)
  · intro ds d h
    exact len_is_share h
  have hu := hu_of hr
  refine ⟨_, (pss_one (ps_ret (pe_and (pe_has h_is_fraction hr (by rfl) (pa_cons (pv 0) pa_nil)) (pe_one (pe_chain op_le op_le pe_int (pe_ix (k_ix (K := K) rfl) (pv 0) pe_int (fun _ _ => rfl)) (pe_ix (k_ix (K := K) rfl) (pv 0) pe_int (fun _ _ => rfl))))))), ?_⟩
  rintro ds d ⟨a, b, rfl, ok, rfl⟩ ps σ D s rt nx
  refine s_ret (ev_is (ev_andb (ev_call (ea_cons (ev_var (i := 0) rfl) ea_nil) ⟨a, b, rfl, ok.1, rfl⟩) fun _ => (ev_chb ev_int (ev_op (ev_var (i := 0) rfl) ev_int (by first | exact od_ixt rfl | exact od_ixl rfl)) (ev_op (ev_var (i := 0) rfl) ev_int (by first | exact od_ixt rfl | exact od_ixl rfl)) od_le od_le)) ?_) s rt
  have h1 := ok.2.1
  have h2 := ok.2.2
  simp [h1, h2]
def F_is_fill : List Dt → Dt → Prop := fun ds d => ∃ f, ds = [fillD f] ∧ FillOk f ∧ d = .bl true
theorem len_is_fill {ds : List Dt} {d : Dt} (h : F_is_fill ds d) : ds.length = 1 := by
  obtain ⟨f, rfl, _⟩ := h; rfl
theorem sc_is_fill : FnScope ["value", "entry", "kinds", "one", "other"] ["value"] (defScope s_is_fill) := ⟨rfl, rfl, rfl, by decide +kernel, rfl, by decide +kernel, by decide +kernel⟩
theorem has_is_fill (T : Bt mg) (D : Dfn K mg "is_fill" s_is_fill) (h_is_kind : Has P w K mg base k "is_kind" ["value"] (spP F_is_kind)) (h_is_fraction : Has P w K mg base k "is_fraction" ["value"] (spP F_is_fraction)) : Has P w K mg base (k + 1) "is_fill" ["value"] (spP F_is_fill) := by
  have nd := (sc_is_fill).nd
  refine D.hasP sc_is_fill (fun _ _ _ _ _ _ us hl => match us, hl with | [_], _ => rfl) ?_ (fun f cdv A outer s H E hr => ?_)
  · intro ds d h
    exact len_is_fill h
  have hu := hu_of hr
  refine ⟨_, (pss_cons (ps_if (pt_not (pt_val (pe_callB (k_isi (K := K) rfl) (by rfl) T.isinstance (by decide +kernel) (pa_cons (pv 0) (pa_cons (pe_bltn (v := .ty "tuple") (by rfl) T.tuple (by decide +kernel) rfl) pa_nil))))) (pss_one (ps_ret pe_bl)) pss_nil)
    (pss_cons (ps_for PassesOwn.never rfl (k_piT (K := K) rfl (pv 0)) (pg_name (i := 1) nd rfl (Or.inl rfl)) (pss_cons (ps_if (PW.pt (pw_or (pt_not (pt_val (pe_callB (k_isi (K := K) rfl) (by rfl) T.isinstance (by decide +kernel) (pa_cons (pv 1) (pa_cons (pe_bltn (v := .ty "tuple") (by rfl) T.tuple (by decide +kernel) rfl) pa_nil))))) (pw_or (pt_cmpR op_ne (pe_callB (k_len (K := K) rfl) (by rfl) T.len PySem.boot_len (pa_cons (pv 1) pa_nil)) pe_int (nomark _)) (pw_or1 (pt_not (pt_val (pe_has h_is_kind hr (by rfl) (pa_cons (pe_ix (k_ix (K := K) rfl) (pv 1) pe_int (fun _ _ => rfl)) pa_nil)))))))) (pss_one (ps_ret pe_bl)) pss_nil)
    (pss_one (ps_if (PW.pt (pw_or (pt_not (pt_val (pe_has h_is_fraction hr (by rfl) (pa_cons (pe_ix (k_ix (K := K) rfl) (pv 1) pe_int (fun _ _ => rfl)) pa_nil)))) (pw_or1 (pt_cmpR op_le (pe_ix (k_ix (K := K) rfl) (pe_ix (k_ix (K := K) rfl) (pv 1) pe_int (fun _ _ => rfl)) pe_int (fun _ _ => rfl)) pe_int (nomark _))))) (pss_one (ps_ret pe_bl)) pss_nil))))
    (pss_cons (ps_setLc (i := 2) (own := [("entry", 1)]) (g := (gName 1)) (tt := tYes) rfl nd rfl rfl (sw_true rfl rfl rfl (by decide +kernel)) (k_piT (K := K) rfl (pv 0)) (blkOk_by (N := ["value", "entry", "kinds", "one", "other"]) (sc := defScope s_is_fill) (by decide +kernel)) (fun _ _ _ _ _ => (pg_name (i := 1) nd rfl (Or.inl rfl))) (fun _ _ _ _ _ => pts_nil) (fun _ _ _ _ _ => (pe_ix (k_ix (K := K) rfl) (pv 1) pe_int (fun _ _ => rfl))))
    (pss_one (ps_ret (pe_callB (k_all (K := K) rfl rfl) (by rfl) T.all (by decide +kernel) (pa_cons (pe_lc (own := [("one", 3), ("other", 4)]) (g := (gTup K 2 (gCons (gName 3) (gCons (gName 4) gNil)))) (tt := tYes) rfl nd (k_piZ (K := K) rfl (by rfl) T.zip (pa_cons (pv 2) (pa_cons (pe_slice (k_slL (K := K) rfl) (pv 2) (po_some pe_int) po_none) pa_nil))) (blkOk_by (N := ["value", "entry", "kinds", "one", "other"]) (sc := defScope s_is_fill) (by decide +kernel)) (fun _ _ _ _ _ => (k_tup (K := K) rfl rfl (pgs_cons (pg_name (i := 3) nd rfl (Or.inl rfl)) (pgs_cons (pg_name (i := 4) nd rfl (Or.inl rfl)) pgs_nil)))) (fun _ _ _ _ _ => pts_nil) (fun _ _ _ _ _ => (pe_cmpR op_lt_str (pv 3) (pv 4) (nomark _)))) pa_nil))))))), ?_⟩
  rintro ds d ⟨f, rfl, ok, rfl⟩ ps σ D s rt nx
  have hlen : f.length ≤ 100000 := le5 (Nat.le_trans ok.few (by omega))
  refine q_gd (et_is (et_not (et_B (ev_cb (ea_cons (ev_var (i := 0) rfl) (ea_cons ev_ty ea_nil)) (cd_isi (b := true) rfl (by decide +kernel))))) rfl) s fun H1 s1 => ?_
  refine q_for f entD (fun x ρ => ρ.set 1 (some (entD x))) (fun i os ρ => os = [] ∧ ∃ e, ρ = [some (fillD f), e, none, none, none]) (ei_tup (ev_var rfl)) (fun x ρ' => tg_name) s1 ⟨rfl, none, rfl⟩ ?_ ?_
  · rintro H2 e l i x os' ρ' H' σ' hx ⟨rfl, e0, rfl⟩ s2 D' hrt hnx
    have s3 := s2.as (ρ' := [some (fillD f), some (.tup [.str x.1, fr x.2.1 x.2.2]), none, none, none]) rfl
    obtain ⟨k1, k2, k3⟩ := ok.ent x (List.mem_of_getElem? hx)
    refine q_gd (et_is (et_or (et_not (et_B (ev_cb (ea_cons (ev_var (i := 1) rfl) (ea_cons ev_ty ea_nil)) (cd_isi (b := true) rfl (by decide +kernel))))) fun _ => et_or (et_T (ev_op (ev_cb (ea_cons (ev_var (i := 1) rfl) ea_nil) (by first | exact cd_lenl | exact cd_lent)) ev_int (by first | exact od_neI | exact od_neS | exact od_neB))) fun _ => et_not (et_B (ev_call (ea_cons (ev_op (ev_var (i := 1) rfl) ev_int (by first | exact od_ixt rfl | exact od_ixl rfl)) ea_nil) ⟨x.1, rfl, k1, rfl⟩))) rfl) s3 fun H3 s4 => ?_
    refine s_gd (et_is (et_or (et_not (et_B (ev_call (ea_cons (ev_op (ev_var (i := 1) rfl) ev_int (by first | exact od_ixt rfl | exact od_ixl rfl)) ea_nil) ⟨x.2.1, x.2.2, rfl, k2, rfl⟩))) fun _ => (et_T (ev_op (ev_op (ev_op (ev_var (i := 1) rfl) ev_int (by first | exact od_ixt rfl | exact od_ixl rfl)) ev_int (by first | exact od_ixt rfl | exact od_ixl rfl)) ev_int od_le))) ?_) s4 fun H5 s5 => hnx _ _ _ _ ⟨rfl, _, rfl⟩ s5
    have e : ¬ x.2.1 ≤ 0 := by omega
    simp [e]
  · rintro os' ρ' H' σ' ⟨rfl, e0, rfl⟩ s2
    refine q_set (ev_lc0 f entD (fun e => .str e.1) (fun e => [some (fillD f), some (entD e), none, none, none]) (ei_tup (ev_var rfl)) (js := [1]) (by simp) (fun x _ => tg_name) (fun x _ => ev_op (ev_var (d := .tup [.str x.1, fr x.2.1 x.2.2]) rfl) ev_int (od_ixt rfl)) hlen) s2 fun σ3 H3 s3 => ?_
    have s4 := s3.as (ρ' := [some (fillD f), e0, some (.lst (f.map fun e => .str e.1)), none, none]) rfl
    refine s_ret (d := .bl true) (ev_is (ev_cb (ea_cons (ev_lc0 (α := Dt × Dt) (ρ := [some (fillD f), e0, some (.lst (f.map fun e => .str e.1)), none, none]) ((f.map fun e => Dt.str e.1).zip ((f.map fun e => Dt.str e.1).drop 1)) (fun p => .tup [p.1, p.2]) (fun _ => .bl true) (fun p => [some (fillD f), e0, some (.lst (f.map fun e => .str e.1)), some p.1, some p.2])
      (ei_zip (ea_cons (ev_var rfl) (ea_cons (ev_sl1 (ev_var rfl)) ea_nil))) (js := [3, 4]) (by simp) (fun p _ => tg_two) (fun p hp => ?_) ?_) ea_nil) ?_) rfl) s4 rt
    · obtain ⟨i, hi⟩ := List.getElem?_of_mem hp
      obtain ⟨h1, h2⟩ := List.getElem?_zip_eq_some.mp hi
      rw [List.getElem?_map] at h1
      rw [List.getElem?_drop, List.getElem?_map] at h2
      obtain ⟨x, hx, e1⟩ := Option.map_eq_some_iff.mp h1
      obtain ⟨y, hy, e2⟩ := Option.map_eq_some_iff.mp h2
      obtain ⟨p1, p2⟩ := p
      simp only at e1 e2
      subst e1
      subst e2
      have lt := ok.up i x y hx (by rw [Nat.add_comm]; exact hy)
      refine ev_is (ev_op (ev_var rfl) (ev_var rfl) od_ltS) ?_
      rw [decide_eq_true lt]
    · simp only [List.length_zip, List.length_map, List.length_drop]
      omega
    · exact cd_allT _
def F_is_cellar : List Dt → Dt → Prop := fun ds d => ∃ c, ds = [cellarD c] ∧ CellarOk c ∧ d = .bl true
theorem len_is_cellar {ds : List Dt} {d : Dt} (h : F_is_cellar ds d) : ds.length = 1 := by
  obtain ⟨c, rfl, _⟩ := h; rfl
theorem sc_is_cellar : FnScope ["value", "fill"] ["value"] (defScope s_is_cellar) := ⟨rfl, rfl, rfl, by decide +kernel, rfl, by decide +kernel, by decide +kernel⟩
theorem has_is_cellar (T : Bt mg) (D : Dfn K mg "is_cellar" s_is_cellar) (h_is_fill : Has P w K mg base k "is_fill" ["value"] (spP F_is_fill)) : Has P w K mg base (k + 1) "is_cellar" ["value"] (spP F_is_cellar) := by
  have nd := (sc_is_cellar).nd
  refine D.hasP sc_is_cellar (fun _ _ _ _ _ _ us hl => match us, hl with | [_], _ => rfl) ?_ (fun f cdv A outer s H E hr => ?_)
  · intro ds d h
    exact len_is_cellar h
  have hu := hu_of hr
  refine ⟨_, (pss_one (ps_ret (pe_and (pe_callB (k_isi (K := K) rfl) (by rfl) T.isinstance (by decide +kernel) (pa_cons (pv 0) (pa_cons (pe_bltn (v := .ty "tuple") (by rfl) T.tuple (by decide +kernel) rfl) pa_nil))) (pe_and (pe_chain op_le op_le pe_int (pe_callB (k_len (K := K) rfl) (by rfl) T.len PySem.boot_len (pa_cons (pv 0) pa_nil)) pe_int) (pe_one (pe_callB (k_all (K := K) rfl rfl) (by rfl) T.all (by decide +kernel) (pa_cons (pe_lc (own := [("fill", 1)]) (g := (gName 1)) (tt := tYes) rfl nd (k_piT (K := K) rfl (pv 0)) (blkOk_by (N := ["value", "fill"]) (sc := defScope s_is_cellar) (by decide +kernel)) (fun _ _ _ _ _ => (pg_name (i := 1) nd rfl (Or.inl rfl))) (fun _ _ _ _ _ => pts_nil) (fun _ _ _ _ _ => (pe_has h_is_fill hr (by rfl) (pa_cons (pv 1) pa_nil)))) pa_nil))))))), ?_⟩
  rintro ds d ⟨c, rfl, ok, rfl⟩ ps σ D s rt nx
  have h1 := ok.lo
  have h2 := ok.hi
  refine s_ret (d := .bl true) (ev_is (ev_andb (b := decide ((1 : Int) ≤ ((c.map fillD).length : Int)) && decide (((c.map fillD).length : Int) ≤ 8) && true) (ev_cb (ea_cons (ev_var (i := 0) rfl) (ea_cons ev_ty ea_nil)) (cd_isi (b := true) rfl (by decide +kernel))) fun _ => ev_andb (b := true) (ev_chb ev_int (ev_cb (ea_cons (ev_var (i := 0) rfl) ea_nil) (by first | exact cd_lenl | exact cd_lent)) ev_int od_le od_le) fun _ => ev_cb (ea_cons (ev_lc0 c fillD (fun _ => .bl true) (fun f => [some (cellarD c), some (fillD f)]) (ei_tup (ev_var rfl)) (js := [1]) (by simp) (fun p _ => tg_name) (fun f hf => ev_call (ea_cons (ev_var (i := 1) rfl) ea_nil) ⟨f, rfl, ok.all f hf, rfl⟩) (le5 (by omega))) ea_nil) (cd_allT c)) ?_) s rt
  · have e1 : (1 : Int) ≤ (c.length : Int) := by omega
    have e2 : (c.length : Int) ≤ 8 := by omega
    simp [e1, e2]
def F_need_cellar : List Dt → Dt → Prop := fun ds d => ∃ c, ds = [cellarD c] ∧ CellarOk c ∧ d = .non
theorem len_need_cellar {ds : List Dt} {d : Dt} (h : F_need_cellar ds d) : ds.length = 1 := by
  obtain ⟨c, rfl, _⟩ := h; rfl
theorem sc_need_cellar : FnScope ["cellar"] ["cellar"] (defScope s_need_cellar) := ⟨rfl, rfl, rfl, by decide +kernel, rfl, by decide +kernel, by decide +kernel⟩
theorem has_need_cellar (T : Bt mg) (D : Dfn K mg "need_cellar" s_need_cellar) (h_is_cellar : Has P w K mg base k "is_cellar" ["value"] (spP F_is_cellar)) : Has P w K mg base (k + 1) "need_cellar" ["cellar"] (spP F_need_cellar) := by
  have nd := (sc_need_cellar).nd
  refine D.hasP sc_need_cellar (fun _ _ _ _ _ _ us hl => match us, hl with | [_], _ => rfl) ?_ (fun f cdv A outer s H E hr => ?_)
  · intro ds d h
    exact len_need_cellar h
  have hu := hu_of hr
  refine ⟨_, (pss_one (ps_if (pt_not (pt_val (pe_has h_is_cellar hr (by rfl) (pa_cons (pv 0) pa_nil)))) (pss_one ps_never) pss_nil)), ?_⟩
  rintro ds d ⟨c, rfl, ok, rfl⟩ ps σ D s rt nx
  refine s_gd (et_is (et_not (et_B (ev_call (ea_cons (ev_var (i := 0) rfl) ea_nil) ⟨c, rfl, ok, rfl⟩))) rfl) s fun H1 s1 => rt.fall nx s1
end
end Ck
namespace Ck
open PySem PySem.Spec L2
open PyProof.Rows hiding St

/-! ### == and != of the data of the program -/
theorem ok_fill : ∀ f : Fill, okDL (f.map entD) = true
  | [] => rfl
  | e :: f => by simp only [List.map_cons, okDL, entD, okD, ok_fill f, Bool.and_self]
theorem strOk_kind {x : Str} (h : KindOk x) : PyData.strOk x = true := by
  unfold PyData.strOk
  rw [Array.all_eq_true_iff_forall_mem]
  intro c hc
  have := h.az c (by simpa using hc)
  simp
  omega
theorem lay_fill : ∀ f : Fill, (∀ e ∈ f, KindOk e.1) → PyData.canLayAll0 (toPyL (f.map entD)) = true
  | [], _ => by simp [toPyL, PyData.canLayAll0]
  | e :: f, h => by
    have h1 := strOk_kind (h e List.mem_cons_self)
    have h2 := lay_fill f fun x hx => h x (List.mem_cons_of_mem _ hx)
    simp only [List.map_cons, toPyL, entD, toPy, PyData.canLayAll0, PyData.canLay0, h1, h2, Bool.and_self]
theorem depth_fill : ∀ f : Fill, PyData.depthAll (toPyL (f.map entD)) ≤ 2
  | [] => by simp [toPyL, PyData.depthAll]
  | e :: f => by
    have h2 := depth_fill f
    simp only [List.map_cons, toPyL, entD, toPy, PyData.depthAll, PyData.depth]
    omega
theorem shaped_fill {f : Fill} (h : FillOk f) : SeqAt.shaped (toPy (fillD f)) = true := by
  have h1 := lay_fill f fun e he => (h.ent e he).1
  have h2 := depth_fill f
  unfold SeqAt.shaped
  rw [Bool.and_eq_true, decide_eq_true_eq]
  simp only [fillD, toPy, PyData.canLay0, PyData.depth]
  exact ⟨h1, by omega⟩
theorem shaped_fr (a b : Int) : SeqAt.shaped (toPy (fr a b)) = true := by
  simp [SeqAt.shaped, fr, toPy, toPyL, PyData.canLay0, PyData.canLayAll0, PyData.depth, PyData.depthAll]
theorem ne_nil {K : PySem.W.Frag} {f : Fill} (h : FillOk f) : OpD (rNeD K) (fillD f) (.tup []) (.bl (!f.isEmpty)) :=
  od_neD (by simp only [fillD, okD, ok_fill]) rfl (shaped_fill h) (by decide +kernel) (by
    cases f with
    | nil => simp [fillD, toPy, toPyL, PyData.eqv, PyData.eqvAll]
    | cons e f => simp [fillD, toPy, toPyL, PyData.eqv, PyData.eqvAll])
theorem ne_11 {K : PySem.W.Frag} {a b : Int} : OpD (rNeD K) (fr a b) (fr 1 1) (.bl (!(decide (a = 1) && decide (b = 1)))) :=
  od_neD rfl rfl (shaped_fr a b) (shaped_fr 1 1) (by
    simp only [fr, toPy, toPyL, PyData.eqv, PyData.eqvAll, Bool.and_true]
    rw [Bool.beq_eq_decide_eq, Bool.beq_eq_decide_eq] <;> simp)
theorem cd_maxL {K : PySem.W.Frag} {ns : List Int} {m : Int} (h1 : m ∈ ns) (h2 : ∀ y, y ∈ ns → y ≤ m) : ClD (rMax K) [.lst (ns.map Dt.int)] (.int m) := fun ps H vs l r Q q => by
  cases r with
  | cons r t =>
    cases t
    cases r with
    | lst ha r =>
      rw [r.ints] at ha
      refine ⟨_, ns, rfl, .of (hid_some ha).1, List.length_pos_of_mem h1, fun m' h1' h2' => ?_⟩
      have e : m' = m := Int.le_antisymm (h2 m' h1') (h2' m h1)
      rw [e]
      exact q _ H (.refl H) (.int _)

/-! ### what the defs make -/
def Deed.adds : Deed → Bool
  | .add _ f => !f.isEmpty
  | _ => false
def Deed.draws : Deed → Bool
  | .draw _ _ _ => true
  | _ => false
def everyLot (c : List Fill) (s : List Deed) : List Int :=
  ((c.zipIdx.filter fun p => !p.1.isEmpty).map fun p => -1 - (p.2 : Int)).reverse ++ (s.zipIdx.filter fun p => p.1.adds).map fun p => (p.2 : Int)
def casksOf : Deed → List Nat
  | .move i j _ _ => [i, j]
  | .swap i j _ _ => [i, j]
  | .draw i _ _ => [i]
  | .keep i _ _ => [i]
  | .add i _ => [i]
def waysOver : Deed → List (Nat × Nat)
  | .move i j a _ => if a = 0 then [] else [(i, j)]
  | .swap i j a _ => if a = 0 then [] else [(i, j), (j, i)]
  | _ => []
def emptied : Deed → List Nat
  | .keep i a _ => if a = 0 then [i] else []
  | .add _ _ => []
  | .swap i j a b => if a = 1 ∧ b = 1 then [i, j] else []
  | .move i _ a b => if a = 1 ∧ b = 1 then [i] else []
  | .draw i a b => if a = 1 ∧ b = 1 then [i] else []
/-- into a rising list -/
def put (x : Int) : List Int → List Int
  | [] => [x]
  | y :: ys => if x < y then x :: y :: ys else if x = y then y :: ys else y :: put x ys
def srt (xs : List Int) : List Int := xs.foldr put []
def natsD (ns : List Nat) : Dt := .lst ((ns.map fun (n : Nat) => (n : Int)).map Dt.int)
def intsD (ns : List Int) : Dt := .lst (ns.map Dt.int)
def pairD (p : Nat × Nat) : Dt := .tup [.int (p.1 : Int), .int (p.2 : Int)]
def clear (now : List (List Int)) (gone : List Nat) : List (List Int) := now.zipIdx.map fun p => if p.2 ∈ gone then [] else p.1
def mix (now : List (List Int)) (made : List (List Int)) (ways : List (Nat × Nat)) : List (List Int) := ways.foldl (fun m p => m.set p.2 (srt (m.getD p.2 [] ++ now.getD p.1 []))) made
def stepLots (now : List (List Int)) (index : Nat) (d : Deed) : List (List Int) :=
  let made := mix now (clear now (emptied d)) (waysOver d)
  match d with
  | .add i f => if f.isEmpty then made else made.set i (made.getD i [] ++ [(index : Int)])
  | _ => made
def firstLots (c : List Fill) : List (List Int) := c.zipIdx.map fun p => if p.1.isEmpty then [] else [-1 - (p.2 : Int)]
/-- the lots of each cask before deed i -/
def nowAt (c : List Fill) (s : List Deed) : Nat → List (List Int)
  | 0 => firstLots c
  | i + 1 => match s[i]? with
    | some d => stepLots (nowAt c s i) i d
    | none => nowAt c s i
def lotsAhead (c : List Fill) (s : List Deed) : List (List (List Int)) := (List.range (s.length + 1)).map (nowAt c s)
def nowD (now : List (List Int)) : Dt := .lst (now.map intsD)
def aheadD (a : List (List (List Int))) : Dt := .lst (a.map nowD)
theorem casks_max {n : Nat} {x : Deed} (ok : DeedOk n x) : ∃ m : Int, m ∈ (casksOf x).map (fun (n : Nat) => (n : Int)) ∧ (∀ y, y ∈ (casksOf x).map (fun (n : Nat) => (n : Int)) → y ≤ m) ∧ m < (n : Int) := by
  have two : ∀ i j : Nat, i < n → j < n → ∃ m : Int, m ∈ [i, j].map (fun (n : Nat) => (n : Int)) ∧ (∀ y, y ∈ [i, j].map (fun (n : Nat) => (n : Int)) → y ≤ m) ∧ m < (n : Int) := fun i j hi hj => by
    refine ⟨max (i : Int) j, ?_, ?_, by omega⟩
    · simp only [List.map_cons, List.map_nil, List.mem_cons, List.not_mem_nil, or_false]; omega
    · simp only [List.map_cons, List.map_nil, List.mem_cons, List.not_mem_nil, or_false]; omega
  have one : ∀ i : Nat, i < n → ∃ m : Int, m ∈ [i].map (fun (n : Nat) => (n : Int)) ∧ (∀ y, y ∈ [i].map (fun (n : Nat) => (n : Int)) → y ≤ m) ∧ m < (n : Int) := fun i hi => by
    refine ⟨(i : Int), ?_, ?_, by omega⟩
    · simp
    · simp
  cases x with
  | move i j a b => exact two i j ok.1 ok.2.1
  | swap i j a b => exact two i j ok.1 ok.2.1
  | draw i a b => exact one i ok.1
  | keep i a b => exact one i ok.1
  | add i f => exact one i ok.1
theorem enum_map {α : Type} (xs : List α) (f : α → Dt) : enumD (xs.map f) = xs.zipIdx.map fun p => .tup [.int (p.2 : Int), f p.1] := by
  unfold enumD
  rw [List.zipIdx_map, List.map_map]
  rfl
theorem ei_enumT' {K : PySem.W.Frag} {ρ : List (Option Dt)} {α : Type} {xs : List α} {f : α → Dt} {ta : TA} (h : EvA ta ρ [.tup (xs.map f)]) : EvI (iEnumT K ta) ρ (xs.zipIdx.map fun p => .tup [.int (p.2 : Int), f p.1]) := enum_map xs f ▸ ei_enumT h
theorem ei_enum' {K : PySem.W.Frag} {ρ : List (Option Dt)} {α : Type} {xs : List α} {f : α → Dt} {ta : TA} (h : EvA ta ρ [.lst (xs.map f)]) : EvI (iEnum K ta) ρ (xs.zipIdx.map fun p => .tup [.int (p.2 : Int), f p.1]) := enum_map xs f ▸ ei_enum h
theorem atI_nat {α : Type} {xs : List α} {i : Nat} {x : α} (h : xs[i]? = some x) : L2.atI xs (i : Int) = some x := by
  have hi := (List.getElem?_eq_some_iff.mp h).1
  unfold L2.atI ixN
  rw [if_pos (by omega), if_pos (by omega)]
  simpa using h
theorem mem_zip {α : Type} {xs : List α} {p : α × Nat} (h : p ∈ xs.zipIdx) : xs[p.2]? = some p.1 := List.mem_zipIdx_iff_getElem?.mp h
end Ck
namespace Ck
open PySem PySem.Spec L2
open PyProof.Rows hiding St


section
variable {P : Program} {w : World} {K : PySem.W.Frag} {mg : Str → Option Value} {base : Heap} {k : Nat}

def F_is_place : List Dt → Dt → Prop := fun ds d => ∃ (i : Int), ds = [.int i] ∧ 0 ≤ i ∧ d = .bl true
theorem len_is_place {ds : List Dt} {d : Dt} (h : F_is_place ds d) : ds.length = 1 := by
  obtain ⟨i, rfl, _⟩ := h; rfl
theorem sc_is_place : FnScope ["value"] ["value"] (defScope s_is_place) := ⟨rfl, rfl, rfl, by decide +kernel, rfl, by decide +kernel, by decide +kernel⟩
theorem has_is_place (T : Bt mg) (D : Dfn K mg "is_place" s_is_place) (h_is_integer : Has P w K mg base k "is_integer" ["value"] (spP F_is_integer)) : Has P w K mg base (k + 1) "is_place" ["value"] (spP F_is_place) := by
  have nd := (sc_is_place).nd
  refine D.hasP sc_is_place (fun _ _ _ _ _ _ us hl => match us, hl with | [_], _ => rfl) ?_ (fun f cdv A outer s H E hr => ?_)
  · intro ds d h
    exact len_is_place h
  have hu := hu_of hr
  refine ⟨_, (pss_one (ps_ret (pe_and (pe_has h_is_integer hr (by rfl) (pa_cons (pv 0) pa_nil)) (pe_one (pe_cmpR op_ge (pv 0) pe_int (nomark _)))))), ?_⟩
  rintro ds d ⟨i, rfl, hi, rfl⟩ ps σ D s rt nx
  refine s_ret (ev_is (ev_andb (ev_call (ea_cons (ev_var (i := 0) rfl) ea_nil) ⟨i, rfl, rfl⟩) fun _ => (ev_op (ev_var (i := 0) rfl) ev_int od_ge)) (by simp [hi])) s rt
def F_is_deed : List Dt → Dt → Prop := fun ds d => ∃ (n : Nat) (x : Deed), ds = [deedD x] ∧ DeedOk n x ∧ d = .bl true
theorem len_is_deed {ds : List Dt} {d : Dt} (h : F_is_deed ds d) : ds.length = 1 := by
  obtain ⟨n, x, rfl, _⟩ := h; rfl
theorem sc_is_deed : FnScope ["value"] ["value"] (defScope s_is_deed) := ⟨rfl, rfl, rfl, by decide +kernel, rfl, by decide +kernel, by decide +kernel⟩
theorem has_is_deed (T : Bt mg) (D : Dfn K mg "is_deed" s_is_deed) (h_is_fill : Has P w K mg base k "is_fill" ["value"] (spP F_is_fill)) (h_is_place : Has P w K mg base k "is_place" ["value"] (spP F_is_place)) (h_is_share : Has P w K mg base k "is_share" ["value"] (spP F_is_share)) : Has P w K mg base (k + 1) "is_deed" ["value"] (spP F_is_deed) := by
  have nd := (sc_is_deed).nd
  refine D.hasP sc_is_deed (fun _ _ _ _ _ _ us hl => match us, hl with | [_], _ => rfl) ?_ (fun f cdv A outer s H E hr => ?_)
  · intro ds d h
    exact len_is_deed h
  have hu := hu_of hr
  refine ⟨_, (pss_cons (ps_if (PW.pt (pw_or (pt_not (pt_val (pe_callB (k_isi (K := K) rfl) (by rfl) T.isinstance (by decide +kernel) (pa_cons (pv 0) (pa_cons (pe_bltn (v := .ty "tuple") (by rfl) T.tuple (by decide +kernel) rfl) pa_nil))))) (pw_or (pt_cmpR op_lt (pe_callB (k_len (K := K) rfl) (by rfl) T.len PySem.boot_len (pa_cons (pv 0) pa_nil)) pe_int (nomark _)) (pw_or (pt_not (pt_val (pe_callB (k_isi (K := K) rfl) (by rfl) T.isinstance (by decide +kernel) (pa_cons (pe_ix (k_ix (K := K) rfl) (pv 0) pe_int (fun _ _ => rfl)) (pa_cons (pe_bltn (v := .ty "str") (by rfl) T.str (by decide +kernel) rfl) pa_nil))))) (pw_or1 (pt_not (pt_val (pe_has h_is_place hr (by rfl) (pa_cons (pe_ix (k_ix (K := K) rfl) (pv 0) pe_int (fun _ _ => rfl)) pa_nil))))))))) (pss_one (ps_ret pe_bl)) pss_nil)
    (pss_cons (ps_if (PW.pt (pw_or (pt_cmpR op_eq (pe_ix (k_ix (K := K) rfl) (pv 0) pe_int (fun _ _ => rfl)) pe_str (nomark _)) (pw_or1 (pt_cmpR op_eq (pe_ix (k_ix (K := K) rfl) (pv 0) pe_int (fun _ _ => rfl)) pe_str (nomark _))))) (pss_one (ps_ret (pe_and (pe_cmpR op_eq (pe_callB (k_len (K := K) rfl) (by rfl) T.len PySem.boot_len (pa_cons (pv 0) pa_nil)) pe_int (nomark _)) (pe_and (pe_has h_is_place hr (by rfl) (pa_cons (pe_ix (k_ix (K := K) rfl) (pv 0) pe_int (fun _ _ => rfl)) pa_nil)) (pe_and (pe_cmpR op_ne (pe_ix (k_ix (K := K) rfl) (pv 0) pe_int (fun _ _ => rfl)) (pe_ix (k_ix (K := K) rfl) (pv 0) pe_int (fun _ _ => rfl)) (nomark _)) (pe_one (pe_has h_is_share hr (by rfl) (pa_cons (pe_ix (k_ix (K := K) rfl) (pv 0) pe_int (fun _ _ => rfl)) pa_nil)))))))) pss_nil)
    (pss_cons (ps_if (PW.pt (pw_or (pt_cmpR op_eq (pe_ix (k_ix (K := K) rfl) (pv 0) pe_int (fun _ _ => rfl)) pe_str (nomark _)) (pw_or1 (pt_cmpR op_eq (pe_ix (k_ix (K := K) rfl) (pv 0) pe_int (fun _ _ => rfl)) pe_str (nomark _))))) (pss_one (ps_ret (pe_and (pe_cmpR op_eq (pe_callB (k_len (K := K) rfl) (by rfl) T.len PySem.boot_len (pa_cons (pv 0) pa_nil)) pe_int (nomark _)) (pe_one (pe_has h_is_share hr (by rfl) (pa_cons (pe_ix (k_ix (K := K) rfl) (pv 0) pe_int (fun _ _ => rfl)) pa_nil)))))) pss_nil)
    (pss_one (ps_ret (pe_and (pe_cmpR op_eq (pe_ix (k_ix (K := K) rfl) (pv 0) pe_int (fun _ _ => rfl)) pe_str (nomark _)) (pe_and (pe_cmpR op_eq (pe_callB (k_len (K := K) rfl) (by rfl) T.len PySem.boot_len (pa_cons (pv 0) pa_nil)) pe_int (nomark _)) (pe_one (pe_has h_is_fill hr (by rfl) (pa_cons (pe_ix (k_ix (K := K) rfl) (pv 0) pe_int (fun _ _ => rfl)) pa_nil)))))))))), ?_⟩
  rintro ds d ⟨n, x, rfl, ok, rfl⟩ ps σ D s rt nx
  cases x with
  | move i j a b =>
    obtain ⟨hi, hj, hne, sh⟩ := ok
    refine q_gd (et_is (et_or (et_not (et_B (ev_cb (ea_cons (ev_var (i := 0) rfl) (ea_cons ev_ty ea_nil)) (cd_isi (b := true) rfl (by decide +kernel))))) fun _ => et_or (et_T (ev_op (ev_cb (ea_cons (ev_var (i := 0) rfl) ea_nil) (by first | exact cd_lenl | exact cd_lent)) ev_int od_lt)) fun _ => et_or (et_not (et_B (ev_cb (ea_cons (ev_op (ev_var (i := 0) rfl) ev_int (by first | exact od_ixt rfl | exact od_ixl rfl)) (ea_cons ev_ty ea_nil)) (cd_isi (b := true) rfl (by decide +kernel))))) fun _ => et_not (et_B (ev_call (ea_cons (ev_op (ev_var (i := 0) rfl) ev_int (by first | exact od_ixt rfl | exact od_ixl rfl)) ea_nil) ⟨(i : Int), rfl, by omega, rfl⟩))) rfl) s fun H1 s1 => ?_
    refine q_gt (et_is (et_or (et_T (ev_op (ev_op (ev_var (i := 0) rfl) ev_int (by first | exact od_ixt rfl | exact od_ixl rfl)) ev_str (by first | exact od_eqI | exact od_eqS | exact od_eqB))) fun _ => (et_T (ev_op (ev_op (ev_var (i := 0) rfl) ev_int (by first | exact od_ixt rfl | exact od_ixl rfl)) ev_str (by first | exact od_eqI | exact od_eqS | exact od_eqB)))) (by decide +kernel)) s1 fun H2 s2 => ?_
    refine s_ret (ev_is (ev_andb (ev_op (ev_cb (ea_cons (ev_var (i := 0) rfl) ea_nil) (by first | exact cd_lenl | exact cd_lent)) ev_int (by first | exact od_eqI | exact od_eqS | exact od_eqB)) fun _ => ev_andb (ev_call (ea_cons (ev_op (ev_var (i := 0) rfl) ev_int (by first | exact od_ixt rfl | exact od_ixl rfl)) ea_nil) ⟨(j : Int), rfl, by omega, rfl⟩) fun _ => ev_andb (ev_op (ev_op (ev_var (i := 0) rfl) ev_int (by first | exact od_ixt rfl | exact od_ixl rfl)) (ev_op (ev_var (i := 0) rfl) ev_int (by first | exact od_ixt rfl | exact od_ixl rfl)) (by first | exact od_neI | exact od_neS | exact od_neB)) fun _ => ev_call (ea_cons (ev_op (ev_var (i := 0) rfl) ev_int (by first | exact od_ixt rfl | exact od_ixl rfl)) ea_nil) ⟨a, b, rfl, sh, rfl⟩) ?_) s2 rt
    have e : ¬ (i : Int) = (j : Int) := by omega
    simp [e]
  | swap i j a b =>
    obtain ⟨hi, hj, hne, sh⟩ := ok
    refine q_gd (et_is (et_or (et_not (et_B (ev_cb (ea_cons (ev_var (i := 0) rfl) (ea_cons ev_ty ea_nil)) (cd_isi (b := true) rfl (by decide +kernel))))) fun _ => et_or (et_T (ev_op (ev_cb (ea_cons (ev_var (i := 0) rfl) ea_nil) (by first | exact cd_lenl | exact cd_lent)) ev_int od_lt)) fun _ => et_or (et_not (et_B (ev_cb (ea_cons (ev_op (ev_var (i := 0) rfl) ev_int (by first | exact od_ixt rfl | exact od_ixl rfl)) (ea_cons ev_ty ea_nil)) (cd_isi (b := true) rfl (by decide +kernel))))) fun _ => et_not (et_B (ev_call (ea_cons (ev_op (ev_var (i := 0) rfl) ev_int (by first | exact od_ixt rfl | exact od_ixl rfl)) ea_nil) ⟨(i : Int), rfl, by omega, rfl⟩))) rfl) s fun H1 s1 => ?_
    refine q_gt (et_is (et_or (et_T (ev_op (ev_op (ev_var (i := 0) rfl) ev_int (by first | exact od_ixt rfl | exact od_ixl rfl)) ev_str (by first | exact od_eqI | exact od_eqS | exact od_eqB))) fun _ => (et_T (ev_op (ev_op (ev_var (i := 0) rfl) ev_int (by first | exact od_ixt rfl | exact od_ixl rfl)) ev_str (by first | exact od_eqI | exact od_eqS | exact od_eqB)))) (by decide +kernel)) s1 fun H2 s2 => ?_
    refine s_ret (ev_is (ev_andb (ev_op (ev_cb (ea_cons (ev_var (i := 0) rfl) ea_nil) (by first | exact cd_lenl | exact cd_lent)) ev_int (by first | exact od_eqI | exact od_eqS | exact od_eqB)) fun _ => ev_andb (ev_call (ea_cons (ev_op (ev_var (i := 0) rfl) ev_int (by first | exact od_ixt rfl | exact od_ixl rfl)) ea_nil) ⟨(j : Int), rfl, by omega, rfl⟩) fun _ => ev_andb (ev_op (ev_op (ev_var (i := 0) rfl) ev_int (by first | exact od_ixt rfl | exact od_ixl rfl)) (ev_op (ev_var (i := 0) rfl) ev_int (by first | exact od_ixt rfl | exact od_ixl rfl)) (by first | exact od_neI | exact od_neS | exact od_neB)) fun _ => ev_call (ea_cons (ev_op (ev_var (i := 0) rfl) ev_int (by first | exact od_ixt rfl | exact od_ixl rfl)) ea_nil) ⟨a, b, rfl, sh, rfl⟩) ?_) s2 rt
    have e : ¬ (i : Int) = (j : Int) := by omega
    simp [e]
  | draw i a b =>
    obtain ⟨hi, sh⟩ := ok
    refine q_gd (et_is (et_or (et_not (et_B (ev_cb (ea_cons (ev_var (i := 0) rfl) (ea_cons ev_ty ea_nil)) (cd_isi (b := true) rfl (by decide +kernel))))) fun _ => et_or (et_T (ev_op (ev_cb (ea_cons (ev_var (i := 0) rfl) ea_nil) (by first | exact cd_lenl | exact cd_lent)) ev_int od_lt)) fun _ => et_or (et_not (et_B (ev_cb (ea_cons (ev_op (ev_var (i := 0) rfl) ev_int (by first | exact od_ixt rfl | exact od_ixl rfl)) (ea_cons ev_ty ea_nil)) (cd_isi (b := true) rfl (by decide +kernel))))) fun _ => et_not (et_B (ev_call (ea_cons (ev_op (ev_var (i := 0) rfl) ev_int (by first | exact od_ixt rfl | exact od_ixl rfl)) ea_nil) ⟨(i : Int), rfl, by omega, rfl⟩))) rfl) s fun H1 s1 => ?_
    refine q_gd (et_is (et_or (et_T (ev_op (ev_op (ev_var (i := 0) rfl) ev_int (by first | exact od_ixt rfl | exact od_ixl rfl)) ev_str (by first | exact od_eqI | exact od_eqS | exact od_eqB))) fun _ => (et_T (ev_op (ev_op (ev_var (i := 0) rfl) ev_int (by first | exact od_ixt rfl | exact od_ixl rfl)) ev_str (by first | exact od_eqI | exact od_eqS | exact od_eqB)))) (by decide +kernel)) s1 fun H2 s2 => ?_
    refine q_gt (et_is (et_or (et_T (ev_op (ev_op (ev_var (i := 0) rfl) ev_int (by first | exact od_ixt rfl | exact od_ixl rfl)) ev_str (by first | exact od_eqI | exact od_eqS | exact od_eqB))) fun _ => (et_T (ev_op (ev_op (ev_var (i := 0) rfl) ev_int (by first | exact od_ixt rfl | exact od_ixl rfl)) ev_str (by first | exact od_eqI | exact od_eqS | exact od_eqB)))) (by decide +kernel)) s2 fun H3 s3 => ?_
    exact s_ret (d := .bl true) (ev_is (ev_andb (ev_op (ev_cb (ea_cons (ev_var (i := 0) rfl) ea_nil) (by first | exact cd_lenl | exact cd_lent)) ev_int (by first | exact od_eqI | exact od_eqS | exact od_eqB)) fun _ => ev_call (ea_cons (ev_op (ev_var (i := 0) rfl) ev_int (by first | exact od_ixt rfl | exact od_ixl rfl)) ea_nil) ⟨a, b, rfl, sh, rfl⟩) rfl) s3 rt
  | keep i a b =>
    obtain ⟨hi, sh⟩ := ok
    refine q_gd (et_is (et_or (et_not (et_B (ev_cb (ea_cons (ev_var (i := 0) rfl) (ea_cons ev_ty ea_nil)) (cd_isi (b := true) rfl (by decide +kernel))))) fun _ => et_or (et_T (ev_op (ev_cb (ea_cons (ev_var (i := 0) rfl) ea_nil) (by first | exact cd_lenl | exact cd_lent)) ev_int od_lt)) fun _ => et_or (et_not (et_B (ev_cb (ea_cons (ev_op (ev_var (i := 0) rfl) ev_int (by first | exact od_ixt rfl | exact od_ixl rfl)) (ea_cons ev_ty ea_nil)) (cd_isi (b := true) rfl (by decide +kernel))))) fun _ => et_not (et_B (ev_call (ea_cons (ev_op (ev_var (i := 0) rfl) ev_int (by first | exact od_ixt rfl | exact od_ixl rfl)) ea_nil) ⟨(i : Int), rfl, by omega, rfl⟩))) rfl) s fun H1 s1 => ?_
    refine q_gd (et_is (et_or (et_T (ev_op (ev_op (ev_var (i := 0) rfl) ev_int (by first | exact od_ixt rfl | exact od_ixl rfl)) ev_str (by first | exact od_eqI | exact od_eqS | exact od_eqB))) fun _ => (et_T (ev_op (ev_op (ev_var (i := 0) rfl) ev_int (by first | exact od_ixt rfl | exact od_ixl rfl)) ev_str (by first | exact od_eqI | exact od_eqS | exact od_eqB)))) (by decide +kernel)) s1 fun H2 s2 => ?_
    refine q_gt (et_is (et_or (et_T (ev_op (ev_op (ev_var (i := 0) rfl) ev_int (by first | exact od_ixt rfl | exact od_ixl rfl)) ev_str (by first | exact od_eqI | exact od_eqS | exact od_eqB))) fun _ => (et_T (ev_op (ev_op (ev_var (i := 0) rfl) ev_int (by first | exact od_ixt rfl | exact od_ixl rfl)) ev_str (by first | exact od_eqI | exact od_eqS | exact od_eqB)))) (by decide +kernel)) s2 fun H3 s3 => ?_
    exact s_ret (d := .bl true) (ev_is (ev_andb (ev_op (ev_cb (ea_cons (ev_var (i := 0) rfl) ea_nil) (by first | exact cd_lenl | exact cd_lent)) ev_int (by first | exact od_eqI | exact od_eqS | exact od_eqB)) fun _ => ev_call (ea_cons (ev_op (ev_var (i := 0) rfl) ev_int (by first | exact od_ixt rfl | exact od_ixl rfl)) ea_nil) ⟨a, b, rfl, sh, rfl⟩) rfl) s3 rt
  | add i f =>
    obtain ⟨hi, ok⟩ := ok
    refine q_gd (et_is (et_or (et_not (et_B (ev_cb (ea_cons (ev_var (i := 0) rfl) (ea_cons ev_ty ea_nil)) (cd_isi (b := true) rfl (by decide +kernel))))) fun _ => et_or (et_T (ev_op (ev_cb (ea_cons (ev_var (i := 0) rfl) ea_nil) (by first | exact cd_lenl | exact cd_lent)) ev_int od_lt)) fun _ => et_or (et_not (et_B (ev_cb (ea_cons (ev_op (ev_var (i := 0) rfl) ev_int (by first | exact od_ixt rfl | exact od_ixl rfl)) (ea_cons ev_ty ea_nil)) (cd_isi (b := true) rfl (by decide +kernel))))) fun _ => et_not (et_B (ev_call (ea_cons (ev_op (ev_var (i := 0) rfl) ev_int (by first | exact od_ixt rfl | exact od_ixl rfl)) ea_nil) ⟨(i : Int), rfl, by omega, rfl⟩))) rfl) s fun H1 s1 => ?_
    refine q_gd (et_is (et_or (et_T (ev_op (ev_op (ev_var (i := 0) rfl) ev_int (by first | exact od_ixt rfl | exact od_ixl rfl)) ev_str (by first | exact od_eqI | exact od_eqS | exact od_eqB))) fun _ => (et_T (ev_op (ev_op (ev_var (i := 0) rfl) ev_int (by first | exact od_ixt rfl | exact od_ixl rfl)) ev_str (by first | exact od_eqI | exact od_eqS | exact od_eqB)))) (by decide +kernel)) s1 fun H2 s2 => ?_
    refine q_gd (et_is (et_or (et_T (ev_op (ev_op (ev_var (i := 0) rfl) ev_int (by first | exact od_ixt rfl | exact od_ixl rfl)) ev_str (by first | exact od_eqI | exact od_eqS | exact od_eqB))) fun _ => (et_T (ev_op (ev_op (ev_var (i := 0) rfl) ev_int (by first | exact od_ixt rfl | exact od_ixl rfl)) ev_str (by first | exact od_eqI | exact od_eqS | exact od_eqB)))) (by decide +kernel)) s2 fun H3 s3 => ?_
    exact s_ret (ev_is (ev_andb (ev_op (ev_op (ev_var (i := 0) rfl) ev_int (by first | exact od_ixt rfl | exact od_ixl rfl)) ev_str (by first | exact od_eqI | exact od_eqS | exact od_eqB)) fun _ => ev_andb (ev_op (ev_cb (ea_cons (ev_var (i := 0) rfl) ea_nil) (by first | exact cd_lenl | exact cd_lent)) ev_int (by first | exact od_eqI | exact od_eqS | exact od_eqB)) fun _ => ev_call (ea_cons (ev_op (ev_var (i := 0) rfl) ev_int (by first | exact od_ixt rfl | exact od_ixl rfl)) ea_nil) ⟨f, rfl, ok, rfl⟩) (by simp)) s3 rt
def F_casks_of : List Dt → Dt → Prop := fun ds d => ∃ (x : Deed), ds = [deedD x] ∧ d = natsD (casksOf x)
theorem len_casks_of {ds : List Dt} {d : Dt} (h : F_casks_of ds d) : ds.length = 1 := by
  obtain ⟨x, rfl, _⟩ := h; rfl
theorem sc_casks_of : FnScope ["deed"] ["deed"] (defScope s_casks_of) := ⟨rfl, rfl, rfl, by decide +kernel, rfl, by decide +kernel, by decide +kernel⟩
theorem has_casks_of (T : Bt mg) (D : Dfn K mg "casks_of" s_casks_of) : Has P w K mg base (k + 1) "casks_of" ["deed"] (spP F_casks_of) := by
  have nd := (sc_casks_of).nd
  refine D.hasP sc_casks_of (fun _ _ _ _ _ _ us hl => match us, hl with | [_], _ => rfl) ?_ (fun f cdv A outer s H E hr => ?_)
  · intro ds d h
    exact len_casks_of h
  have hu := hu_of hr
  refine ⟨_, (pss_cons (ps_if (PW.pt (pw_or (pt_cmpR op_eq (pe_ix (k_ix (K := K) rfl) (pv 0) pe_int (fun _ _ => rfl)) pe_str (nomark _)) (pw_or1 (pt_cmpR op_eq (pe_ix (k_ix (K := K) rfl) (pv 0) pe_int (fun _ _ => rfl)) pe_str (nomark _))))) (pss_one (ps_ret (pe_lst (pa_cons (pe_ix (k_ix (K := K) rfl) (pv 0) pe_int (fun _ _ => rfl)) (pa_cons (pe_ix (k_ix (K := K) rfl) (pv 0) pe_int (fun _ _ => rfl)) pa_nil))))) pss_nil)
    (pss_one (ps_ret (pe_lst (pa_cons (pe_ix (k_ix (K := K) rfl) (pv 0) pe_int (fun _ _ => rfl)) pa_nil))))), ?_⟩
  rintro ds d ⟨x, rfl, rfl⟩ ps σ D s rt nx
  cases x with
  | move i j a b =>
    refine q_gt (et_is (et_or (et_T (ev_op (ev_op (ev_var (i := 0) rfl) ev_int (by first | exact od_ixt rfl | exact od_ixl rfl)) ev_str (by first | exact od_eqI | exact od_eqS | exact od_eqB))) fun _ => (et_T (ev_op (ev_op (ev_var (i := 0) rfl) ev_int (by first | exact od_ixt rfl | exact od_ixl rfl)) ev_str (by first | exact od_eqI | exact od_eqS | exact od_eqB)))) (by decide +kernel)) s fun H2 s2 => ?_
    exact s_ret (ev_lst (ea_cons (ev_op (ev_var (i := 0) rfl) ev_int (by first | exact od_ixt rfl | exact od_ixl rfl)) (ea_cons (ev_op (ev_var (i := 0) rfl) ev_int (by first | exact od_ixt rfl | exact od_ixl rfl)) ea_nil)) (Nat.le_of_ble_eq_true rfl)) s2 rt
  | swap i j a b =>
    refine q_gt (et_is (et_or (et_T (ev_op (ev_op (ev_var (i := 0) rfl) ev_int (by first | exact od_ixt rfl | exact od_ixl rfl)) ev_str (by first | exact od_eqI | exact od_eqS | exact od_eqB))) fun _ => (et_T (ev_op (ev_op (ev_var (i := 0) rfl) ev_int (by first | exact od_ixt rfl | exact od_ixl rfl)) ev_str (by first | exact od_eqI | exact od_eqS | exact od_eqB)))) (by decide +kernel)) s fun H2 s2 => ?_
    exact s_ret (ev_lst (ea_cons (ev_op (ev_var (i := 0) rfl) ev_int (by first | exact od_ixt rfl | exact od_ixl rfl)) (ea_cons (ev_op (ev_var (i := 0) rfl) ev_int (by first | exact od_ixt rfl | exact od_ixl rfl)) ea_nil)) (Nat.le_of_ble_eq_true rfl)) s2 rt
  | draw i a b =>
    refine q_gd (et_is (et_or (et_T (ev_op (ev_op (ev_var (i := 0) rfl) ev_int (by first | exact od_ixt rfl | exact od_ixl rfl)) ev_str (by first | exact od_eqI | exact od_eqS | exact od_eqB))) fun _ => (et_T (ev_op (ev_op (ev_var (i := 0) rfl) ev_int (by first | exact od_ixt rfl | exact od_ixl rfl)) ev_str (by first | exact od_eqI | exact od_eqS | exact od_eqB)))) (by decide +kernel)) s fun H2 s2 => ?_
    exact s_ret (ev_lst (ea_cons (ev_op (ev_var (i := 0) rfl) ev_int (by first | exact od_ixt rfl | exact od_ixl rfl)) ea_nil) (Nat.le_of_ble_eq_true rfl)) s2 rt
  | keep i a b =>
    refine q_gd (et_is (et_or (et_T (ev_op (ev_op (ev_var (i := 0) rfl) ev_int (by first | exact od_ixt rfl | exact od_ixl rfl)) ev_str (by first | exact od_eqI | exact od_eqS | exact od_eqB))) fun _ => (et_T (ev_op (ev_op (ev_var (i := 0) rfl) ev_int (by first | exact od_ixt rfl | exact od_ixl rfl)) ev_str (by first | exact od_eqI | exact od_eqS | exact od_eqB)))) (by decide +kernel)) s fun H2 s2 => ?_
    exact s_ret (ev_lst (ea_cons (ev_op (ev_var (i := 0) rfl) ev_int (by first | exact od_ixt rfl | exact od_ixl rfl)) ea_nil) (Nat.le_of_ble_eq_true rfl)) s2 rt
  | add i f =>
    refine q_gd (et_is (et_or (et_T (ev_op (ev_op (ev_var (i := 0) rfl) ev_int (by first | exact od_ixt rfl | exact od_ixl rfl)) ev_str (by first | exact od_eqI | exact od_eqS | exact od_eqB))) fun _ => (et_T (ev_op (ev_op (ev_var (i := 0) rfl) ev_int (by first | exact od_ixt rfl | exact od_ixl rfl)) ev_str (by first | exact od_eqI | exact od_eqS | exact od_eqB)))) (by decide +kernel)) s fun H2 s2 => ?_
    exact s_ret (ev_lst (ea_cons (ev_op (ev_var (i := 0) rfl) ev_int (by first | exact od_ixt rfl | exact od_ixl rfl)) ea_nil) (Nat.le_of_ble_eq_true rfl)) s2 rt
def F_is_deed_of : List Dt → Dt → Prop := fun ds d => ∃ (n : Nat) (x : Deed), ds = [deedD x, .int (n : Int)] ∧ DeedOk n x ∧ d = .bl true
theorem len_is_deed_of {ds : List Dt} {d : Dt} (h : F_is_deed_of ds d) : ds.length = 2 := by
  obtain ⟨n, x, rfl, _⟩ := h; rfl
theorem sc_is_deed_of : FnScope ["value", "casks"] ["value", "casks"] (defScope s_is_deed_of) := ⟨rfl, rfl, rfl, by decide +kernel, rfl, by decide +kernel, by decide +kernel⟩
theorem has_is_deed_of (T : Bt mg) (D : Dfn K mg "is_deed_of" s_is_deed_of) (h_is_deed : Has P w K mg base k "is_deed" ["value"] (spP F_is_deed)) (h_casks_of : Has P w K mg base k "casks_of" ["deed"] (spP F_casks_of)) : Has P w K mg base (k + 1) "is_deed_of" ["value", "casks"] (spP F_is_deed_of) := by
  have nd := (sc_is_deed_of).nd
  refine D.hasP sc_is_deed_of (fun _ _ _ _ _ _ us hl => match us, hl with | [_, _], _ => rfl) ?_ (fun f cdv A outer s H E hr => ?_)
  · intro ds d h
    exact len_is_deed_of h
  have hu := hu_of hr
  refine ⟨_, (pss_one (ps_ret (pe_and (pe_has h_is_deed hr (by rfl) (pa_cons (pv 0) pa_nil)) (pe_one (pe_cmpR op_lt (pe_callB (k_max (K := K) rfl rfl) (by rfl) T.max (by decide +kernel) (pa_cons (pe_has h_casks_of hr (by rfl) (pa_cons (pv 0) pa_nil)) pa_nil)) (pv 1) (nomark _)))))), ?_⟩
  rintro ds d ⟨n, x, rfl, ok, rfl⟩ ps σ D s rt nx
  obtain ⟨m, h1, h2, h3⟩ := casks_max ok
  refine s_ret (ev_is (ev_andb (ev_call (ea_cons (ev_var (i := 0) rfl) ea_nil) ⟨n, x, rfl, ok, rfl⟩) fun _ => ev_op (ev_cb (ea_cons (ev_call (ea_cons (ev_var (i := 0) rfl) ea_nil) ⟨x, rfl, rfl⟩) ea_nil) (cd_maxL h1 h2)) (ev_var (i := 1) rfl) od_lt) (by simp [h3])) s rt
def F_need_story : List Dt → Dt → Prop := fun ds d => ∃ (n : Nat) (st : List Deed), ds = [storyD st, .int (n : Int)] ∧ StoryOk n st ∧ d = .non
theorem len_need_story {ds : List Dt} {d : Dt} (h : F_need_story ds d) : ds.length = 2 := by
  obtain ⟨n, st, rfl, _⟩ := h; rfl
theorem sc_need_story : FnScope ["story", "casks", "index", "deed"] ["story", "casks"] (defScope s_need_story) := ⟨rfl, rfl, rfl, by decide +kernel, rfl, by decide +kernel, by decide +kernel⟩
theorem has_need_story (T : Bt mg) (D : Dfn K mg "need_story" s_need_story) (h_is_deed_of : Has P w K mg base k "is_deed_of" ["value", "casks"] (spP F_is_deed_of)) : Has P w K mg base (k + 1) "need_story" ["story", "casks"] (spP F_need_story) := by
  have nd := (sc_need_story).nd
  refine D.hasP sc_need_story (fun _ _ _ _ _ _ us hl => match us, hl with | [_, _], _ => rfl) ?_ (fun f cdv A outer s H E hr => ?_)
  · intro ds d h
    exact len_need_story h
  have hu := hu_of hr
  refine ⟨_, (pss_cons (ps_if (pt_not (pt_val (pe_callB (k_isi (K := K) rfl) (by rfl) T.isinstance (by decide +kernel) (pa_cons (pv 0) (pa_cons (pe_bltn (v := .ty "tuple") (by rfl) T.tuple (by decide +kernel) rfl) pa_nil))))) (pss_one ps_never) pss_nil)
    (pss_one (ps_for PassesOwn.never rfl (k_piET (K := K) rfl (by rfl) T.enumerate (pa_cons (pv 0) pa_nil)) (k_tup (K := K) rfl rfl (pgs_cons (pg_name (i := 2) nd rfl (Or.inl rfl)) (pgs_cons (pg_name (i := 3) nd rfl (Or.inl rfl)) pgs_nil))) (pss_one (ps_if (pt_not (pt_val (pe_has h_is_deed_of hr (by rfl) (pa_cons (pv 3) (pa_cons (pv 1) pa_nil))))) (pss_one ps_never) pss_nil))))), ?_⟩
  rintro ds d ⟨n, st, rfl, ok, rfl⟩ ps σ D s rt nx
  refine q_gd (et_is (et_not (et_B (ev_cb (ea_cons (ev_var (i := 0) rfl) (ea_cons ev_ty ea_nil)) (cd_isi (b := true) rfl (by decide +kernel))))) rfl) s fun H1 s1 => ?_
  refine s_for' st.zipIdx (fun p => .tup [.int (p.2 : Int), deedD p.1]) (fun p ρ => (ρ.set 2 (some (.int (p.2 : Int)))).set 3 (some (deedD p.1))) (fun _ os ρ => os = [] ∧ ∃ a b, ρ = [some (storyD st), some (.int (n : Int)), a, b]) (ei_enumT' (ea_cons (ev_var (i := 0) rfl) ea_nil)) (fun x ρ' => tg_two) s1 ⟨rfl, none, none, rfl⟩ ?_ ?_
  · rintro H2 e l i x os' ρ' H' σ' hx ⟨rfl, a, b, rfl⟩ s2 D' hrt hnx
    have hm := mem_zip (List.mem_of_getElem? hx)
    have s3 := s2.as (ρ' := [some (storyD st), some (.int (n : Int)), some (.int (x.2 : Int)), some (deedD x.1)]) rfl
    exact s_gd (et_is (et_not (et_B (ev_call (ea_cons (ev_var (i := 3) rfl) (ea_cons (ev_var (i := 1) rfl) ea_nil)) ⟨n, x.1, rfl, ok.all _ (List.mem_of_getElem? hm), rfl⟩))) rfl) s3 fun H5 s5 => hnx _ _ _ _ ⟨rfl, _, _, rfl⟩ s5
  · rintro os' ρ' H' σ' ⟨rfl, a, b, rfl⟩ s2
    exact rt.fall nx s2
def F_is_draw : List Dt → Dt → Prop := fun ds d => ∃ (st : List Deed) (i k : Nat) (a b : Int), ds = [storyD st, .int (i : Int)] ∧ st[i]? = some (.draw k a b) ∧ d = .bl true
theorem len_is_draw {ds : List Dt} {d : Dt} (h : F_is_draw ds d) : ds.length = 2 := by
  obtain ⟨st, i, k, a, b, rfl, _⟩ := h; rfl
theorem sc_is_draw : FnScope ["story", "index"] ["story", "index"] (defScope s_is_draw) := ⟨rfl, rfl, rfl, by decide +kernel, rfl, by decide +kernel, by decide +kernel⟩
theorem has_is_draw (T : Bt mg) (D : Dfn K mg "is_draw" s_is_draw) (h_is_integer : Has P w K mg base k "is_integer" ["value"] (spP F_is_integer)) : Has P w K mg base (k + 1) "is_draw" ["story", "index"] (spP F_is_draw) := by
  have nd := (sc_is_draw).nd
  refine D.hasP sc_is_draw (fun _ _ _ _ _ _ us hl => match us, hl with | [_, _], _ => rfl) ?_ (fun f cdv A outer s H E hr => ?_)
  · intro ds d h
    exact len_is_draw h
  have hu := hu_of hr
  refine ⟨_, (pss_one (ps_ret (pe_and (pe_has h_is_integer hr (by rfl) (pa_cons (pv 1) pa_nil)) (pe_and (pe_chain op_le op_lt pe_int (pv 1) (pe_callB (k_len (K := K) rfl) (by rfl) T.len PySem.boot_len (pa_cons (pv 0) pa_nil))) (pe_one (pe_cmpR op_eq (pe_ix (k_ix (K := K) rfl) (pe_ix (k_ix (K := K) rfl) (pv 0) (pv 1) (fun _ _ => rfl)) pe_int (fun _ _ => rfl)) pe_str (nomark _))))))), ?_⟩
  rintro ds d ⟨st, i, k, a, b, rfl, hi, rfl⟩ ps σ D s rt nx
  have hl := (List.getElem?_eq_some_iff.mp hi).1
  refine s_ret (ev_is (ev_andb (ev_call (ea_cons (ev_var (i := 1) rfl) ea_nil) ⟨(i : Int), rfl, rfl⟩) fun _ => ev_andb (ev_chb ev_int (ev_var (i := 1) rfl) (ev_cb (ea_cons (ev_var (i := 0) rfl) ea_nil) (by first | exact cd_lenl | exact cd_lent)) od_le od_lt) fun _ => ev_op (ev_op (ev_op (ev_var (i := 0) rfl) (ev_var (i := 1) rfl) (od_ixt (d := deedD (.draw k a b)) (atI_nat (by rw [List.getElem?_map, hi]; rfl)))) ev_int (od_ixt rfl)) ev_str od_eqS) ?_) s rt
  have h2 : ((i : Int) < (st.length : Int)) := by omega
  simp [h2]
def F_need_draw : List Dt → Dt → Prop := fun ds d => ∃ (st : List Deed) (i k : Nat) (a b : Int), ds = [storyD st, .int (i : Int)] ∧ st[i]? = some (.draw k a b) ∧ d = .non
theorem len_need_draw {ds : List Dt} {d : Dt} (h : F_need_draw ds d) : ds.length = 2 := by
  obtain ⟨st, i, k, a, b, rfl, _⟩ := h; rfl
theorem sc_need_draw : FnScope ["story", "index"] ["story", "index"] (defScope s_need_draw) := ⟨rfl, rfl, rfl, by decide +kernel, rfl, by decide +kernel, by decide +kernel⟩
theorem has_need_draw (T : Bt mg) (D : Dfn K mg "need_draw" s_need_draw) (h_is_draw : Has P w K mg base k "is_draw" ["story", "index"] (spP F_is_draw)) : Has P w K mg base (k + 1) "need_draw" ["story", "index"] (spP F_need_draw) := by
  have nd := (sc_need_draw).nd
  refine D.hasP sc_need_draw (fun _ _ _ _ _ _ us hl => match us, hl with | [_, _], _ => rfl) ?_ (fun f cdv A outer s H E hr => ?_)
  · intro ds d h
    exact len_need_draw h
  have hu := hu_of hr
  refine ⟨_, (pss_one (ps_if (pt_not (pt_val (pe_has h_is_draw hr (by rfl) (pa_cons (pv 0) (pa_cons (pv 1) pa_nil))))) (pss_one ps_never) pss_nil)), ?_⟩
  rintro ds d ⟨st, i, k, a, b, rfl, hi, rfl⟩ ps σ D s rt nx
  refine s_gd (et_is (et_not (et_B (ev_call (ea_cons (ev_var (i := 0) rfl) (ea_cons (ev_var (i := 1) rfl) ea_nil)) ⟨st, i, k, a, b, rfl, hi, rfl⟩))) rfl) s fun H1 s1 => rt.fall nx s1
def F_ways_over : List Dt → Dt → Prop := fun ds d => ∃ (x : Deed), ds = [deedD x] ∧ d = .lst ((waysOver x).map pairD)
theorem len_ways_over {ds : List Dt} {d : Dt} (h : F_ways_over ds d) : ds.length = 1 := by
  obtain ⟨x, rfl, _⟩ := h; rfl
theorem sc_ways_over : FnScope ["deed"] ["deed"] (defScope s_ways_over) := ⟨rfl, rfl, rfl, by decide +kernel, rfl, by decide +kernel, by decide +kernel⟩
theorem has_ways_over (T : Bt mg) (D : Dfn K mg "ways_over" s_ways_over) : Has P w K mg base (k + 1) "ways_over" ["deed"] (spP F_ways_over) := by
  have nd := (sc_ways_over).nd
  refine D.hasP sc_ways_over (fun _ _ _ _ _ _ us hl => match us, hl with | [_], _ => rfl) ?_ (fun f cdv A outer s H E hr => ?_)
  · intro ds d h
    exact len_ways_over h
  have hu := hu_of hr
  refine ⟨_, (pss_cons (ps_if (PW.pt (pw_or (pt_cmpR (k_notIn (K := K) rfl) (pe_ix (k_ix (K := K) rfl) (pv 0) pe_int (fun _ _ => rfl)) (pe_tup (pa_cons pe_str (pa_cons pe_str pa_nil))) (by rfl)) (pw_or1 (pt_cmpR op_eq (pe_ix (k_ix (K := K) rfl) (pe_ix (k_ix (K := K) rfl) (pv 0) pe_int (fun _ _ => rfl)) pe_int (fun _ _ => rfl)) pe_int (nomark _))))) (pss_one (ps_ret (pe_lst pa_nil))) pss_nil)
    (pss_cons (ps_if (pt_cmpR op_eq (pe_ix (k_ix (K := K) rfl) (pv 0) pe_int (fun _ _ => rfl)) pe_str (nomark _)) (pss_one (ps_ret (pe_lst (pa_cons (pe_tup (pa_cons (pe_ix (k_ix (K := K) rfl) (pv 0) pe_int (fun _ _ => rfl)) (pa_cons (pe_ix (k_ix (K := K) rfl) (pv 0) pe_int (fun _ _ => rfl)) pa_nil))) pa_nil)))) pss_nil)
    (pss_one (ps_ret (pe_lst (pa_cons (pe_tup (pa_cons (pe_ix (k_ix (K := K) rfl) (pv 0) pe_int (fun _ _ => rfl)) (pa_cons (pe_ix (k_ix (K := K) rfl) (pv 0) pe_int (fun _ _ => rfl)) pa_nil))) (pa_cons (pe_tup (pa_cons (pe_ix (k_ix (K := K) rfl) (pv 0) pe_int (fun _ _ => rfl)) (pa_cons (pe_ix (k_ix (K := K) rfl) (pv 0) pe_int (fun _ _ => rfl)) pa_nil))) pa_nil))))))), ?_⟩
  rintro ds d ⟨x, rfl, rfl⟩ ps σ D s rt nx
  cases x with
  | move i j a b =>
    by_cases h0 : a = 0
    · refine q_gt (et_is (et_or (et_T (ev_op (ev_op (ev_var (i := 0) rfl) ev_int (by first | exact od_ixt rfl | exact od_ixl rfl)) (ev_tup (ea_cons ev_str (ea_cons ev_str ea_nil)) (Nat.le_of_ble_eq_true rfl)) (od_niSt ["move", "swap"]))) fun z => (et_T (ev_op (ev_op (ev_op (ev_var (i := 0) rfl) ev_int (by first | exact od_ixt rfl | exact od_ixl rfl)) ev_int (by first | exact od_ixt rfl | exact od_ixl rfl)) ev_int (by first | exact od_eqI | exact od_eqS | exact od_eqB)))) (by simp [h0])) s fun H2 s2 => ?_
      simp only [waysOver, if_pos h0] at rt
      exact s_ret (ev_lst ea_nil (Nat.le_of_ble_eq_true rfl)) s2 rt
    · refine q_gd (et_is (et_or (et_T (ev_op (ev_op (ev_var (i := 0) rfl) ev_int (by first | exact od_ixt rfl | exact od_ixl rfl)) (ev_tup (ea_cons ev_str (ea_cons ev_str ea_nil)) (Nat.le_of_ble_eq_true rfl)) (od_niSt ["move", "swap"]))) fun z => (et_T (ev_op (ev_op (ev_op (ev_var (i := 0) rfl) ev_int (by first | exact od_ixt rfl | exact od_ixl rfl)) ev_int (by first | exact od_ixt rfl | exact od_ixl rfl)) ev_int (by first | exact od_eqI | exact od_eqS | exact od_eqB)))) (by rw [decide_eq_false h0]; decide +kernel)) s fun H2 s2 => ?_
      simp only [waysOver, if_neg h0] at rt
      refine q_gt (et_is (et_T (ev_op (ev_op (ev_var (i := 0) rfl) ev_int (by first | exact od_ixt rfl | exact od_ixl rfl)) ev_str (by first | exact od_eqI | exact od_eqS | exact od_eqB))) (by decide +kernel)) s2 fun H3 s3 => ?_
      exact s_ret (ev_lst (ea_cons (ev_tup (ea_cons (ev_op (ev_var (i := 0) rfl) ev_int (by first | exact od_ixt rfl | exact od_ixl rfl)) (ea_cons (ev_op (ev_var (i := 0) rfl) ev_int (by first | exact od_ixt rfl | exact od_ixl rfl)) ea_nil)) (Nat.le_of_ble_eq_true rfl)) ea_nil) (Nat.le_of_ble_eq_true rfl)) s3 rt
  | swap i j a b =>
    by_cases h0 : a = 0
    · refine q_gt (et_is (et_or (et_T (ev_op (ev_op (ev_var (i := 0) rfl) ev_int (by first | exact od_ixt rfl | exact od_ixl rfl)) (ev_tup (ea_cons ev_str (ea_cons ev_str ea_nil)) (Nat.le_of_ble_eq_true rfl)) (od_niSt ["move", "swap"]))) fun z => (et_T (ev_op (ev_op (ev_op (ev_var (i := 0) rfl) ev_int (by first | exact od_ixt rfl | exact od_ixl rfl)) ev_int (by first | exact od_ixt rfl | exact od_ixl rfl)) ev_int (by first | exact od_eqI | exact od_eqS | exact od_eqB)))) (by simp [h0])) s fun H2 s2 => ?_
      simp only [waysOver, if_pos h0] at rt
      exact s_ret (ev_lst ea_nil (Nat.le_of_ble_eq_true rfl)) s2 rt
    · refine q_gd (et_is (et_or (et_T (ev_op (ev_op (ev_var (i := 0) rfl) ev_int (by first | exact od_ixt rfl | exact od_ixl rfl)) (ev_tup (ea_cons ev_str (ea_cons ev_str ea_nil)) (Nat.le_of_ble_eq_true rfl)) (od_niSt ["move", "swap"]))) fun z => (et_T (ev_op (ev_op (ev_op (ev_var (i := 0) rfl) ev_int (by first | exact od_ixt rfl | exact od_ixl rfl)) ev_int (by first | exact od_ixt rfl | exact od_ixl rfl)) ev_int (by first | exact od_eqI | exact od_eqS | exact od_eqB)))) (by rw [decide_eq_false h0]; decide +kernel)) s fun H2 s2 => ?_
      simp only [waysOver, if_neg h0] at rt
      refine q_gd (et_is (et_T (ev_op (ev_op (ev_var (i := 0) rfl) ev_int (by first | exact od_ixt rfl | exact od_ixl rfl)) ev_str (by first | exact od_eqI | exact od_eqS | exact od_eqB))) (by decide +kernel)) s2 fun H3 s3 => ?_
      exact s_ret (ev_lst (ea_cons (ev_tup (ea_cons (ev_op (ev_var (i := 0) rfl) ev_int (by first | exact od_ixt rfl | exact od_ixl rfl)) (ea_cons (ev_op (ev_var (i := 0) rfl) ev_int (by first | exact od_ixt rfl | exact od_ixl rfl)) ea_nil)) (Nat.le_of_ble_eq_true rfl)) (ea_cons (ev_tup (ea_cons (ev_op (ev_var (i := 0) rfl) ev_int (by first | exact od_ixt rfl | exact od_ixl rfl)) (ea_cons (ev_op (ev_var (i := 0) rfl) ev_int (by first | exact od_ixt rfl | exact od_ixl rfl)) ea_nil)) (Nat.le_of_ble_eq_true rfl)) ea_nil)) (Nat.le_of_ble_eq_true rfl)) s3 rt
  | draw i a b =>
    refine q_gt (et_is (et_or (b := false) (et_T (ev_op (ev_op (ev_var (i := 0) rfl) ev_int (by first | exact od_ixt rfl | exact od_ixl rfl)) (ev_tup (ea_cons ev_str (ea_cons ev_str ea_nil)) (Nat.le_of_ble_eq_true rfl)) (od_niSt ["move", "swap"]))) fun z => absurd z (by decide +kernel)) (by decide +kernel)) s fun H2 s2 => ?_
    exact s_ret (ev_lst ea_nil (Nat.le_of_ble_eq_true rfl)) s2 rt
  | keep i a b =>
    refine q_gt (et_is (et_or (b := false) (et_T (ev_op (ev_op (ev_var (i := 0) rfl) ev_int (by first | exact od_ixt rfl | exact od_ixl rfl)) (ev_tup (ea_cons ev_str (ea_cons ev_str ea_nil)) (Nat.le_of_ble_eq_true rfl)) (od_niSt ["move", "swap"]))) fun z => absurd z (by decide +kernel)) (by decide +kernel)) s fun H2 s2 => ?_
    exact s_ret (ev_lst ea_nil (Nat.le_of_ble_eq_true rfl)) s2 rt
  | add i f =>
    refine q_gt (et_is (et_or (b := false) (et_T (ev_op (ev_op (ev_var (i := 0) rfl) ev_int (by first | exact od_ixt rfl | exact od_ixl rfl)) (ev_tup (ea_cons ev_str (ea_cons ev_str ea_nil)) (Nat.le_of_ble_eq_true rfl)) (od_niSt ["move", "swap"]))) fun z => absurd z (by decide +kernel)) (by decide +kernel)) s fun H2 s2 => ?_
    exact s_ret (ev_lst ea_nil (Nat.le_of_ble_eq_true rfl)) s2 rt
def F_emptied : List Dt → Dt → Prop := fun ds d => ∃ (x : Deed), ds = [deedD x] ∧ d = natsD (emptied x)
theorem len_emptied {ds : List Dt} {d : Dt} (h : F_emptied ds d) : ds.length = 1 := by
  obtain ⟨x, rfl, _⟩ := h; rfl
theorem sc_emptied : FnScope ["deed"] ["deed"] (defScope s_emptied) := ⟨rfl, rfl, rfl, by decide +kernel, rfl, by decide +kernel, by decide +kernel⟩
theorem has_emptied (T : Bt mg) (D : Dfn K mg "emptied" s_emptied) : Has P w K mg base (k + 1) "emptied" ["deed"] (spP F_emptied) := by
  have nd := (sc_emptied).nd
  refine D.hasP sc_emptied (fun _ _ _ _ _ _ us hl => match us, hl with | [_], _ => rfl) ?_ (fun f cdv A outer s H E hr => ?_)
  · intro ds d h
    exact len_emptied h
  have hu := hu_of hr
  refine ⟨_, (pss_cons (ps_if (pt_cmpR op_eq (pe_ix (k_ix (K := K) rfl) (pv 0) pe_int (fun _ _ => rfl)) pe_str (nomark _)) (pss_one (ps_ret (pe_ifExp (pt_cmpR op_eq (pe_ix (k_ix (K := K) rfl) (pe_ix (k_ix (K := K) rfl) (pv 0) pe_int (fun _ _ => rfl)) pe_int (fun _ _ => rfl)) pe_int (nomark _)) (pe_lst (pa_cons (pe_ix (k_ix (K := K) rfl) (pv 0) pe_int (fun _ _ => rfl)) pa_nil)) (pe_lst pa_nil)))) pss_nil)
    (pss_cons (ps_if (PW.pt (pw_or (pt_cmpR op_eq (pe_ix (k_ix (K := K) rfl) (pv 0) pe_int (fun _ _ => rfl)) pe_str (nomark _)) (pw_or1 (pt_cmpR (k_neD (K := K) rfl hr.units) (pe_ix (k_ix (K := K) rfl) (pv 0) (pe_un un_neg pe_int) (fun _ _ => rfl)) (pe_tup (pa_cons pe_int (pa_cons pe_int pa_nil))) (nomark _))))) (pss_one (ps_ret (pe_lst pa_nil))) pss_nil)
    (pss_cons (ps_if (pt_cmpR op_eq (pe_ix (k_ix (K := K) rfl) (pv 0) pe_int (fun _ _ => rfl)) pe_str (nomark _)) (pss_one (ps_ret (pe_lst (pa_cons (pe_ix (k_ix (K := K) rfl) (pv 0) pe_int (fun _ _ => rfl)) (pa_cons (pe_ix (k_ix (K := K) rfl) (pv 0) pe_int (fun _ _ => rfl)) pa_nil))))) pss_nil)
    (pss_one (ps_ret (pe_lst (pa_cons (pe_ix (k_ix (K := K) rfl) (pv 0) pe_int (fun _ _ => rfl)) pa_nil))))))), ?_⟩
  rintro ds d ⟨x, rfl, rfl⟩ ps σ D s rt nx
  cases x with
  | move i j a b =>
    refine q_gd (et_is (et_T (ev_op (ev_op (ev_var (i := 0) rfl) ev_int (by first | exact od_ixt rfl | exact od_ixl rfl)) ev_str (by first | exact od_eqI | exact od_eqS | exact od_eqB))) (by decide +kernel)) s fun H1 s1 => ?_
    by_cases h0 : a = 1 ∧ b = 1
    · refine q_gd (et_is (et_or (et_T (ev_op (ev_op (ev_var (i := 0) rfl) ev_int (by first | exact od_ixt rfl | exact od_ixl rfl)) ev_str (by first | exact od_eqI | exact od_eqS | exact od_eqB))) fun _ => et_T (ev_op (ev_op (ev_var (i := 0) rfl) (ev_un ev_int un_negD) (od_ixt (d := fr a b) rfl)) (ev_tup (ea_cons ev_int (ea_cons ev_int ea_nil)) (Nat.le_of_ble_eq_true rfl)) (ne_11 (a := a) (b := b)))) (by rw [decide_eq_true h0.1, decide_eq_true h0.2]; decide +kernel)) s1 fun H2 s2 => ?_
      simp only [emptied, if_pos h0] at rt
      refine q_gd (et_is (et_T (ev_op (ev_op (ev_var (i := 0) rfl) ev_int (by first | exact od_ixt rfl | exact od_ixl rfl)) ev_str (by first | exact od_eqI | exact od_eqS | exact od_eqB))) (by decide +kernel)) s2 fun H3 s3 => ?_
      exact s_ret (ev_lst (ea_cons (ev_op (ev_var (i := 0) rfl) ev_int (by first | exact od_ixt rfl | exact od_ixl rfl)) ea_nil) (Nat.le_of_ble_eq_true rfl)) s3 rt
    · refine q_gt (et_is (et_or (et_T (ev_op (ev_op (ev_var (i := 0) rfl) ev_int (by first | exact od_ixt rfl | exact od_ixl rfl)) ev_str (by first | exact od_eqI | exact od_eqS | exact od_eqB))) fun _ => et_T (ev_op (ev_op (ev_var (i := 0) rfl) (ev_un ev_int un_negD) (od_ixt (d := fr a b) rfl)) (ev_tup (ea_cons ev_int (ea_cons ev_int ea_nil)) (Nat.le_of_ble_eq_true rfl)) (ne_11 (a := a) (b := b)))) (by rw [Bool.or_eq_true]; right; simp; omega)) s1 fun H2 s2 => ?_
      simp only [emptied, if_neg h0] at rt
      exact s_ret (ev_lst ea_nil (Nat.le_of_ble_eq_true rfl)) s2 rt
  | swap i j a b =>
    refine q_gd (et_is (et_T (ev_op (ev_op (ev_var (i := 0) rfl) ev_int (by first | exact od_ixt rfl | exact od_ixl rfl)) ev_str (by first | exact od_eqI | exact od_eqS | exact od_eqB))) (by decide +kernel)) s fun H1 s1 => ?_
    by_cases h0 : a = 1 ∧ b = 1
    · refine q_gd (et_is (et_or (et_T (ev_op (ev_op (ev_var (i := 0) rfl) ev_int (by first | exact od_ixt rfl | exact od_ixl rfl)) ev_str (by first | exact od_eqI | exact od_eqS | exact od_eqB))) fun _ => et_T (ev_op (ev_op (ev_var (i := 0) rfl) (ev_un ev_int un_negD) (od_ixt (d := fr a b) rfl)) (ev_tup (ea_cons ev_int (ea_cons ev_int ea_nil)) (Nat.le_of_ble_eq_true rfl)) (ne_11 (a := a) (b := b)))) (by rw [decide_eq_true h0.1, decide_eq_true h0.2]; decide +kernel)) s1 fun H2 s2 => ?_
      simp only [emptied, if_pos h0] at rt
      refine q_gt (et_is (et_T (ev_op (ev_op (ev_var (i := 0) rfl) ev_int (by first | exact od_ixt rfl | exact od_ixl rfl)) ev_str (by first | exact od_eqI | exact od_eqS | exact od_eqB))) (by decide +kernel)) s2 fun H3 s3 => ?_
      exact s_ret (ev_lst (ea_cons (ev_op (ev_var (i := 0) rfl) ev_int (by first | exact od_ixt rfl | exact od_ixl rfl)) (ea_cons (ev_op (ev_var (i := 0) rfl) ev_int (by first | exact od_ixt rfl | exact od_ixl rfl)) ea_nil)) (Nat.le_of_ble_eq_true rfl)) s3 rt
    · refine q_gt (et_is (et_or (et_T (ev_op (ev_op (ev_var (i := 0) rfl) ev_int (by first | exact od_ixt rfl | exact od_ixl rfl)) ev_str (by first | exact od_eqI | exact od_eqS | exact od_eqB))) fun _ => et_T (ev_op (ev_op (ev_var (i := 0) rfl) (ev_un ev_int un_negD) (od_ixt (d := fr a b) rfl)) (ev_tup (ea_cons ev_int (ea_cons ev_int ea_nil)) (Nat.le_of_ble_eq_true rfl)) (ne_11 (a := a) (b := b)))) (by rw [Bool.or_eq_true]; right; simp; omega)) s1 fun H2 s2 => ?_
      simp only [emptied, if_neg h0] at rt
      exact s_ret (ev_lst ea_nil (Nat.le_of_ble_eq_true rfl)) s2 rt
  | draw i a b =>
    refine q_gd (et_is (et_T (ev_op (ev_op (ev_var (i := 0) rfl) ev_int (by first | exact od_ixt rfl | exact od_ixl rfl)) ev_str (by first | exact od_eqI | exact od_eqS | exact od_eqB))) (by decide +kernel)) s fun H1 s1 => ?_
    by_cases h0 : a = 1 ∧ b = 1
    · refine q_gd (et_is (et_or (et_T (ev_op (ev_op (ev_var (i := 0) rfl) ev_int (by first | exact od_ixt rfl | exact od_ixl rfl)) ev_str (by first | exact od_eqI | exact od_eqS | exact od_eqB))) fun _ => et_T (ev_op (ev_op (ev_var (i := 0) rfl) (ev_un ev_int un_negD) (od_ixt (d := fr a b) rfl)) (ev_tup (ea_cons ev_int (ea_cons ev_int ea_nil)) (Nat.le_of_ble_eq_true rfl)) (ne_11 (a := a) (b := b)))) (by rw [decide_eq_true h0.1, decide_eq_true h0.2]; decide +kernel)) s1 fun H2 s2 => ?_
      simp only [emptied, if_pos h0] at rt
      refine q_gd (et_is (et_T (ev_op (ev_op (ev_var (i := 0) rfl) ev_int (by first | exact od_ixt rfl | exact od_ixl rfl)) ev_str (by first | exact od_eqI | exact od_eqS | exact od_eqB))) (by decide +kernel)) s2 fun H3 s3 => ?_
      exact s_ret (ev_lst (ea_cons (ev_op (ev_var (i := 0) rfl) ev_int (by first | exact od_ixt rfl | exact od_ixl rfl)) ea_nil) (Nat.le_of_ble_eq_true rfl)) s3 rt
    · refine q_gt (et_is (et_or (et_T (ev_op (ev_op (ev_var (i := 0) rfl) ev_int (by first | exact od_ixt rfl | exact od_ixl rfl)) ev_str (by first | exact od_eqI | exact od_eqS | exact od_eqB))) fun _ => et_T (ev_op (ev_op (ev_var (i := 0) rfl) (ev_un ev_int un_negD) (od_ixt (d := fr a b) rfl)) (ev_tup (ea_cons ev_int (ea_cons ev_int ea_nil)) (Nat.le_of_ble_eq_true rfl)) (ne_11 (a := a) (b := b)))) (by rw [Bool.or_eq_true]; right; simp; omega)) s1 fun H2 s2 => ?_
      simp only [emptied, if_neg h0] at rt
      exact s_ret (ev_lst ea_nil (Nat.le_of_ble_eq_true rfl)) s2 rt
  | keep i a b =>
    refine q_gt (et_is (et_T (ev_op (ev_op (ev_var (i := 0) rfl) ev_int (by first | exact od_ixt rfl | exact od_ixl rfl)) ev_str (by first | exact od_eqI | exact od_eqS | exact od_eqB))) (by decide +kernel)) s fun H1 s1 => ?_
    by_cases h0 : a = 0
    · simp only [emptied, if_pos h0] at rt
      exact s_ret (ev_if (et_T (ev_op (ev_op (ev_op (ev_var (i := 0) rfl) ev_int (by first | exact od_ixt rfl | exact od_ixl rfl)) ev_int (by first | exact od_ixt rfl | exact od_ixl rfl)) ev_int (by first | exact od_eqI | exact od_eqS | exact od_eqB))) (fun _ => (ev_lst (ea_cons (ev_op (ev_var (i := 0) rfl) ev_int (by first | exact od_ixt rfl | exact od_ixl rfl)) ea_nil) (Nat.le_of_ble_eq_true rfl))) fun z => absurd h0 (of_decide_eq_false z)) s1 rt
    · simp only [emptied, if_neg h0] at rt
      exact s_ret (ev_if (et_T (ev_op (ev_op (ev_op (ev_var (i := 0) rfl) ev_int (by first | exact od_ixt rfl | exact od_ixl rfl)) ev_int (by first | exact od_ixt rfl | exact od_ixl rfl)) ev_int (by first | exact od_eqI | exact od_eqS | exact od_eqB))) (fun z => absurd (of_decide_eq_true z) h0) fun z => (ev_lst ea_nil (Nat.le_of_ble_eq_true rfl))) s1 rt
  | add i f =>
    refine q_gd (et_is (et_T (ev_op (ev_op (ev_var (i := 0) rfl) ev_int (by first | exact od_ixt rfl | exact od_ixl rfl)) ev_str (by first | exact od_eqI | exact od_eqS | exact od_eqB))) (by decide +kernel)) s fun H1 s1 => ?_
    refine q_gt (et_is (et_or (b := false) (et_T (ev_op (ev_op (ev_var (i := 0) rfl) ev_int (by first | exact od_ixt rfl | exact od_ixl rfl)) ev_str (by first | exact od_eqI | exact od_eqS | exact od_eqB))) fun z => absurd z (by decide +kernel)) (by decide +kernel)) s1 fun H2 s2 => ?_
    exact s_ret (ev_lst ea_nil (Nat.le_of_ble_eq_true rfl)) s2 rt
end
end Ck
namespace Ck
open PySem PySem.Spec L2
open PyProof.Rows hiding St

/-! ### sorted(set(list of ints)), the list longer -/
theorem setR_count {w : World} {h : Heap} {a : Addr} {ns zs : List Int} {n : Nat} (R : SetR w h a (fun j => decide (j ∈ ns)) n) (hz : zs.Pairwise (· < ·)) (hm : ∀ k, k ∈ zs ↔ k ∈ ns) : n = zs.length := by
  obtain ⟨o, es, ep, t, _, _, _, _, nd, hS, _, _, hn, _⟩ := R
  have hzn : zs.Nodup := hz.imp fun {x y} (h : x < y) => by omega
  have hp : (es.toList.map keyOf).Perm zs := (List.perm_ext_iff_of_nodup nd hzn).mpr fun k => by
    rw [← hS k, hm k, decide_eq_true_eq]
  have := hp.length_eq
  rw [List.length_map, Array.length_toList] at this
  omega
def rSetOfLZ (K : PySem.W.Frag) (w : World) : List V → Hp → VK → Prop := fun xs H Q => ∃ (l : Addr) (ns zs : List Int), xs = [V.ref l] ∧ SqL K H l (ns.map V.int) ∧ ns.length ≤ 1000 ∧ zs.Pairwise (· < ·) ∧ (∀ k, k ∈ zs ↔ k ∈ ns) ∧
  ∀ (a : Addr), H a = none → Q (.ref a) (upd H a (SetO w a (fun j => decide (j ∈ ns)) zs.length))
theorem cr_setOfLZ {X : Cx} (hc : X.calm = true) : CallR X (.type "set") (rSetOfLZ X.K X.w) := by
  intro pins s σ H xs us Q I r h
  obtain ⟨l, ns, zs, rfl, hl, hn, pz, hm, q⟩ := h
  rw [Vals.ref1 r]
  obtain ⟨its, rv, pl, hz⟩ := I.list hl
  refine setL_call (P := X.prog) (w := X.w) ns (I.ok.hd hc) pl.isList (by simpa using rv.ints) (by unfold scanBound; omega) fun h' tk c R hc k => ?_
  have e := setR_count R pz hm
  subst e
  exact ⟨.ref s.heap.objs.size, _, I.laid (t' := tk) k (Nat.le_refl _) (setO_new R), rfl, q _ (I.hok.fresh (Nat.le_refl _))⟩
theorem k_setOfLZ {X : Cx} {K : PySem.W.Frag} {w : World} (hK : X.K = K) (hw : X.w = w) (hc : X.calm = true) : CallR X (.type "set") (rSetOfLZ K w) := by subst hK; subst hw; exact cr_setOfLZ hc
theorem ev_sortsetZ {K : PySem.W.Frag} {w : World} {ρ : List (Option Dt)} {te : TE} {ns zs : List Int} (h : EvP te ρ (.lst (ns.map Dt.int))) (hl : ns.length ≤ 1000) (hz : zs.Pairwise (· < ·)) (hm : ∀ k, k ∈ zs ↔ k ∈ ns) (h64 : zs.length < 64) :
    EvP (tCB (rSortedSet w) (tCons (tCB (rSetOfLZ K w) (tCons te tNil)) tNil)) ρ (.lst (zs.map Dt.int)) := by
  intro ps H σ l s Q q
  refine h ps H σ l s _ fun v H1 e1 r1 => ?_
  cases r1 with
  | lst ha r =>
    rw [r.ints] at ha
    refine ⟨_, ns, zs, rfl, .of (hid_some ha).1, hl, hz, hm, fun a hn => ?_⟩
    refine ⟨a, _, zs.length, rfl, upd_same, h64, fun ns' p pw mem _ hp => ?_⟩
    have e : ns' = zs := strict_one pw hz fun k => by rw [mem, hm]; simp
    rw [e]
    have lp : Lv ps (upd H1 a (SetO w a (fun j => decide (j ∈ ns)) zs.length)) := (l.ex e1).ex (.new hn)
    exact q _ _ (e1.trans ((Ex.new hn).trans (.new hp))) (.lst (hid_mk upd_same (lp.new hp)) (RA.of_ints zs))

/-! ### rising lists -/
theorem mem_put {x y : Int} : ∀ {l : List Int}, y ∈ put x l ↔ y = x ∨ y ∈ l
  | [] => by simp [put]
  | z :: l => by
    unfold put
    split
    · simp
    · split
      · rename_i h; subst h; simp
      · rw [List.mem_cons, mem_put, List.mem_cons]
        constructor
        · rintro (h | h | h) <;> simp [h]
        · rintro (h | h | h) <;> simp [h]
theorem put_up {x : Int} : ∀ {l : List Int}, l.Pairwise (· < ·) → (put x l).Pairwise (· < ·)
  | [], _ => by simp [put]
  | z :: l, h => by
    have hz := List.pairwise_cons.mp h
    unfold put
    split
    · rename_i hx
      refine List.pairwise_cons.mpr ⟨fun y hy => ?_, h⟩
      rcases List.mem_cons.mp hy with e | hy
      · omega
      · have := hz.1 y hy; omega
    · split
      · exact h
      · refine List.pairwise_cons.mpr ⟨fun y hy => ?_, put_up hz.2⟩
        rcases mem_put.mp hy with e | hy
        · omega
        · exact hz.1 y hy
theorem mem_srt {y : Int} : ∀ {l : List Int}, y ∈ srt l ↔ y ∈ l
  | [] => by simp [srt]
  | x :: l => by
    show y ∈ put x (srt l) ↔ _
    rw [mem_put, mem_srt, List.mem_cons]
theorem srt_up : ∀ {l : List Int}, (srt l).Pairwise (· < ·)
  | [] => .nil
  | x :: l => put_up srt_up
/-- a rising list between bounds is short -/
theorem up_len {lo hi : Int} : ∀ {l : List Int}, l.Pairwise (· < ·) → (∀ x ∈ l, lo ≤ x ∧ x < hi) → (l.length : Int) ≤ max 0 (hi - lo)
  | [], _, _ => by simp; omega
  | x :: l, h, b => by
    have hz := List.pairwise_cons.mp h
    have bx := b x List.mem_cons_self
    have := up_len (lo := x + 1) (hi := hi) hz.2 fun y hy => ⟨by have := hz.1 y hy; omega, (b y (List.mem_cons_of_mem _ hy)).2⟩
    rw [List.length_cons]
    omega
end Ck
namespace Ck
open PySem PySem.Spec L2
open PyProof.Rows hiding St

/-! ### a new list -/
def EvL (te : TE) (ρ : List (Option Dt)) (ds : List Dt) : Prop := ∀ (ps : List Addr) (H : Hp) (σ : St), Lv ps H → Sl (hid ps H) σ ρ → ∀ Q : VK,
  (∀ (D : Addr) (H' : Hp) (vs : List V), H D = none → Ex H H' → H' D = some (.lst vs) → RA (hid (D :: ps) H') vs ds → Q (.ref D) H') → te σ H Q
theorem EvL.ev {te : TE} {ρ : List (Option Dt)} {ds : List Dt} (h : EvL te ρ ds) : EvP te ρ (.lst ds) := fun ps H σ l s Q q => h ps H σ l s Q fun D H' vs hD e hx r =>
  q _ H' e (.lst (hid_mk hx (l.new hD)) (r.ex (hid_sub _ fun a h => List.mem_cons_of_mem _ h)))
theorem EvL.is {te : TE} {ρ : List (Option Dt)} {ds es : List Dt} (h : EvL te ρ ds) (e : ds = es) : EvL te ρ es := e ▸ h
section
variable {ρ : List (Option Dt)} {ds es : List Dt} {te : TE} {ta : TA} {K : PySem.W.Frag}
theorem el_lst (h : EvA ta ρ ds) (hl : ds.length ≤ 100000) : EvL (tLst ta) ρ ds := fun ps H σ l s Q q =>
  h ps H σ l s _ fun vs H1 e1 r1 => ⟨by rw [r1.length, sizeLine_eq]; omega, fun p hp => by
    have hn : p ∉ ps := (l.ex e1).new hp
    have hx : Ex H1 (upd H1 p (.lst vs)) := .new hp
    have hp0 : H p = none := by
      cases c : H p with
      | none => rfl
      | some o => rw [e1 _ _ c] at hp; cases hp
    refine q p _ vs hp0 (e1.trans hx) upd_same (r1.ex fun a o h => ?_)
    obtain ⟨h, c⟩ := hid_some h
    refine hid_mk (hx _ _ h) fun z => ?_
    rcases List.mem_cons.mp z with z | z
    · subst z; rw [hp] at h; cases h
    · exact c z⟩
theorem el_list {ns : List Int} (h : EvP te ρ (.lst (ns.map Dt.int))) : EvL (tCB (fun xs H Q => ∃ p ys, xs = [V.ref p] ∧ (SqL K H p ys ∨ SqT K H p ys) ∧ ∀ l, H l = none → Q (.ref l) (upd H l (.lst ys))) (tCons te tNil)) ρ (ns.map Dt.int) := fun ps H σ l s Q q =>
  h ps H σ l s _ fun v H1 e1 r1 => by
    cases r1 with
    | lst ha r =>
      rw [r.ints] at ha
      refine ⟨_, _, rfl, .inl (.of (hid_some ha).1), fun p hp => ?_⟩
      have hp0 : H p = none := by
        cases c : H p with
        | none => rfl
        | some o => rw [e1 _ _ c] at hp; cases hp
      exact q p _ _ hp0 (e1.trans (.new hp)) upd_same (RA.of_ints ns)
theorem el_sortset {w : World} {ns zs : List Int} (h : EvP te ρ (.lst (ns.map Dt.int))) (hl : ns.length ≤ 1000) (hz : zs.Pairwise (· < ·)) (hm : ∀ k, k ∈ zs ↔ k ∈ ns) (h64 : zs.length < 64) :
    EvL (tCB (rSortedSet w) (tCons (tCB (rSetOfLZ K w) (tCons te tNil)) tNil)) ρ (zs.map Dt.int) := by
  intro ps H σ l s Q q
  refine h ps H σ l s _ fun v H1 e1 r1 => ?_
  cases r1 with
  | lst ha r =>
    rw [r.ints] at ha
    refine ⟨_, ns, zs, rfl, .of (hid_some ha).1, hl, hz, hm, fun a hn => ?_⟩
    refine ⟨a, _, zs.length, rfl, upd_same, h64, fun ns' p pw mem _ hp => ?_⟩
    have e : ns' = zs := strict_one pw hz fun k => by rw [mem, hm]; simp
    rw [e]
    have ee := (e1.trans ((Ex.new hn).trans (.new hp : Ex _ (upd (upd H1 a (SetO w a (fun j => decide (j ∈ ns)) zs.length)) p (.lst (zs.map V.int))))))
    have hp0 : H p = none := by
      cases c : H p with
      | none => rfl
      | some o => rw [(e1.trans (.new hn)) _ _ c] at hp; cases hp
    exact q p _ _ hp0 ee upd_same (RA.of_ints zs)
end
theorem none_of {H H' : Hp} {p : Addr} (e : Ex H H') (h : H' p = none) : H p = none := by
  cases c : H p with
  | none => rfl
  | some o => rw [e _ _ c] at h; cases h
theorem el_lc {ρ : List (Option Dt)} {wi : TI} {g : TG} {tt : TT} {te : TE} {vs js : List Nat} {α : Type} (xs : List α) (emb : α → Dt) (fb : α → Bool) (fe : α → Dt) (ρf : α → List (Option Dt))
    (hi : EvI wi ρ (xs.map emb)) (hjs : ∀ j ∈ js, j ∈ vs) (hg : ∀ x ∈ xs, TgD g js (wipeD ρ vs) (emb x) (ρf x)) (ht : ∀ x ∈ xs, EvT tt (ρf x) (fb x)) (he : ∀ x ∈ xs, fb x = true → EvP te (ρf x) (fe x)) (hl : xs.length ≤ 100000) :
    EvL (tLc wi g tt te vs) ρ ((xs.filter fb).map fe) := by
  intro ps H σ l s Q q
  refine hi ps H σ l s _ fun J H1 e1 ok D hD => ?_
  have l1 : Lv ps H1 := l.ex e1
  have s1 : Sl (hid ps H1) σ ρ := s.ex (hid_mono e1)
  refine ⟨fun i m H' => i + m = xs.length ∧ ∃ acc, H' D = some (.lst acc) ∧ RA (hid (D :: ps) H') acc (((xs.take i).filter fb).map fe) ∧ Ex H1 (hid [D] H'), ⟨xs.length, by omega, [], upd_same, .nil, ?_⟩, ?_⟩
  · rw [hid_one_upd]
    exact fun a o h => hid_mk h (by simpa using ne_of_none h hD)
  · rintro i m H' ⟨him, acc, hacc, hr, hx⟩
    have lD : Lv (D :: ps) H' := l1.cons hx hacc
    have eG : Ex (hid ps H1) (hid (D :: ps) H') := hid_cons_ex hx
    obtain ⟨hgo, hstop, hy⟩ := ok (D :: ps) H' lD eG
    rw [List.length_map] at hgo hstop
    by_cases hi : i < xs.length
    · refine .inr ⟨hgo i hi, fun H'' => i + 1 + (m - 1) = xs.length ∧ ∃ acc, H'' D = some (.lst acc) ∧ RA (hid (D :: ps) H'') acc (((xs.take (i + 1)).filter fb).map fe) ∧ Ex H1 (hid [D] H''), fun H'' h => ⟨m - 1, by omega, h⟩, fun v H2 y => ?_⟩
      have hxi : xs[i]? = some xs[i] := List.getElem?_eq_getElem hi
      have hmem : xs[i] ∈ xs := List.getElem_mem hi
      obtain ⟨e2, rv⟩ := hy i v H2 (emb xs[i]) (by rw [List.getElem?_map, hxi]; rfl) y
      have lD2 : Lv (D :: ps) H2 := lD.ex e2
      have sW : Sl (hid (D :: ps) H2) (wipe σ vs) (wipeD ρ vs) := ((s1.ex eG).ex (hid_mono e2)).wipe vs
      refine hg _ hmem (D :: ps) H2 (wipe σ vs) v lD2 sW rv _ fun σ' s' hw => ⟨?_, ?_⟩
      · rw [hw vs hjs, wipe_wipe vs vs fun _ h => h]
      · have hx2 : Ex H1 (hid [D] H2) := hx.trans (hid_mono e2)
        refine ht _ hmem (D :: ps) H2 σ' lD2 s' _ fun H3 e3 => ?_
        have ea : (xs.take (i + 1)).filter fb = (xs.take i).filter fb ++ (if fb xs[i] = true then [xs[i]] else []) := by
          rw [List.take_add_one, hxi, List.filter_append]
          congr 1
          cases c : fb xs[i] <;> simp [c]
        cases c : fb xs[i] with
        | true =>
          rw [if_pos rfl]
          refine he _ hmem c (D :: ps) H3 σ' (lD2.ex e3) (s'.ex (hid_mono e3)) _ fun y H4 e4 r4 => ?_
          have hacc4 : H4 D = some (.lst acc) := e4 _ _ (e3 _ _ (e2 _ _ hacc))
          have hr4 : RA (hid (D :: ps) H4) acc _ := hr.ex (hid_mono ((e2.trans e3).trans e4))
          refine ⟨acc, hacc4, ?_, by omega, acc ++ [y], upd_same, ?_, ?_⟩
          · rw [hr.length, List.length_map, sizeLine_eq]
            have h1 := List.length_filter_le fb (xs.take i)
            have h2 := List.length_take_le i xs
            omega
          · rw [hid_upd (by simp), ea, if_pos c, List.map_append]
            exact hr4.append (.one r4)
          · rw [hid_one_upd]
            exact hx2.trans (hid_mono (e3.trans e4))
        | false =>
          rw [if_neg Bool.false_ne_true]
          refine ⟨by omega, acc, e3 _ _ (e2 _ _ hacc), ?_, hx2.trans (hid_mono e3)⟩
          rw [ea, if_neg (by rw [c]; exact Bool.false_ne_true), List.append_nil]
          exact hr.ex (hid_mono (e2.trans e3))
    · have hn : i = xs.length := by omega
      subst hn
      rw [List.take_length] at hr
      exact .inl ⟨hstop, q D _ acc (none_of e1 hD) (e1.trans (hx.trans (hid_ex _ _))) hacc hr⟩
theorem el_lc0 {ρ : List (Option Dt)} {wi : TI} {g : TG} {te : TE} {vs js : List Nat} {α : Type} (xs : List α) (emb : α → Dt) (fe : α → Dt) (ρf : α → List (Option Dt))
    (hi : EvI wi ρ (xs.map emb)) (hjs : ∀ j ∈ js, j ∈ vs) (hg : ∀ x ∈ xs, TgD g js (wipeD ρ vs) (emb x) (ρf x)) (he : ∀ x ∈ xs, EvP te (ρf x) (fe x)) (hl : xs.length ≤ 100000) :
    EvL (tLc wi g tYes te vs) ρ (xs.map fe) := by
  have h := el_lc (tt := tYes) (te := te) xs emb (fun _ => true) fe ρf hi hjs hg (fun _ _ => et_yes) (fun x hx _ => he x hx) hl
  rw [show xs.filter (fun _ => true) = xs from List.filter_eq_self.mpr fun _ _ => rfl] at h
  exact h
/-- a list of new lists of ints -/
theorem el_lcF {ρ : List (Option Dt)} {wi : TI} {g : TG} {te : TE} {vs js : List Nat} {α : Type} (xs : List α) (emb : α → Dt) (fe : α → List Int) (ρf : α → List (Option Dt))
    (hi : EvI wi ρ (xs.map emb)) (hjs : ∀ j ∈ js, j ∈ vs) (hg : ∀ x ∈ xs, TgD g js (wipeD ρ vs) (emb x) (ρf x)) (he : ∀ x ∈ xs, EvL te (ρf x) ((fe x).map Dt.int)) (hl : xs.length ≤ 100000)
    {ps : List Addr} {H : Hp} {σ : St} {Q : VK} (l : Lv ps H) (s : Sl (hid ps H) σ ρ)
    (q : ∀ (D : Addr) (H' : Hp) (qs : List (Addr × List Int)), H D = none → Ex H H' → H' D = some (.lst (qs.map fun p => V.ref p.1)) → qs.map (·.2) = xs.map fe → (∀ p ∈ qs, H p.1 = none ∧ H' p.1 = some (.lst (p.2.map V.int))) → (D :: qs.map (·.1)).Nodup → Q (.ref D) H') : tLc wi g tYes te vs σ H Q := by
  refine hi ps H σ l s _ fun J H1 e1 ok D hD => ?_
  have l1 : Lv ps H1 := l.ex e1
  have s1 : Sl (hid ps H1) σ ρ := s.ex (hid_mono e1)
  refine ⟨fun i m H' => i + m = xs.length ∧ ∃ qs : List (Addr × List Int), H' D = some (.lst (qs.map fun p => V.ref p.1)) ∧ qs.map (·.2) = (xs.take i).map fe ∧ (∀ p ∈ qs, H1 p.1 = none ∧ H' p.1 = some (.lst (p.2.map V.int))) ∧ (D :: qs.map (·.1)).Nodup ∧ Ex H1 (hid [D] H'), ⟨xs.length, by omega, [], upd_same, rfl, (fun p h => nomatch h), by simp, ?_⟩, ?_⟩
  · rw [hid_one_upd]
    exact fun a o h => hid_mk h (by simpa using ne_of_none h hD)
  · rintro i m H' ⟨him, qs, hacc, hr, hq, nd, hx⟩
    have lD : Lv (D :: ps) H' := l1.cons hx hacc
    have eG : Ex (hid ps H1) (hid (D :: ps) H') := hid_cons_ex hx
    obtain ⟨hgo, hstop, hy⟩ := ok (D :: ps) H' lD eG
    rw [List.length_map] at hgo hstop
    by_cases hi : i < xs.length
    · refine .inr ⟨hgo i hi, fun H'' => i + 1 + (m - 1) = xs.length ∧ ∃ qs : List (Addr × List Int), H'' D = some (.lst (qs.map fun p => V.ref p.1)) ∧ qs.map (·.2) = (xs.take (i + 1)).map fe ∧ (∀ p ∈ qs, H1 p.1 = none ∧ H'' p.1 = some (.lst (p.2.map V.int))) ∧ (D :: qs.map (·.1)).Nodup ∧ Ex H1 (hid [D] H''), fun H'' h => ⟨m - 1, by omega, h⟩, fun v H2 y => ?_⟩
      have hxi : xs[i]? = some xs[i] := List.getElem?_eq_getElem hi
      have hmem : xs[i] ∈ xs := List.getElem_mem hi
      obtain ⟨e2, rv⟩ := hy i v H2 (emb xs[i]) (by rw [List.getElem?_map, hxi]; rfl) y
      have lD2 : Lv (D :: ps) H2 := lD.ex e2
      have sW : Sl (hid (D :: ps) H2) (wipe σ vs) (wipeD ρ vs) := ((s1.ex eG).ex (hid_mono e2)).wipe vs
      refine hg _ hmem (D :: ps) H2 (wipe σ vs) v lD2 sW rv _ fun σ' s' hw => ⟨?_, ?_⟩
      · rw [hw vs hjs, wipe_wipe vs vs fun _ h => h]
      · have hx2 : Ex H1 (hid [D] H2) := hx.trans (hid_mono e2)
        refine et_yes (ρ := ρf xs[i]) (D :: ps) H2 σ' lD2 s' _ fun H3 e3 => ?_
        rw [if_pos rfl]
        refine he _ hmem (D :: ps) H3 σ' (lD2.ex e3) (s'.ex (hid_mono e3)) _ fun y H4 ws hy3 e34 hy' r4 => ?_
        have hy4 : H2 y = none := none_of e3 hy3
        have e4 : Ex H2 H4 := e3.trans e34
        have hacc4 : H4 D = some (.lst (qs.map fun p => V.ref p.1)) := e4 _ _ (e2 _ _ hacc)
        rw [r4.ints] at hy'
        have hyD : y ≠ D := fun z => by rw [z, e2 _ _ hacc] at hy4; cases hy4
        have hlen : qs.length = i := by
          have := congrArg List.length hr
          rw [List.length_map, List.length_map, List.length_take] at this
          omega
        refine ⟨qs.map fun p => V.ref p.1, hacc4, ?_, by omega, qs ++ [(y, fe xs[i])], ?_, ?_, ?_, ?_, ?_⟩
        · rw [List.length_map, hlen, sizeLine_eq]; omega
        · rw [upd_same, List.map_append]; rfl
        · rw [List.map_append, hr, List.take_add_one, hxi, List.map_append]; rfl
        · intro p hp
          rcases List.mem_append.mp hp with hp | hp
          · obtain ⟨h1, h2⟩ := hq p hp
            have ne : p.1 ≠ D := fun z => (List.nodup_cons.mp nd).1 (z ▸ List.mem_map.mpr ⟨p, hp, rfl⟩)
            exact ⟨h1, by rw [upd_ne ne]; exact e4 _ _ (e2 _ _ h2)⟩
          · rw [List.mem_singleton] at hp
            subst hp
            refine ⟨?_, by rw [upd_ne hyD]; exact hy'⟩
            cases c : H1 y with
            | none => rfl
            | some o => rw [(hid_some (hx2 _ _ c)).1] at hy4; cases hy4
        · have hyq : y ∉ qs.map (·.1) := fun z => by
            obtain ⟨p, hp, e⟩ := List.mem_map.mp z
            have := e2 _ _ (hq p hp).2
            rw [e, hy4] at this
            cases this
          rw [List.map_append, ← List.cons_append]
          refine List.nodup_append.mpr ⟨nd, by simp, fun a ha b hb => ?_⟩
          rw [List.map_cons, List.map_nil, List.mem_singleton] at hb
          subst hb
          rcases List.mem_cons.mp ha with z | z
          · subst z; exact Ne.symm hyD
          · exact fun e => hyq (e ▸ z)
        · rw [hid_one_upd]
          exact hx2.trans (hid_mono e4)
    · have hn : i = xs.length := by omega
      subst hn
      rw [List.take_length] at hr
      exact .inl ⟨hstop, q D _ qs (none_of e1 hD) (e1.trans (hx.trans (hid_ex _ _))) hacc hr (fun p hp => ⟨none_of e1 (hq p hp).1, (hq p hp).2⟩) nd⟩

/-! ### statements with new lists -/
theorem RA.setv {G : Hp} : ∀ {vs : List V} {ds : List Dt} {i : Nat} {v : V} {d : Dt}, RA G vs ds → R G v d → RA G (vs.set i v) (ds.set i d)
  | _, _, _, _, _, .nil, _ => .nil
  | _, _, 0, _, _, .cons _ t, q => .cons q t
  | _, _, _ + 1, _, _, .cons r t, q => .cons r (RA.setv t q)
section
variable {ps : List Addr} {H0 H1 H H' : Hp} {os os' : Os} {σ σ' : St} {ρ ρ' : List (Option Dt)} {d : Dt} {D : Ends} {u : TS}
/-- a new list of one's own -/
theorem S.evl (s : S ps H0 os H σ ρ) {te : TE} {ds : List Dt} (h : EvL te ρ ds) {Q : VK} {pre post : Os} (ho : os = pre ++ post) (q : ∀ p H', H p = none → Ex H H' → S ps H0 (pre ++ (p, .lst ds) :: post) H' σ ρ → Q (.ref p) H') : te σ H Q := by
  have sl := s.sl
  rw [vw_eq] at sl
  refine h (ps ++ ks os) H σ s.lv sl Q fun p H' vs hp e hv r => q p H' hp e ?_
  subst ho
  have s' := s.ex e
  have np : p ∉ ps ++ ks (pre ++ post) := s.lv.new hp
  have np1 : p ∉ ps := fun h => np (List.mem_append_left _ h)
  have np2 : p ∉ ks (pre ++ post) := fun h => np (List.mem_append_right _ h)
  have hk : ∀ a, a ∈ ks (pre ++ (p, Oc.lst ds) :: post) ↔ a = p ∨ a ∈ ks (pre ++ post) := fun a => by
    unfold ks
    rw [List.map_append, List.map_append, List.map_cons, List.mem_append, List.mem_append, List.mem_cons]
    constructor
    · rintro (h | h | h)
      · exact .inr (.inl h)
      · exact .inl h
      · exact .inr (.inr h)
    · rintro (h | h | h)
      · exact .inr (.inl h)
      · exact .inl h
      · exact .inr (.inr h)
  have e1 : Ex (hid (ks (pre ++ post)) H) (hid (ks (pre ++ (p, Oc.lst ds) :: post)) H') := fun a u h => by
    obtain ⟨h, hn⟩ := hid_some h
    refine hid_mk (e _ _ h) fun z => ?_
    rcases (hk a).mp z with z | z
    · subst z; rw [hp] at h; cases h
    · exact hn z
  have eG : hid (p :: (ps ++ ks (pre ++ post))) H' = vw ps (pre ++ (p, Oc.lst ds) :: post) H' := by
    rw [vw_eq]
    refine hid_congr _ fun a => ?_
    rw [List.mem_cons, List.mem_append, List.mem_append, hk a]
    constructor
    · rintro (h | h | h)
      · exact .inr (.inl h)
      · exact .inl h
      · exact .inr (.inr h)
    · rintro (h | h | h)
      · exact .inr (.inl h)
      · exact .inl h
      · exact .inr (.inr h)
  refine ⟨s.live, s.base.trans e1, ?_, fun q c' h => ?_, s.sl.ex (hid_mono e1)⟩
  · have nd := s.nd
    unfold ks at nd np2 ⊢
    rw [List.map_append] at nd np2
    rw [List.map_append, List.map_cons, nd_mid, List.nodup_cons]
    exact ⟨np2, nd⟩
  · rw [List.mem_append, List.mem_cons] at h
    have old : (q, c') ∈ pre ++ post → c'.ok (vw ps (pre ++ (p, Oc.lst ds) :: post) H') H' q := fun h => by
      have hq := s.own q c' h
      obtain ⟨u, hu⟩ := hq.live
      exact hq.mono (hid_mono e1) (by rw [hu]; exact e _ _ hu)
    rcases h with h | h | h
    · exact old (List.mem_append_left _ h)
    · cases h
      exact ⟨vs, hv, by rw [← eG]; exact r⟩
    · exact old (List.mem_append_right _ h)
theorem q_ownE {pre post : Os} {te : TE} {ds : List Dt} {i : Nat} (h : EvL te ρ ds) (s : S ps H0 (pre ++ post) H σ ρ) (k : ∀ p σ' H', S ps H0 (pre ++ (p, .lst ds) :: post) H' σ' (ρ.set i (some (.adr p))) → u D σ' H') : tSeq (tAsg te (gName i)) u D σ H :=
  s.evl h rfl fun p H' hp e s' => k p _ _ (s'.set i (.adr p))
/-- as if a list of one's own could be read -/
theorem S.evlR {pre post : Os} {p : Addr} {ds : List Dt} {i : Nat} (s : S ps H0 (pre ++ (p, .lst ds) :: post) H σ ρ) (hi : ρ[i]? = some (some (.adr p))) {te : TE} {zs : List Int} (h : EvL te (ρ.set i (some (.lst ds))) (zs.map Dt.int)) {Q : VK}
    (q : ∀ v H', Ex H H' → S ps H0 (pre ++ (p, .lst ds) :: post) H' σ ρ → R (vw ps (pre ++ (p, .lst ds) :: post) H') v (intsD zs) → Q v H') : te σ H Q := by
  have s1 := s.freeze hi
  have sl := s1.sl
  rw [vw_eq] at sl
  refine h (ps ++ ks (pre ++ post)) H σ s1.lv sl Q fun a H' vs ha e hv r => q _ H' e (s.ex e) ?_
  rw [r.ints] at hv
  have nn : a ∉ ps ++ ks (pre ++ (p, Oc.lst ds) :: post) := s.lv.new ha
  rw [vw_eq]
  exact .lst (hid_mk hv nn) (RA.of_ints zs)
theorem s_setE {pre post : Os} {p : Addr} {ds : List Dt} {i : Nat} {te ta tb : TE} {zs : List Int} {k : Int} {j : Nat} (s : S ps H0 (pre ++ (p, .lst ds) :: post) H σ ρ) (hi : ρ[i]? = some (some (.adr p))) (h : EvL te (ρ.set i (some (.lst ds))) (zs.map Dt.int))
    (ha : EvP ta ρ (.adr p)) (hb : EvP tb ρ (.int k)) (hj : ixN ds.length k = some j) (kk : ∀ H', S ps H0 (pre ++ (p, .lst (ds.set j (intsD zs))) :: post) H' σ ρ → D.nx σ H') : tAsg te (gSub ta tb rSetL) D σ H := by
  refine s.evlR hi h fun v H1 e1 s1 rv => ?_
  refine s1.evp ha fun o H2 e2 s2 r2 => ?_
  refine s2.evp hb fun x H3 e3 s3 r3 => ?_
  cases r2
  cases r3
  obtain ⟨xs, a, r⟩ := s3.own p (.lst ds) (by simp)
  refine ⟨p, xs, k, j, rfl, rfl, a, by rw [r.length]; exact hj, kk _ (s3.write ⟨_, upd_same, ?_⟩)⟩
  have rv' := rv.ex (hid_mono (ps := ps) (hid_mono (ps := ks (pre ++ (p, Oc.lst ds) :: post)) (e2.trans e3)))
  exact r.setv rv'
end
end Ck
namespace Ck
open PySem PySem.Spec L2
open PyProof.Rows hiding St
section
variable {ps : List Addr} {H0 H1 H H' : Hp} {os os' : Os} {σ σ' : St} {ρ ρ' : List (Option Dt)} {d : Dt} {D : Ends} {u : TS}
theorem S.grow {pre post : Os} (s : S ps H0 (pre ++ post) H σ ρ) {p : Addr} {c : Oc} (hp : H p = none) (e : Ex H H') (hc : c.ok (vw ps (pre ++ (p, c) :: post) H') H' p) : S ps H0 (pre ++ (p, c) :: post) H' σ ρ := by
  have np : p ∉ ps ++ ks (pre ++ post) := s.lv.new hp
  have np1 : p ∉ ps := fun h => np (List.mem_append_left _ h)
  have np2 : p ∉ ks (pre ++ post) := fun h => np (List.mem_append_right _ h)
  have hk : ∀ a, a ∈ ks (pre ++ (p, c) :: post) ↔ a = p ∨ a ∈ ks (pre ++ post) := fun a => by
    unfold ks
    rw [List.map_append, List.map_append, List.map_cons, List.mem_append, List.mem_append, List.mem_cons]
    constructor
    · rintro (h | h | h)
      · exact .inr (.inl h)
      · exact .inl h
      · exact .inr (.inr h)
    · rintro (h | h | h)
      · exact .inr (.inl h)
      · exact .inl h
      · exact .inr (.inr h)
  have e1 : Ex (hid (ks (pre ++ post)) H) (hid (ks (pre ++ (p, c) :: post)) H') := fun a u h => by
    obtain ⟨h, hn⟩ := hid_some h
    refine hid_mk (e _ _ h) fun z => ?_
    rcases (hk a).mp z with z | z
    · subst z; rw [hp] at h; cases h
    · exact hn z
  refine ⟨s.live, s.base.trans e1, ?_, fun q c' h => ?_, s.sl.ex (hid_mono e1)⟩
  · have nd := s.nd
    unfold ks at nd np2 ⊢
    rw [List.map_append] at nd np2
    rw [List.map_append, List.map_cons, nd_mid, List.nodup_cons]
    exact ⟨np2, nd⟩
  · rw [List.mem_append, List.mem_cons] at h
    have old : (q, c') ∈ pre ++ post → c'.ok (vw ps (pre ++ (p, c) :: post) H') H' q := fun h => by
      have hq := s.own q c' h
      obtain ⟨u, hu⟩ := hq.live
      exact hq.mono (hid_mono e1) (by rw [hu]; exact e _ _ hu)
    rcases h with h | h | h
    · exact old (List.mem_append_left _ h)
    · cases h
      exact hc
    · exact old (List.mem_append_right _ h)
theorem RA.build {G : Hp} : ∀ {vs : List V} {ds : List Dt}, vs.length = ds.length → (∀ (i : Nat) (v : V) (d : Dt), vs[i]? = some v → ds[i]? = some d → R G v d) → RA G vs ds
  | [], [], _, _ => .nil
  | [], _ :: _, h, _ => by simp at h
  | _ :: _, [], h, _ => by simp at h
  | v :: vs, d :: ds, h, q => .cons (q 0 v d rfl rfl) (RA.build (by simpa using h) fun i v' d' h1 h2 => q (i + 1) v' d' (by simpa using h1) (by simpa using h2))
theorem mem_ks {pre post : Os} {p a : Addr} {c : Oc} : a ∈ ks (pre ++ (p, c) :: post) ↔ a = p ∨ a ∈ ks (pre ++ post) := by
  unfold ks
  rw [List.map_append, List.map_append, List.map_cons, List.mem_append, List.mem_append, List.mem_cons]
  constructor
  · rintro (h | h | h)
    · exact .inr (.inl h)
    · exact .inl h
    · exact .inr (.inr h)
  · rintro (h | h | h)
    · exact .inr (.inl h)
    · exact .inl h
    · exact .inr (.inr h)
/-- a list of new lists, of which one is kept as one's own -/
theorem q_ownF {wi : TI} {g : TG} {te : TE} {vs js : List Nat} {α : Type} {pre post : Os} {i : Nat} (xs : List α) (emb : α → Dt) (fe : α → List Int) (ρf : α → List (Option Dt))
    (hi : EvI wi ρ (xs.map emb)) (hjs : ∀ j ∈ js, j ∈ vs) (hg : ∀ x ∈ xs, TgD g js (wipeD ρ vs) (emb x) (ρf x)) (he : ∀ x ∈ xs, EvL te (ρf x) ((fe x).map Dt.int)) (hl : xs.length ≤ 100000)
    (s : S ps H0 (pre ++ post) H σ ρ) {k : Nat} {zs : List Int} (hk : (xs.map fe)[k]? = some zs)
    (kk : ∀ p σ' H', S ps H0 (pre ++ (p, .lst (zs.map Dt.int)) :: post) H' σ' (ρ.set i (some (.lst (((xs.map fe).map intsD).set k (.adr p))))) → u D σ' H') : tSeq (tAsg (tLc wi g tYes te vs) (gName i)) u D σ H := by
  have sl := s.sl
  rw [vw_eq] at sl
  refine (show tLc wi g tYes te vs σ H (fun v H1 => u D (σ.set i (some v)) H1) from ?_)
  refine el_lcF xs emb fe ρf hi hjs hg he hl s.lv sl fun Dd H' qs hD e hv hqs hq nd => ?_
  have hlen : qs.length = xs.length := by
    have := congrArg List.length hqs
    rwa [List.length_map, List.length_map] at this
  rw [← hqs, List.getElem?_map] at hk
  obtain ⟨⟨p, zs'⟩, hp, ez⟩ := Option.map_eq_some_iff.mp hk
  simp only at ez
  subst ez
  have hpm := List.mem_of_getElem? hp
  obtain ⟨hp0, hp1⟩ := hq _ hpm
  have s1 : S ps H0 (pre ++ (p, .lst (zs'.map Dt.int)) :: post) H' σ ρ := s.grow hp0 e ⟨_, hp1, RA.of_ints zs'⟩
  have out : ∀ a, H a = none → a ≠ p → a ∉ ps ++ ks (pre ++ (p, Oc.lst (zs'.map Dt.int)) :: post) := fun a h hne z => by
    have na := s.lv.new h
    rcases List.mem_append.mp z with z | z
    · exact na (List.mem_append_left _ z)
    · rcases mem_ks.mp z with z | z
      · exact hne z
      · exact na (List.mem_append_right _ z)
  have nd1 := List.nodup_cons.mp nd
  refine kk p _ H' (s1.set i (d := .lst (((xs.map fe).map intsD).set k (.adr p))) ?_)
  rw [vw_eq]
  refine .lst (hid_mk hv (out Dd hD fun z => nd1.1 (z ▸ List.mem_map.mpr ⟨_, hpm, rfl⟩))) (RA.build ?_ fun j v d h1 h2 => ?_)
  · rw [List.length_map, List.length_set, List.length_map, List.length_map, hlen]
  · rw [List.getElem?_map] at h1
    obtain ⟨⟨a, ys⟩, hj, ev⟩ := Option.map_eq_some_iff.mp h1
    subst ev
    by_cases c : j = k
    · subst c
      rw [hp] at hj
      cases hj
      rw [List.getElem?_set_self (by rw [List.length_map, List.length_map, ← hlen]; exact (List.getElem?_eq_some_iff.mp hp).1)] at h2
      cases h2
      exact .adr p
    · rw [List.getElem?_set_ne (Ne.symm c), ← hqs, List.map_map, List.getElem?_map, hj] at h2
      cases h2
      obtain ⟨ha0, ha1⟩ := hq _ (List.mem_of_getElem? hj)
      have hne : a ≠ p := fun z => c (by
        have hn := nd1.2
        have l1 := (List.getElem?_eq_some_iff.mp hj).1
        have l2 := (List.getElem?_eq_some_iff.mp hp).1
        have i1 : (qs.map (·.1))[j]? = some a := by rw [List.getElem?_map, hj]; rfl
        have i2 : (qs.map (·.1))[k]? = some a := by rw [List.getElem?_map, hp, z]; rfl
        exact (List.getElem?_inj (by rw [List.length_map]; exact l1) hn).mp (i1.trans i2.symm))
      exact .lst (hid_mk ha1 (out a ha0 hne)) (RA.of_ints ys)
theorem RA.thaw {G G' : Hp} {es : List Dt} {p : Addr} (hp : R G' (.ref p) (.lst es)) (e : Ex G G') : ∀ {vs : List V} {ds : List Dt} {k : Nat}, RA G vs ds → ds[k]? = some (.adr p) → RA G' vs (ds.set k (.lst es))
  | _, _, _, .nil, h => by simp at h
  | _, _, 0, .cons r t, h => by
    simp at h
    subst h
    cases r
    exact .cons hp (t.ex e)
  | _, _, k + 1, .cons r t, h => .cons (r.ex e) (RA.thaw hp e (k := k) t (by simpa using h))
/-- the list within, let go -/
theorem S.thaw {pre post : Os} {p : Addr} {es ds : List Dt} (s : S ps H0 (pre ++ (p, .lst es) :: post) H σ ρ) {i k : Nat} (h : ρ[i]? = some (some (.lst ds))) (hk : ds[k]? = some (.adr p)) : S ps H0 (pre ++ post) H σ (ρ.set i (some (.lst (ds.set k (.lst es))))) := by
  have w := s.worth (s.out (c := .lst es) (by simp))
  obtain ⟨v, hv, r⟩ := s.sl.2 i _ h
  have e : Ex (vw ps (pre ++ (p, Oc.lst es) :: post) H) (vw ps (pre ++ post) H) := hid_mono (hid_sub H fun a h => mem_ks.mpr (.inr h))
  have r' : R (vw ps (pre ++ post) H) v (.lst (ds.set k (.lst es))) := by
    cases r with
    | lst ha r => exact .lst (e _ _ ha) (RA.thaw w e r hk)
  have s' := s.drop.set i r'
  have es' : σ.set i (some v) = σ := by
    apply List.ext_getElem?
    intro j
    by_cases c : j = i
    · subst c
      rw [List.getElem?_set_self (List.getElem?_eq_some_iff.mp hv).1, hv]
    · rw [List.getElem?_set_ne (Ne.symm c)]
  rw [es'] at s'
  exact s'
end
end Ck
namespace Ck
open PySem PySem.Spec L2
open PyProof.Rows hiding St

/-! ### what the lots of a cask are -/
structure LotsOk (n : Nat) (hi : Nat) (now : List (List Int)) : Prop where
  len : now.length = n
  up : ∀ l ∈ now, l.Pairwise (· < ·)
  bd : ∀ l ∈ now, ∀ x ∈ l, -8 ≤ x ∧ x < (hi : Int)
theorem LotsOk.mono {n hi hi' : Nat} {now : List (List Int)} (h : LotsOk n hi now) (le : hi ≤ hi') : LotsOk n hi' now :=
  ⟨h.len, h.up, fun l hl x hx => by have := h.bd l hl x hx; omega⟩
theorem LotsOk.short {n hi : Nat} {now : List (List Int)} (h : LotsOk n hi now) (h24 : hi ≤ 24) {l : List Int} (hl : l ∈ now) : l.length ≤ 32 := by
  have := up_len (lo := -8) (hi := (hi : Int)) (h.up l hl) fun x hx => h.bd l hl x hx
  omega
theorem LotsOk.getD {n hi : Nat} {now : List (List Int)} (h : LotsOk n hi now) (i : Nat) : (now.getD i []).Pairwise (· < ·) ∧ ∀ x ∈ now.getD i [], -8 ≤ x ∧ x < (hi : Int) := by
  rw [List.getD_eq_getElem?_getD]
  cases e : now[i]? with
  | none => exact ⟨.nil, fun x hx => nomatch hx⟩
  | some l => exact ⟨h.up l (List.mem_of_getElem? e), h.bd l (List.mem_of_getElem? e)⟩
theorem LotsOk.set {n hi : Nat} {now : List (List Int)} (h : LotsOk n hi now) (i : Nat) {l : List Int} (u : l.Pairwise (· < ·)) (b : ∀ x ∈ l, -8 ≤ x ∧ x < (hi : Int)) : LotsOk n hi (now.set i l) :=
  ⟨by rw [List.length_set]; exact h.len, fun k hk => (List.mem_or_eq_of_mem_set hk).elim (h.up k) fun e => e ▸ u, fun k hk => (List.mem_or_eq_of_mem_set hk).elim (h.bd k) fun e => e ▸ b⟩
theorem first_ok {c : List Fill} (h : c.length ≤ 8) : LotsOk c.length 0 (firstLots c) := by
  refine ⟨by simp [firstLots], fun l hl => ?_, fun l hl x hx => ?_⟩
  · obtain ⟨p, hp, e⟩ := List.mem_map.mp hl
    subst e
    by_cases c : p.1.isEmpty = true
    · rw [if_pos c]; exact .nil
    · rw [if_neg c]; exact List.pairwise_singleton _ _
  · obtain ⟨p, hp, e⟩ := List.mem_map.mp hl
    subst e
    by_cases cc : p.1.isEmpty = true
    · rw [if_pos cc] at hx; cases hx
    · rw [if_neg cc, List.mem_singleton] at hx
      have := (List.getElem?_eq_some_iff.mp (mem_zip hp)).1
      omega
theorem clear_ok {n hi : Nat} {now : List (List Int)} (h : LotsOk n hi now) (g : List Nat) : LotsOk n hi (clear now g) := by
  refine ⟨by simp [clear, h.len], fun l hl => ?_, fun l hl x hx => ?_⟩
  · obtain ⟨p, hp, e⟩ := List.mem_map.mp hl
    subst e
    by_cases c : p.2 ∈ g
    · rw [if_pos c]; exact .nil
    · rw [if_neg c]; exact h.up _ (List.mem_of_getElem? (mem_zip hp))
  · obtain ⟨p, hp, e⟩ := List.mem_map.mp hl
    subst e
    by_cases c : p.2 ∈ g
    · rw [if_pos c] at hx; cases hx
    · rw [if_neg c] at hx; exact h.bd _ (List.mem_of_getElem? (mem_zip hp)) x hx
theorem mix_ok {n hi : Nat} {now : List (List Int)} (h : LotsOk n hi now) : ∀ (ways : List (Nat × Nat)) {made : List (List Int)}, LotsOk n hi made → LotsOk n hi (mix now made ways)
  | [], _, m => m
  | p :: ways, made, m => mix_ok h ways (m.set p.2 srt_up fun x hx => by
      rw [mem_srt, List.mem_append] at hx
      exact hx.elim (fun q => (m.getD p.2).2 x q) fun q => (h.getD p.1).2 x q)
theorem step_ok {n i : Nat} {now : List (List Int)} (h : LotsOk n i now) (d : Deed) : LotsOk n (i + 1) (stepLots now i d) := by
  have m := mix_ok h (waysOver d) (clear_ok h (emptied d))
  have m' := m.mono (Nat.le_succ i)
  unfold stepLots
  cases d with
  | add k f =>
    simp only
    by_cases c : f.isEmpty = true
    · rw [if_pos c]; exact m'
    · rw [if_neg c]
      have g := m.getD k
      refine m'.set k ?_ fun x hx => ?_
      · refine List.pairwise_append.mpr ⟨g.1, List.pairwise_singleton _ _, fun a ha b hb => ?_⟩
        rw [List.mem_singleton] at hb
        have := g.2 a ha
        omega
      · rcases List.mem_append.mp hx with q | q
        · have := g.2 x q; omega
        · rw [List.mem_singleton] at q; omega
  | move i j a b => exact m'
  | swap i j a b => exact m'
  | draw i a b => exact m'
  | keep i a b => exact m'
theorem nowAt_ok {c : List Fill} (h : c.length ≤ 8) (s : List Deed) : ∀ i, LotsOk c.length i (nowAt c s i)
  | 0 => first_ok h
  | i + 1 => by
    show LotsOk c.length (i + 1) (match s[i]? with | some d => stepLots (nowAt c s i) i d | none => nowAt c s i)
    cases s[i]? with
    | none => exact (nowAt_ok h s i).mono (Nat.le_succ i)
    | some d => exact step_ok (nowAt_ok h s i) d
theorem zip_up {α : Type} (xs : List α) (n : Nat) : (xs.zipIdx n).Pairwise fun p q => p.2 < q.2 := by
  induction xs generalizing n with
  | nil => exact .nil
  | cons x xs ih =>
    rw [List.zipIdx_cons]
    refine List.pairwise_cons.mpr ⟨fun p hp => ?_, ih (n + 1)⟩
    have := List.le_snd_of_mem_zipIdx hp
    omega
theorem first_up (c : List Fill) : (((c.zipIdx.filter fun p => !p.1.isEmpty).map fun p => -1 - (p.2 : Int)).reverse).Pairwise (· < ·) := by
  rw [List.pairwise_reverse, List.pairwise_map]
  exact ((zip_up c 0).sublist List.filter_sublist).imp fun {p q} h => by omega
theorem rest_up (s : List Deed) : ((s.zipIdx.filter fun p => p.1.adds).map fun p => (p.2 : Int)).Pairwise (· < ·) := by
  rw [List.pairwise_map]
  exact ((zip_up s 0).sublist List.filter_sublist).imp fun {p q} h => by omega
theorem every_bd (c : List Fill) (s : List Deed) : ∀ x ∈ everyLot c s, -(c.length : Int) ≤ x ∧ x < (s.length : Int) := by
  intro x hx
  rcases List.mem_append.mp hx with q | q
  · rw [List.mem_reverse] at q
    obtain ⟨p, hp, e⟩ := List.mem_map.mp q
    have := (List.getElem?_eq_some_iff.mp (mem_zip (List.mem_filter.mp hp).1)).1
    omega
  · obtain ⟨p, hp, e⟩ := List.mem_map.mp q
    have := (List.getElem?_eq_some_iff.mp (mem_zip (List.mem_filter.mp hp).1)).1
    omega
theorem every_up (c : List Fill) (s : List Deed) : (everyLot c s).Pairwise (· < ·) := by
  refine List.pairwise_append.mpr ⟨first_up c, rest_up s, fun a ha b hb => ?_⟩
  rw [List.mem_reverse] at ha
  obtain ⟨p, hp, e⟩ := List.mem_map.mp ha
  obtain ⟨q, hq, e'⟩ := List.mem_map.mp hb
  omega
theorem every_len {c : List Fill} {s : List Deed} (hc : c.length ≤ 8) (hs : s.length ≤ 24) : (everyLot c s).length ≤ 32 := by
  have := up_len (lo := -8) (hi := 24) (every_up c s) fun x hx => by have := every_bd c s x hx; omega
  omega

/-! ### what each draw carries -/
def carry (c : List Fill) (s : List Deed) (p : Deed × Nat) : Option (Nat × List Int) :=
  match p.1 with
  | .draw k a _ => some (p.2, if 0 < a then (nowAt c s p.2).getD k [] else [])
  | _ => none
def carriedLots (c : List Fill) (s : List Deed) : List (Nat × List Int) := s.zipIdx.filterMap (carry c s)
abbrev carK (car : List (Nat × List Int)) : List (Key × Dt) := car.map fun p => (Sum.inl (p.1 : Int), intsD p.2)
def carD (car : List (Nat × List Int)) : Dt := .dic (carK car)
def lookC (car : List (Nat × List Int)) (i : Nat) : List Int := ((car.find? fun p => p.1 = i).map (·.2)).getD []
theorem look_car {car : List (Nat × List Int)} {i : Nat} (h : i ∈ car.map (·.1)) : look (carK car) (.inl (i : Int)) = some (intsD (lookC car i)) := by
  induction car with
  | nil => simp at h
  | cons p car ih =>
    by_cases c : p.1 = i
    · subst c
      simp [look, lookC, carK]
    · have hne : ¬ (Sum.inl (p.1 : Int) : Key) = Sum.inl (i : Int) := fun z => c (by have := Sum.inl.inj z; omega)
      have h' : i ∈ car.map (·.1) := by
        rw [List.map_cons, List.mem_cons] at h
        exact h.resolve_left fun z => c z.symm
      have := ih h'
      unfold look at this ⊢
      unfold lookC at this ⊢
      rw [carK, List.map_cons, List.find?_cons_of_neg (by simpa using hne), List.find?_cons_of_neg (by simpa using c)]
      exact this
theorem putD_new {kvs : List (Key × Dt)} {k : Key} {d : Dt} (h : ∀ kv ∈ kvs, kv.1 ≠ k) : putD kvs k d = kvs ++ [(k, d)] := by
  unfold putD
  rw [if_neg]
  rw [List.any_eq_true]
  rintro ⟨kv, hkv, e⟩
  exact h kv hkv (of_decide_eq_true e)
theorem mem_car {c : List Fill} {s : List Deed} {p : Nat × List Int} (h : p ∈ carriedLots c s) : ∃ k a b, s[p.1]? = some (.draw k a b) ∧ p.2 = if 0 < a then (nowAt c s p.1).getD k [] else [] := by
  obtain ⟨⟨d, i⟩, hq, e⟩ := List.mem_filterMap.mp h
  have hm := mem_zip hq
  cases d with
  | draw k a b =>
    simp only [carry, Option.some.injEq] at e
    subst e
    exact ⟨k, a, b, hm, rfl⟩
  | move i j a b => cases e
  | swap i j a b => cases e
  | keep i a b => cases e
  | add i f => cases e
theorem car_mem {c : List Fill} {s : List Deed} {i k : Nat} {a b : Int} (h : s[i]? = some (.draw k a b)) : i ∈ (carriedLots c s).map (·.1) :=
  List.mem_map.mpr ⟨(i, if 0 < a then (nowAt c s i).getD k [] else []), List.mem_filterMap.mpr ⟨(.draw k a b, i), List.mem_zipIdx_iff_getElem?.mpr h, rfl⟩, rfl⟩
theorem car_keys (c : List Fill) (s : List Deed) : (carriedLots c s).map (·.1) = (s.zipIdx.filter fun p => p.1.draws).map (·.2) := by
  unfold carriedLots
  rw [List.map_filterMap]
  induction s.zipIdx with
  | nil => rfl
  | cons p xs ih =>
    obtain ⟨d, i⟩ := p
    cases d with
    | draw k a b => rw [List.filterMap_cons_some (b := i) (by rfl), ih]; rfl
    | move i j a b => rw [List.filterMap_cons_none (by rfl), ih]; rfl
    | swap i j a b => rw [List.filterMap_cons_none (by rfl), ih]; rfl
    | keep i a b => rw [List.filterMap_cons_none (by rfl), ih]; rfl
    | add i f => rw [List.filterMap_cons_none (by rfl), ih]; rfl
theorem car_up (c : List Fill) (s : List Deed) : ((carriedLots c s).map (·.1)).Pairwise (· < ·) := by
  rw [car_keys, List.pairwise_map]
  exact ((zip_up s 0).sublist List.filter_sublist).imp fun {p q} h => h
theorem car_len (c : List Fill) (s : List Deed) : (carriedLots c s).length ≤ s.length := by
  have h := List.length_filterMap_le (carry c s) s.zipIdx
  rw [List.length_zipIdx] at h
  exact h
theorem car_list {c : List Fill} {s : List Deed} (hc : c.length ≤ 8) (hs : s.length ≤ 24) {p : Nat × List Int} (h : p ∈ carriedLots c s) : p.2.length ≤ 32 := by
  obtain ⟨k, a, b, h1, h2⟩ := mem_car h
  have hi := (List.getElem?_eq_some_iff.mp h1).1
  rw [h2]
  split
  · have g := (nowAt_ok hc s p.1).getD k
    have := up_len (lo := -8) (hi := (p.1 : Int)) g.1 g.2
    omega
  · simp
theorem lookC_mem {car : List (Nat × List Int)} {i : Nat} (h : i ∈ car.map (·.1)) : (i, lookC car i) ∈ car := by
  unfold lookC
  cases e : car.find? fun p => p.1 = i with
  | none =>
    obtain ⟨p, hp, q⟩ := List.mem_map.mp h
    have := List.find?_eq_none.mp e p hp
    simp [q] at this
  | some p =>
    have h1 := List.mem_of_find?_eq_some e
    have h2 := List.find?_some e
    simp at h2
    subst h2
    exact h1

/-! ### what was told, and what fits -/
def lookD (p : Nat × Bool) : Dt := .tup [.int (p.1 : Int), .bl p.2]
def toldD (t : List (Nat × Bool)) : Dt := .tup (t.map lookD)
structure ToldOk (s : List Deed) (t : List (Nat × Bool)) : Prop where
  few : t.length ≤ 1000
  all : ∀ p ∈ t, ∃ k a b, s[p.1]? = some (.draw k a b)
def keepFit (car : List (Nat × List Int)) (p : Nat × Bool) (found : List Int) : List Int := found.filter fun l => decide (decide (l ∈ lookC car p.1) = p.2)
def fitting (c : List Fill) (s : List Deed) (t : List (Nat × Bool)) : List Int := t.foldl (fun found p => keepFit (carriedLots c s) p found) (everyLot c s)
theorem fit_eq (car : List (Nat × List Int)) : ∀ (t : List (Nat × Bool)) (l : List Int), t.foldl (fun found p => keepFit car p found) l = l.filter fun x => t.all fun p => decide (decide (x ∈ lookC car p.1) = p.2)
  | [], l => (List.filter_eq_self.mpr fun _ _ => rfl).symm
  | p :: t, l => by
    rw [List.foldl_cons, fit_eq car t, keepFit, List.filter_filter]
    congr 1
    funext x
    rw [List.all_cons, Bool.and_comm]
theorem fit_sub (c : List Fill) (s : List Deed) (t : List (Nat × Bool)) : (fitting c s t).Sublist (everyLot c s) := by
  unfold fitting
  rw [fit_eq]
  exact List.filter_sublist
theorem fit_up (c : List Fill) (s : List Deed) (t : List (Nat × Bool)) : (fitting c s t).Pairwise (· < ·) := (every_up c s).sublist (fit_sub c s t)
theorem fit_len {c : List Fill} {s : List Deed} (hc : c.length ≤ 8) (hs : s.length ≤ 24) (t : List (Nat × Bool)) : (fitting c s t).length ≤ 32 := Nat.le_trans (fit_sub c s t).length_le (every_len hc hs)
/-! the tests: for each draw the suspects that it carries, as bits -/
def bitsOf (found ls : List Int) : Nat := ((found.zipIdx.filter fun p => decide (p.1 ∈ ls)).map fun p => 2 ^ p.2).sum
def testsOf (c : List Fill) (s : List Deed) (found : List Int) : List (Nat × Nat) := (carriedLots c s).map fun p => (p.1, bitsOf found p.2)
def testsD (ts : List (Nat × Nat)) : Dt := .lst (ts.map pairD)
def kindOf (ts : List (Nat × Nat)) (at_ : Nat) : List Int := ts.map fun p => ((p.2 >>> at_ % 2 : Nat) : Int)
end Ck
namespace Ck
open PySem PySem.Spec L2
open PyProof.Rows hiding St

section
variable {K : PySem.W.Frag} {ρ : List (Option Dt)}
theorem et_adds {n i : Nat} {x : Deed} (h : ρ[i]? = some (some (deedD x))) (ok : DeedOk n x) :
    EvT (tAnd (tTest (tOp rEq (tOp (rIx K) (tVar i) (tC (.int 0))) (tC (.str "add")))) (tTest (tOp (rNeD K) (tOp (rIx K) (tVar i) (tC (.int 2))) (tTup tNil)))) ρ x.adds := by
  cases x with
  | add k f => exact et_is (et_and (et_T (ev_op (ev_op (ev_var h) ev_int (od_ixt rfl)) ev_str od_eqS)) fun _ => et_T (ev_op (ev_op (ev_var h) ev_int (od_ixt (d := fillD f) rfl)) (ev_tup ea_nil (Nat.zero_le _)) (ne_nil ok.2))) rfl
  | move k j a b => exact et_is (et_and (b := false) (et_T (ev_op (ev_op (ev_var h) ev_int (od_ixt rfl)) ev_str od_eqS)) fun z => absurd z (by decide +kernel)) (by rw [Bool.and_false]; rfl)
  | swap k j a b => exact et_is (et_and (b := false) (et_T (ev_op (ev_op (ev_var h) ev_int (od_ixt rfl)) ev_str od_eqS)) fun z => absurd z (by decide +kernel)) (by rw [Bool.and_false]; rfl)
  | draw k a b => exact et_is (et_and (b := false) (et_T (ev_op (ev_op (ev_var h) ev_int (od_ixt rfl)) ev_str od_eqS)) fun z => absurd z (by decide +kernel)) (by rw [Bool.and_false]; rfl)
  | keep k a b => exact et_is (et_and (b := false) (et_T (ev_op (ev_op (ev_var h) ev_int (od_ixt rfl)) ev_str od_eqS)) fun z => absurd z (by decide +kernel)) (by rw [Bool.and_false]; rfl)
theorem ev_lcI {wi : TI} {g : TG} {tt : TT} {te : TE} {vs js : List Nat} {α : Type} (xs : List α) (emb : α → Dt) (fb : α → Bool) (fi : α → Int) (ρf : α → List (Option Dt))
    (hi : EvI wi ρ (xs.map emb)) (hjs : ∀ j ∈ js, j ∈ vs) (hg : ∀ x ∈ xs, TgD g js (wipeD ρ vs) (emb x) (ρf x)) (ht : ∀ x ∈ xs, EvT tt (ρf x) (fb x)) (he : ∀ x ∈ xs, fb x = true → EvP te (ρf x) (.int (fi x))) (hl : xs.length ≤ 100000) :
    EvP (tLc wi g tt te vs) ρ (.lst (((xs.filter fb).map fi).map Dt.int)) := by
  have h := ev_lc xs emb fb (fun x => Dt.int (fi x)) ρf hi hjs hg ht he hl
  rw [List.map_map]
  exact h
end

section
variable {P : Program} {w : World} {K : PySem.W.Frag} {mg : Str → Option Value} {base : Heap} {k : Nat}

def F_every_lot : List Dt → Dt → Prop := fun ds d => ∃ (c : List Fill) (st : List Deed), ds = [cellarD c, storyD st] ∧ CellarOk c ∧ StoryOk c.length st ∧ d = intsD (everyLot c st)
theorem len_every_lot {ds : List Dt} {d : Dt} (h : F_every_lot ds d) : ds.length = 2 := by
  obtain ⟨c, st, rfl, _⟩ := h; rfl
theorem sc_every_lot : FnScope ["cellar", "story", "first", "cask", "fill", "index", "deed"] ["cellar", "story"] (defScope s_every_lot) := ⟨rfl, rfl, rfl, by decide +kernel, rfl, by decide +kernel, by decide +kernel⟩
theorem has_every_lot (T : Bt mg) (D : Dfn K mg "every_lot" s_every_lot) : Has P w K mg base (k + 1) "every_lot" ["cellar", "story"] (spP F_every_lot) := by
  have nd := (sc_every_lot).nd
  refine D.hasP sc_every_lot (fun _ _ _ _ _ _ us hl => match us, hl with | [_, _], _ => rfl) ?_ (fun f cdv A outer s H E hr => ?_)
  · intro ds d h
    exact len_every_lot h
  have hu := hu_of hr
  refine ⟨_, (pss_cons (ps_set (i := 2) nd rfl (Or.inl rfl) (pe_callB (k_sorted (K := K) rfl) (by rfl) T.sorted (by decide +kernel) (pa_cons (pe_lc (own := [("cask", 3), ("fill", 4)]) (g := (gTup K 2 (gCons (gName 3) (gCons (gName 4) gNil)))) rfl nd (k_piET (K := K) rfl (by rfl) T.enumerate (pa_cons (pv 0) pa_nil)) (blkOk_by (N := ["cellar", "story", "first", "cask", "fill", "index", "deed"]) (sc := defScope s_every_lot) (by decide +kernel)) (fun _ _ _ _ _ => (k_tup (K := K) rfl rfl (pgs_cons (pg_name (i := 3) nd rfl (Or.inl rfl)) (pgs_cons (pg_name (i := 4) nd rfl (Or.inl rfl)) pgs_nil)))) (fun _ _ _ _ _ => (pts_one (pt_cmpR (k_neD (K := K) rfl hr.units) (pv 4) (pe_tup pa_nil) (nomark _)))) (fun _ _ _ _ _ => (pe_op op_sub (pe_un un_neg pe_int) (pv 3)))) pa_nil)))
    (pss_one (ps_ret (pe_op op_cat (pv 2) (pe_lc (own := [("index", 5), ("deed", 6)]) (g := (gTup K 2 (gCons (gName 5) (gCons (gName 6) gNil)))) rfl nd (k_piET (K := K) rfl (by rfl) T.enumerate (pa_cons (pv 1) pa_nil)) (blkOk_by (N := ["cellar", "story", "first", "cask", "fill", "index", "deed"]) (sc := defScope s_every_lot) (by decide +kernel)) (fun _ _ _ _ _ => (k_tup (K := K) rfl rfl (pgs_cons (pg_name (i := 5) nd rfl (Or.inl rfl)) (pgs_cons (pg_name (i := 6) nd rfl (Or.inl rfl)) pgs_nil)))) (fun _ _ _ _ _ => (pts_one (PW.pt (pw_and (pt_cmpR op_eq (pe_ix (k_ix (K := K) rfl) (pv 6) pe_int (fun _ _ => rfl)) pe_str (nomark _)) (pw_and1 (pt_cmpR (k_neD (K := K) rfl hr.units) (pe_ix (k_ix (K := K) rfl) (pv 6) pe_int (fun _ _ => rfl)) (pe_tup pa_nil) (nomark _))))))) (fun _ _ _ _ _ => (pv 5))))))), ?_⟩
  rintro ds d ⟨c, st, rfl, okc, oks, rfl⟩ ps σ D s rt nx
  have hc := okc.hi
  have hs := oks.hi
  have hx : ((c.zipIdx.filter fun p => !p.1.isEmpty).map fun p => -1 - (p.2 : Int)).length ≤ 8 := by
    rw [List.length_map]
    have := List.length_filter_le (fun p : Fill × Nat => !p.1.isEmpty) c.zipIdx
    rw [List.length_zipIdx] at this
    omega
  have hy : ((st.zipIdx.filter fun p => p.1.adds).map fun p => (p.2 : Int)).length ≤ 24 := by
    rw [List.length_map]
    have := List.length_filter_le (fun p : Deed × Nat => p.1.adds) st.zipIdx
    rw [List.length_zipIdx] at this
    omega
  refine q_set (d := intsD ((c.zipIdx.filter fun p => !p.1.isEmpty).map fun p => -1 - (p.2 : Int)).reverse) (ev_cb (ea_cons (ev_lcI c.zipIdx (fun p => .tup [.int (p.2 : Int), fillD p.1]) (fun p => !p.1.isEmpty) (fun p => -1 - (p.2 : Int)) (fun p => [some (cellarD c), some (storyD st), none, some (.int (p.2 : Int)), some (fillD p.1), none, none])
    (ei_enumT' (ea_cons (ev_var (i := 0) rfl) ea_nil)) (js := [3, 4]) (by simp) (fun p _ => tg_two) (fun p hp => et_T (ev_op (ev_var (i := 4) rfl) (ev_tup ea_nil (Nat.le_of_ble_eq_true rfl)) (ne_nil (okc.all _ (List.mem_of_getElem? (mem_zip hp)))))) (fun p _ _ => (ev_op (ev_un ev_int un_negD) (ev_var (i := 3) rfl) od_sub)) (by rw [List.length_zipIdx]; omega)) ea_nil) (cd_sorted (by omega) (List.reverse_perm _) ((first_up c).imp fun {a b} h => by omega))) s fun σ1 H1 s1 => ?_
  have s2 := s1.as (ρ' := [some (cellarD c), some (storyD st), some (intsD ((c.zipIdx.filter fun p => !p.1.isEmpty).map fun p => -1 - (p.2 : Int)).reverse), none, none, none, none]) rfl
  refine s_ret (ev_is (ev_op (ev_var (i := 2) rfl) (ev_lcI st.zipIdx (fun p => .tup [.int (p.2 : Int), deedD p.1]) (fun p => p.1.adds) (fun p => (p.2 : Int)) (fun p => [some (cellarD c), some (storyD st), some (intsD ((c.zipIdx.filter fun p => !p.1.isEmpty).map fun p => -1 - (p.2 : Int)).reverse), none, none, some (.int (p.2 : Int)), some (deedD p.1)])
    (ei_enumT' (ea_cons (ev_var (i := 1) rfl) ea_nil)) (js := [5, 6]) (by simp) (fun p _ => tg_two) (fun p hp => et_adds (n := c.length) rfl (oks.all _ (List.mem_of_getElem? (mem_zip hp)))) (fun p _ _ => (ev_var (i := 5) rfl)) (by rw [List.length_zipIdx]; omega)) (od_cat (by rw [List.length_map, List.length_map, List.length_reverse]; omega))) (by rw [← List.map_append]; rfl)) s2 rt
/-- the lists of the casks are written anew -/
theorem mix_take (now made : List (List Int)) (ways : List (Nat × Nat)) (j : Nat) (p : Nat × Nat) (h : ways[j]? = some p) : mix now made (ways.take (j + 1)) = (mix now made (ways.take j)).set p.2 (srt ((mix now made (ways.take j)).getD p.2 [] ++ now.getD p.1 [])) := by
  unfold mix
  rw [List.take_add_one, h, List.foldl_append]
  rfl
theorem ways_ok {n : Nat} {x : Deed} (ok : DeedOk n x) : ∀ p ∈ waysOver x, p.1 < n ∧ p.2 < n := by
  intro p hp
  cases x with
  | move i j a b =>
    simp only [waysOver] at hp
    split at hp
    · cases hp
    · rw [List.mem_singleton] at hp; subst hp; exact ⟨ok.1, ok.2.1⟩
  | swap i j a b =>
    simp only [waysOver] at hp
    split at hp
    · cases hp
    · rcases List.mem_cons.mp hp with e | hp
      · subst e; exact ⟨ok.1, ok.2.1⟩
      · rw [List.mem_singleton] at hp; subst hp; exact ⟨ok.2.1, ok.1⟩
  | draw i a b => cases hp
  | keep i a b => cases hp
  | add i f => cases hp
theorem el_clear {K : PySem.W.Frag} {ρ : List (Option Dt)} {i j : Nat} {k : Nat} {l : List Int} {g : List Nat} (h3 : ρ[i]? = some (some (.int (k : Int)))) (h8 : ρ[8]? = some (some (natsD g))) (h10 : ρ[j]? = some (some (intsD l))) :
    EvL (tIf (tTest (tOp (rIn K false) (tVar i) (tVar 8))) (tLst tNil) (tCB (fun xs H Q => ∃ p ys, xs = [V.ref p] ∧ (SqL K H p ys ∨ SqT K H p ys) ∧ ∀ l, H l = none → Q (.ref l) (upd H l (.lst ys))) (tCons (tVar j) tNil))) ρ ((if k ∈ g then [] else l).map Dt.int) := fun ps H σ lv s Q q => by
  refine et_T (ev_op (ev_var h3) (ev_var h8) (od_inIl (g.map fun (n : Nat) => (n : Int)))) ps H σ lv s _ fun H1 e1 => ?_
  have ei : ((k : Int) ∈ g.map fun (n : Nat) => (n : Int)) ↔ k ∈ g := by
    rw [List.mem_map]
    constructor
    · rintro ⟨a, ha, e⟩
      have : a = k := by omega
      exact this ▸ ha
    · exact fun h => ⟨k, h, rfl⟩
  have q' : ∀ (D : Addr) (H' : Hp) (vs : List V), H1 D = none → Ex H1 H' → H' D = some (.lst vs) → RA (hid (D :: ps) H') vs ((if k ∈ g then [] else l).map Dt.int) → Q (.ref D) H' := fun D H' vs hD e a r => q D H' vs (none_of e1 hD) (e1.trans e) a r
  by_cases c : k ∈ g
  · rw [decide_eq_true (ei.mpr c), if_pos rfl]
    rw [if_pos c] at q'
    exact el_lst ea_nil (Nat.zero_le _) ps H1 σ (lv.ex e1) (s.ex (hid_mono e1)) Q q'
  · rw [decide_eq_false fun z => c (ei.mp z), if_neg Bool.false_ne_true]
    rw [if_neg c] at q'
    exact el_list (ev_var h10) ps H1 σ (lv.ex e1) (s.ex (hid_mono e1)) Q q'
theorem zip_at {α : Type} {xs : List α} {i : Nat} {x : α × Nat} (h : xs.zipIdx[i]? = some x) : x.2 = i ∧ xs[i]? = some x.1 := by
  rw [List.getElem?_zipIdx] at h
  obtain ⟨a, ha, e⟩ := Option.map_eq_some_iff.mp h
  subst e
  exact ⟨Nat.zero_add i, ha⟩
theorem ixN_nat {n i : Nat} (h : i < n) : ixN n (i : Int) = some i := by
  unfold ixN
  rw [if_pos (by omega), if_pos (by omega)]
  rfl
theorem nowAt_succ {c : List Fill} {s : List Deed} {i : Nat} {x : Deed} (h : s[i]? = some x) : nowAt c s (i + 1) = stepLots (nowAt c s i) i x := by
  show (match s[i]? with | some d => stepLots (nowAt c s i) i d | none => nowAt c s i) = _
  rw [h]
theorem step_non {now : List (List Int)} {i : Nat} {x : Deed} (h : x.adds = false) : stepLots now i x = mix now (clear now (emptied x)) (waysOver x) := by
  cases x with
  | add k f =>
    have hf : f.isEmpty = true := by cases f <;> simp [Deed.adds] at h ⊢
    unfold stepLots
    simp only [if_pos hf]
  | move i j a b => rfl
  | swap i j a b => rfl
  | draw i a b => rfl
  | keep i a b => rfl
theorem mix_len (now made : List (List Int)) (ways : List (Nat × Nat)) : (mix now made ways).length = made.length := by
  induction ways generalizing made with
  | nil => rfl
  | cons p ways ih => exact (ih _).trans List.length_set
def F_lots_ahead : List Dt → Dt → Prop := fun ds d => ∃ (c : List Fill) (st : List Deed), ds = [cellarD c, storyD st] ∧ CellarOk c ∧ StoryOk c.length st ∧ d = aheadD (lotsAhead c st)
theorem len_lots_ahead {ds : List Dt} {d : Dt} (h : F_lots_ahead ds d) : ds.length = 2 := by
  obtain ⟨c, st, rfl, _⟩ := h; rfl
theorem sc_lots_ahead : FnScope ["cellar", "story", "now", "cask", "fill", "found", "index", "deed", "gone", "made", "here", "one", "other"] ["cellar", "story"] (defScope s_lots_ahead) := ⟨rfl, rfl, rfl, by decide +kernel, rfl, by decide +kernel, by decide +kernel⟩
theorem has_lots_ahead (T : Bt mg) (D : Dfn K mg "lots_ahead" s_lots_ahead) (h_emptied : Has P w K mg base k "emptied" ["deed"] (spP F_emptied)) (h_ways_over : Has P w K mg base k "ways_over" ["deed"] (spP F_ways_over)) : Has P w K mg base (k + 1) "lots_ahead" ["cellar", "story"] (spP F_lots_ahead) := by
  have nd := (sc_lots_ahead).nd
  refine D.hasP sc_lots_ahead (fun _ _ _ _ _ _ us hl => match us, hl with | [_, _], _ => rfl) ?_ (fun f cdv A outer s H E hr => ?_)
  · intro ds d h
    exact len_lots_ahead h
  have hu := hu_of hr
  refine ⟨_, (pss_cons (ps_setLc (i := 2) (own := [("cask", 3), ("fill", 4)]) (g := (gTup K 2 (gCons (gName 3) (gCons (gName 4) gNil)))) (tt := tYes) rfl nd rfl rfl (sw_true rfl rfl rfl (by decide +kernel)) (k_piET (K := K) rfl (by rfl) T.enumerate (pa_cons (pv 0) pa_nil)) (blkOk_by (N := ["cellar", "story", "now", "cask", "fill", "found", "index", "deed", "gone", "made", "here", "one", "other"]) (sc := defScope s_lots_ahead) (by decide +kernel)) (fun _ _ _ _ _ => (k_tup (K := K) rfl rfl (pgs_cons (pg_name (i := 3) nd rfl (Or.inl rfl)) (pgs_cons (pg_name (i := 4) nd rfl (Or.inl rfl)) pgs_nil)))) (fun _ _ _ _ _ => pts_nil) (fun _ _ _ _ _ => (pe_ifExp (pt_cmpR (k_neD (K := K) rfl hr.units) (pv 4) (pe_tup pa_nil) (nomark _)) (pe_lst (pa_cons (pe_op op_sub (pe_un un_neg pe_int) (pv 3)) pa_nil)) (pe_lst pa_nil))))
    (pss_cons (ps_set (i := 5) nd rfl (Or.inl rfl) (pe_lst (pa_cons (pv 2) pa_nil)))
    (pss_cons (ps_for PassesOwn.never rfl (k_piET (K := K) rfl (by rfl) T.enumerate (pa_cons (pv 1) pa_nil)) (k_tup (K := K) rfl rfl (pgs_cons (pg_name (i := 6) nd rfl (Or.inl rfl)) (pgs_cons (pg_name (i := 7) nd rfl (Or.inl rfl)) pgs_nil))) (pss_cons (ps_set (i := 8) nd rfl (Or.inr rfl) (pe_has h_emptied hr (by rfl) (pa_cons (pv 7) pa_nil)))
    (pss_cons (ps_setLc (i := 9) (own := [("cask", 3), ("here", 10)]) (g := (gTup K 2 (gCons (gName 3) (gCons (gName 10) gNil)))) (tt := tYes) rfl nd rfl rfl (sw_true rfl rfl rfl (by decide +kernel)) (k_piE (K := K) rfl (by rfl) T.enumerate (pa_cons (pv 2) pa_nil)) (blkOk_by (N := ["cellar", "story", "now", "cask", "fill", "found", "index", "deed", "gone", "made", "here", "one", "other"]) (sc := defScope s_lots_ahead) (by decide +kernel)) (fun _ _ _ _ _ => (k_tup (K := K) rfl rfl (pgs_cons (pg_name (i := 3) nd rfl (Or.inl rfl)) (pgs_cons (pg_name (i := 10) nd rfl (Or.inl rfl)) pgs_nil)))) (fun _ _ _ _ _ => pts_nil) (fun _ _ _ _ _ => (pe_ifExp (pt_cmpR (k_in (K := K) rfl) (pv 3) (pv 8) (by rfl)) (pe_lst pa_nil) (pe_callTy (k_list (K := K) rfl) (by rfl) T.list (by decide +kernel) (pa_cons (pv 10) pa_nil)))))
    (pss_cons (ps_for PassesOwn.never rfl (k_piL (K := K) rfl (pe_has h_ways_over hr (by rfl) (pa_cons (pv 7) pa_nil))) (k_tup (K := K) rfl rfl (pgs_cons (pg_name (i := 11) nd rfl (Or.inl rfl)) (pgs_cons (pg_name (i := 12) nd rfl (Or.inl rfl)) pgs_nil))) (pss_one (ps_asg (pe_callB (k_sortedSet (w := w) rfl rfl) (by rfl) T.sorted (by decide +kernel) (pa_cons (pe_callTy (k_setOfLZ (K := K) (w := w) rfl rfl rfl) (by rfl) T.set (by decide +kernel) (pa_cons (pe_op op_cat (pe_ix (k_ix (K := K) rfl) (pv 9) (pv 12) (fun _ _ => rfl)) (pe_ix (k_ix (K := K) rfl) (pv 2) (pv 11) (fun _ _ => rfl))) pa_nil)) pa_nil)) (pg_sub (pv 9) (pv 12) set_list))))
    (pss_cons (ps_if (PW.pt (pw_and (pt_cmpR op_eq (pe_ix (k_ix (K := K) rfl) (pv 7) pe_int (fun _ _ => rfl)) pe_str (nomark _)) (pw_and1 (pt_cmpR (k_neD (K := K) rfl hr.units) (pe_ix (k_ix (K := K) rfl) (pv 7) pe_int (fun _ _ => rfl)) (pe_tup pa_nil) (nomark _))))) (pss_one (ps_expr (k_app (K := K) rfl (pe_ix (k_ix (K := K) rfl) (pv 9) (pe_ix (k_ix (K := K) rfl) (pv 7) pe_int (fun _ _ => rfl)) (fun _ _ => rfl)) (pv 6)))) pss_nil)
    (pss_cons (ps_set (i := 2) nd rfl (Or.inl rfl) (pv 9))
    (pss_one (ps_expr (k_app (K := K) rfl (pv 5) (pv 2))))))))))
    (pss_one (ps_ret (pv 5)))))), ?_⟩
  rintro ds d ⟨c, st, rfl, okc, oks, rfl⟩ ps σ D s rt nx
  have hc := okc.hi
  have hs := oks.hi
  refine q_set (d := nowD (firstLots c)) (ev_is (ev_lc0 c.zipIdx (fun p => .tup [.int (p.2 : Int), fillD p.1]) (fun p => intsD (if p.1.isEmpty then [] else [-1 - (p.2 : Int)])) (fun p => [some (cellarD c), some (storyD st), none, some (.int (p.2 : Int)), some (fillD p.1), none, none, none, none, none, none, none, none])
    (ei_enumT' (ea_cons (ev_var (i := 0) rfl) ea_nil)) (js := [3, 4]) (by simp) (fun p _ => tg_two) (fun p hp => ev_if (et_T (ev_op (ev_var (i := 4) rfl) (ev_tup ea_nil (Nat.le_of_ble_eq_true rfl)) (ne_nil (okc.all _ (List.mem_of_getElem? (mem_zip hp)))))) (fun z => by rw [if_neg (by simpa using z)]; exact (ev_lst (ea_cons (ev_op (ev_un ev_int un_negD) (ev_var (i := 3) rfl) od_sub) ea_nil) (Nat.le_of_ble_eq_true rfl))) (fun z => by rw [if_pos (by simpa using z)]; exact (ev_lst ea_nil (Nat.le_of_ble_eq_true rfl)))) (by rw [List.length_zipIdx]; omega)) (by rw [nowD, firstLots, List.map_map]; rfl)) s fun σ1 H1 s1 => ?_
  have s2 := s1.as (ρ' := [some (cellarD c), some (storyD st), some (nowD (firstLots c)), none, none, none, none, none, none, none, none, none, none]) rfl
  refine q_ownE (pre := []) (post := []) (el_lst (ea_cons (ev_var (i := 2) rfl) ea_nil) (Nat.le_of_ble_eq_true rfl)) s2 fun p σ3 H3 s3 => ?_
  refine q_for st.zipIdx (fun p => .tup [.int (p.2 : Int), deedD p.1]) (fun p ρ => (ρ.set 6 (some (.int (p.2 : Int)))).set 7 (some (deedD p.1))) (fun i os ρ => os = [(p, .lst ((List.range (i + 1)).map fun j => nowD (nowAt c st j)))] ∧ ∃ e6 e7 e8 e9 e11 e12, ρ = [some (cellarD c), some (storyD st), some (nowD (nowAt c st i)), none, none, some (.adr p), e6, e7, e8, e9, none, e11, e12]) (ei_enumT' (ea_cons (ev_var (i := 1) rfl) ea_nil)) (fun x ρ' => tg_two) s3 ⟨rfl, _, _, _, _, _, _, rfl⟩ ?_ ?_
  · rintro H4 e l i ⟨x, m⟩ os' ρ' H' σ' hx ⟨rfl, e6, e7, e8, e9, e11, e12, rfl⟩ s4 D' hrt hnx
    obtain ⟨em, hm⟩ := zip_at hx
    simp only at em hm
    subst em
    have okd := oks.all x (List.mem_of_getElem? hm)
    have okn := nowAt_ok hc st m
    have hm24 : m < 24 := by have := (List.getElem?_eq_some_iff.mp hm).1; omega
    refine q_set (ev_call (d := natsD (emptied x)) (ea_cons (ev_var (i := 7) rfl) ea_nil) ⟨x, rfl, rfl⟩) s4 fun σ5 H5 s5 => ?_
    have s6 := s5.as (ρ' := [some (cellarD c), some (storyD st), some (nowD (nowAt c st m)), none, none, some (.adr p), some (.int (m : Int)), some (deedD x), some (natsD (emptied x)), e9, none, e11, e12]) rfl
    have hlz : (nowAt c st m).zipIdx.length ≤ 100000 := by rw [List.length_zipIdx, okn.len]; omega
    by_cases hadd : x.adds = true
    · cases x with
      | add k f =>
        have hf : ¬ f.isEmpty = true := by simpa [Deed.adds] using hadd
        have hk : k < (nowAt c st m).length := by rw [okn.len]; exact okd.1
        have hmk : ((nowAt c st m).zipIdx.map fun q => if q.2 ∈ emptied (.add k f) then [] else q.1) = nowAt c st m := by
          refine List.ext_getElem? fun j => ?_
          rw [List.getElem?_map, List.getElem?_zipIdx]
          cases (nowAt c st m)[j]? with
          | none => rfl
          | some y => simp [emptied]
        refine q_ownF (pre := [(p, _)]) (post := []) (k := k) (zs := (nowAt c st m).getD k []) (nowAt c st m).zipIdx (fun q => .tup [.int (q.2 : Int), intsD q.1]) (fun q => if q.2 ∈ emptied (.add k f) then [] else q.1) (fun q => [some (cellarD c), some (storyD st), some (nowD (nowAt c st m)), some (.int (q.2 : Int)), none, some (.adr p), some (.int (m : Int)), some (deedD (.add k f)), some (natsD (emptied (.add k f))), e9, some (intsD q.1), e11, e12])
          (ei_enum' (ea_cons (ev_var (i := 2) rfl) ea_nil)) (js := [3, 10]) (by simp) (fun q _ => tg_two) (fun q _ => el_clear rfl rfl rfl) hlz s6 (by rw [hmk, List.getD_eq_getElem?_getD, List.getElem?_eq_getElem hk]; rfl) fun pm σ7 H7 s7 => ?_
        rw [hmk] at s7
        refine q_for ([] : List (Nat × Nat)) pairD (fun q ρ => (ρ.set 11 (some (.int (q.1 : Int)))).set 12 (some (.int (q.2 : Int)))) (fun _ os ρ => os = [(p, .lst ((List.range (m + 1)).map fun j => nowD (nowAt c st j))), (pm, .lst (((nowAt c st m).getD k []).map Dt.int))] ∧ ρ = [some (cellarD c), some (storyD st), some (nowD (nowAt c st m)), none, none, some (.adr p), some (.int (m : Int)), some (deedD (.add k f)), some (natsD (emptied (.add k f))), some (.lst (((nowAt c st m).map intsD).set k (.adr pm))), none, e11, e12])
          (ei_list (ev_call (ea_cons (ev_var (i := 7) rfl) ea_nil) ⟨_, rfl, rfl⟩)) (fun x ρ' => tg_two) s7 ⟨rfl, rfl⟩ (fun _ _ _ i x _ _ _ _ hx => by simp at hx) ?_
        rintro os' ρ' H' σ' ⟨rfl, rfl⟩ s8
        have hget : (((nowAt c st m).map intsD).set k (.adr pm))[k]? = some (.adr pm) := by rw [List.getElem?_set_self (by rw [List.length_map]; exact hk)]
        refine q_gt (et_is (et_adds (n := c.length) rfl okd) hadd) s8 fun H9 s9 => ?_
        refine s_app (pre := [(p, _)]) (post := []) (p := pm) (d := .int (m : Int)) s9 (ev_op (ev_var (i := 9) rfl) (ev_op (ev_var (i := 7) rfl) ev_int (by first | exact od_ixt rfl | exact od_ixl rfl)) (od_ixl (atI_nat hget))) (ev_var (i := 6) rfl) (by
          rw [List.length_map, List.getD_eq_getElem?_getD, List.getElem?_eq_getElem hk]
          have := okn.short (by omega) (List.getElem_mem hk)
          simp only [Option.getD_some]
          omega) fun H10 s10 => ?_
        have s11 := s10.thaw (pre := [(p, _)]) (post := []) (i := 9) (k := k) rfl hget
        have e1 : Dt.lst (((((nowAt c st m).map intsD).set k (.adr pm)).set k (.lst (((nowAt c st m).getD k []).map Dt.int ++ [Dt.int (m : Int)])))) = nowD (nowAt c st (m + 1)) := by
          rw [nowAt_succ hm, List.set_set]
          have e2 : stepLots (nowAt c st m) m (.add k f) = (nowAt c st m).set k ((nowAt c st m).getD k [] ++ [(m : Int)]) := by
            have e3 : mix (nowAt c st m) (clear (nowAt c st m) (emptied (.add k f))) (waysOver (.add k f)) = nowAt c st m := hmk
            show (if f.isEmpty then mix (nowAt c st m) (clear (nowAt c st m) (emptied (.add k f))) (waysOver (.add k f)) else _) = _
            rw [if_neg hf, e3]
          rw [e2, nowD, List.map_set]
          congr 2
          rw [intsD, List.map_append]
          rfl
        have s12 := s11.as (ρ' := [some (cellarD c), some (storyD st), some (nowD (nowAt c st m)), none, none, some (.adr p), some (.int (m : Int)), some (deedD (.add k f)), some (natsD (emptied (.add k f))), some (nowD (nowAt c st (m + 1))), none, e11, e12]) (by rw [← e1]; rfl)
        refine q_set (ev_var (i := 9) rfl) s12 fun σ13 H13 s13 => ?_
        refine s_app (pre := []) (post := []) (p := p) (d := nowD (nowAt c st (m + 1))) s13 (ev_var (i := 5) rfl) (ev_var (i := 2) rfl) (by rw [List.length_map, List.length_range]; omega) fun H14 s14 => ?_
        refine hnx _ _ _ _ ⟨by rw [List.range_succ (n := m + 1), List.map_append]; rfl, _, _, _, _, _, _, rfl⟩ s14
      | move i j a b => cases hadd
      | swap i j a b => cases hadd
      | draw i a b => cases hadd
      | keep i a b => cases hadd
    · have hadd' : x.adds = false := by simpa using hadd
      refine q_ownE (pre := [(p, _)]) (post := []) ((el_lc0 (nowAt c st m).zipIdx (fun q => .tup [.int (q.2 : Int), intsD q.1]) (fun q => intsD (if q.2 ∈ emptied x then [] else q.1)) (fun q => [some (cellarD c), some (storyD st), some (nowD (nowAt c st m)), some (.int (q.2 : Int)), none, some (.adr p), some (.int (m : Int)), some (deedD x), some (natsD (emptied x)), e9, some (intsD q.1), e11, e12])
          (ei_enum' (ea_cons (ev_var (i := 2) rfl) ea_nil)) (js := [3, 10]) (by simp) (fun q _ => tg_two) (fun q _ => (el_clear rfl rfl rfl).ev) hlz).is (es := (clear (nowAt c st m) (emptied x)).map intsD) (by rw [clear, List.map_map]; rfl)) s6 fun pm σ7 H7 s7 => ?_
      refine q_for (waysOver x) pairD (fun q ρ => (ρ.set 11 (some (.int (q.1 : Int)))).set 12 (some (.int (q.2 : Int)))) (fun j os ρ => os = [(p, .lst ((List.range (m + 1)).map fun j => nowD (nowAt c st j))), (pm, .lst ((mix (nowAt c st m) (clear (nowAt c st m) (emptied x)) ((waysOver x).take j)).map intsD))] ∧ ∃ e11 e12, ρ = [some (cellarD c), some (storyD st), some (nowD (nowAt c st m)), none, none, some (.adr p), some (.int (m : Int)), some (deedD x), some (natsD (emptied x)), some (.adr pm), none, e11, e12])
          (ei_list (ev_call (ea_cons (ev_var (i := 7) rfl) ea_nil) ⟨_, rfl, rfl⟩)) (fun x ρ' => tg_two) s7 ⟨rfl, _, _, rfl⟩ ?_ ?_
      · rintro H8 e8 l8 j q os' ρ' H' σ' hq ⟨rfl, e11, e12, rfl⟩ s8 D'' hrt' hnx'
        have okm := mix_ok okn ((waysOver x).take j) (clear_ok okn (emptied x))
        obtain ⟨hq1, hq2⟩ := ways_ok okd q (List.mem_of_getElem? hq)
        have h1 : q.2 < (mix (nowAt c st m) (clear (nowAt c st m) (emptied x)) ((waysOver x).take j)).length := by rw [okm.len]; exact hq2
        have h2 : q.1 < (nowAt c st m).length := by rw [okn.len]; exact hq1
        have g1 : (mix (nowAt c st m) (clear (nowAt c st m) (emptied x)) ((waysOver x).take j))[q.2]? = some ((mix (nowAt c st m) (clear (nowAt c st m) (emptied x)) ((waysOver x).take j)).getD q.2 []) := by rw [List.getD_eq_getElem?_getD, List.getElem?_eq_getElem h1]; rfl
        have g2 : (nowAt c st m)[q.1]? = some ((nowAt c st m).getD q.1 []) := by rw [List.getD_eq_getElem?_getD, List.getElem?_eq_getElem h2]; rfl
        have l1 := okm.short (by omega) (List.mem_of_getElem? g1)
        have l2 := okn.short (by omega) (List.mem_of_getElem? g2)
        have hb : ∀ y ∈ srt ((mix (nowAt c st m) (clear (nowAt c st m) (emptied x)) ((waysOver x).take j)).getD q.2 [] ++ (nowAt c st m).getD q.1 []), -8 ≤ y ∧ y < (m : Int) := fun y hy => by
          rw [mem_srt, List.mem_append] at hy
          exact hy.elim (fun z => (okm.getD q.2).2 y z) fun z => (okn.getD q.1).2 y z
        have l3 := up_len (lo := -8) (hi := (m : Int)) srt_up hb
        refine s_setE (pre := [(p, _)]) (post := []) (i := 9) (j := q.2) s8 rfl (el_sortset (ns := (mix (nowAt c st m) (clear (nowAt c st m) (emptied x)) ((waysOver x).take j)).getD q.2 [] ++ (nowAt c st m).getD q.1 []) (zs := srt ((mix (nowAt c st m) (clear (nowAt c st m) (emptied x)) ((waysOver x).take j)).getD q.2 [] ++ (nowAt c st m).getD q.1 []))
          (ev_is (ev_op (ev_op (ev_var (i := 9) rfl) (ev_var (i := 12) rfl) (od_ixl (d := intsD _) (atI_nat (by rw [List.getElem?_map, g1]; rfl)))) (ev_op (ev_var (i := 2) rfl) (ev_var (i := 11) rfl) (od_ixl (d := intsD _) (atI_nat (by rw [List.getElem?_map, g2]; rfl)))) (od_cat (by rw [List.length_map, List.length_map]; omega))) (by rw [List.map_append])) (by rw [List.length_append]; omega) srt_up (fun k => mem_srt) (by omega)) (ev_var (i := 9) rfl) (ev_var (i := 12) rfl) (ixN_nat (by rw [List.length_map]; exact h1)) fun H9 s9 => ?_
        exact hnx' _ _ _ _ ⟨by rw [mix_take _ _ _ _ _ hq, List.map_set]; rfl, _, _, rfl⟩ s9
      · rintro os' ρ' H' σ' ⟨rfl, e11, e12, rfl⟩ s8
        rw [List.take_length, ← step_non (i := m) hadd', ← nowAt_succ hm] at s8
        have s9 := s8.freeze (pre := [(p, _)]) (post := []) (i := 9) rfl
        refine q_gd (et_is (et_adds (n := c.length) rfl okd) hadd') s9 fun H10 s10 => ?_
        refine q_set (d := nowD (nowAt c st (m + 1))) (ev_var (i := 9) rfl) s10 fun σ13 H13 s13 => ?_
        refine s_app (pre := []) (post := []) (p := p) (d := nowD (nowAt c st (m + 1))) s13 (ev_var (i := 5) rfl) (ev_var (i := 2) rfl) (by rw [List.length_map, List.length_range]; omega) fun H14 s14 => ?_
        refine hnx _ _ _ _ ⟨by rw [List.range_succ (n := m + 1), List.map_append]; rfl, _, _, _, _, _, _, rfl⟩ s14
  · rintro os' ρ' H' σ' ⟨rfl, e6, e7, e8, e9, e11, e12, rfl⟩ s4
    rw [List.length_zipIdx] at s4
    have s5 := s4.freeze (pre := []) (post := []) (i := 5) rfl
    refine s_ret (ev_is (ev_var (i := 5) rfl) ?_) s5 rt
    rw [aheadD, lotsAhead, List.map_map]
    rfl
end
end Ck
namespace Ck
open PySem PySem.Spec L2
open PyProof.Rows hiding St

/-- the scope of the comprehension that statement i of the def makes or returns -/
def lcSc (st : Stmt) (i : Nat) : Scope := match (defBody st)[i]? with
  | some (.Assign _ (.ListComp _ _ s _) _) => s
  | some (.Return (some (.ListComp _ _ s _)) _) => s
  | _ => defScope st
theorem ahead_at {c : List Fill} {s : List Deed} {i : Nat} (h : i ≤ s.length) : ((lotsAhead c s).map nowD)[i]? = some (nowD (nowAt c s i)) := by
  rw [lotsAhead, List.map_map, List.getElem?_map, List.getElem?_range (by omega)]
  rfl
theorem take_car {c : List Fill} {s : List Deed} {i : Nat} {x : Deed} (h : s[i]? = some x) : (s.zipIdx.take (i + 1)).filterMap (carry c s) = (s.zipIdx.take i).filterMap (carry c s) ++ (carry c s (x, i)).toList := by
  have hz : s.zipIdx[i]? = some (x, i) := by rw [List.getElem?_zipIdx, h]; simp
  rw [List.take_add_one, hz, List.filterMap_append]
  congr 1
theorem take_key {c : List Fill} {s : List Deed} {i : Nat} {p : Nat × List Int} (h : p ∈ (s.zipIdx.take i).filterMap (carry c s)) : p.1 < i := by
  obtain ⟨q, hq, e⟩ := List.mem_filterMap.mp h
  obtain ⟨j, hj⟩ := List.getElem?_of_mem hq
  rw [List.getElem?_take] at hj
  split at hj
  · obtain ⟨e2, _⟩ := zip_at hj
    obtain ⟨d, k⟩ := q
    simp only at e2
    subst e2
    cases d with
    | draw k' a b => simp only [carry, Option.some.injEq] at e; subst e; assumption
    | move i j a b => cases e
    | swap i j a b => cases e
    | keep i a b => cases e
    | add i f => cases e
  · cases hj
theorem take_len {c : List Fill} {s : List Deed} {i : Nat} (h : s.length ≤ 24) : ((s.zipIdx.take i).filterMap (carry c s)).length ≤ 24 := by
  have h1 := List.length_filterMap_le (carry c s) (s.zipIdx.take i)
  have h2 := List.length_take_le i s.zipIdx
  rw [List.length_take, List.length_zipIdx] at h1
  omega

section
variable {P : Program} {w : World} {K : PySem.W.Frag} {mg : Str → Option Value} {base : Heap} {k : Nat}

/-- what a test of the kind of a deed says -/
theorem et_draws {K : PySem.W.Frag} {ρ : List (Option Dt)} {i : Nat} {x : Deed} (h : ρ[i]? = some (some (deedD x))) : EvT (tTest (tOp rEq (tOp (rIx K) (tVar i) (tC (.int 0))) (tC (.str "draw")))) ρ x.draws := by
  cases x <;> exact et_is (et_T (ev_op (ev_op (ev_var h) ev_int (od_ixt rfl)) ev_str od_eqS)) rfl
def F_carried_lots : List Dt → Dt → Prop := fun ds d => ∃ (c : List Fill) (st : List Deed), ds = [cellarD c, storyD st] ∧ CellarOk c ∧ StoryOk c.length st ∧ d = carD (carriedLots c st)
theorem len_carried_lots {ds : List Dt} {d : Dt} (h : F_carried_lots ds d) : ds.length = 2 := by
  obtain ⟨c, st, rfl, _⟩ := h; rfl
theorem sc_carried_lots : FnScope ["cellar", "story", "ahead", "found", "index", "deed"] ["cellar", "story"] (defScope s_carried_lots) := ⟨rfl, rfl, rfl, by decide +kernel, rfl, by decide +kernel, by decide +kernel⟩
theorem has_carried_lots (T : Bt mg) (D : Dfn K mg "carried_lots" s_carried_lots) (h_lots_ahead : Has P w K mg base k "lots_ahead" ["cellar", "story"] (spP F_lots_ahead)) : Has P w K mg base (k + 1) "carried_lots" ["cellar", "story"] (spP F_carried_lots) := by
  have nd := (sc_carried_lots).nd
  refine D.hasP sc_carried_lots (fun _ _ _ _ _ _ us hl => match us, hl with | [_, _], _ => rfl) ?_ (fun f cdv A outer s H E hr => ?_)
  · intro ds d h
    exact len_carried_lots h
  have hu := hu_of hr
  refine ⟨_, (pss_cons (ps_set (i := 2) nd rfl (Or.inl rfl) (pe_has h_lots_ahead hr (by rfl) (pa_cons (pv 0) (pa_cons (pv 1) pa_nil))))
    (pss_cons (ps_set (i := 3) nd rfl (Or.inl rfl) pe_dnewK)
    (pss_cons (ps_for PassesOwn.never rfl (k_piET (K := K) rfl (by rfl) T.enumerate (pa_cons (pv 1) pa_nil)) (k_tup (K := K) rfl rfl (pgs_cons (pg_name (i := 4) nd rfl (Or.inl rfl)) (pgs_cons (pg_name (i := 5) nd rfl (Or.inl rfl)) pgs_nil))) (pss_one (ps_if (pt_cmpR op_eq (pe_ix (k_ix (K := K) rfl) (pv 5) pe_int (fun _ _ => rfl)) pe_str (nomark _)) (pss_one (ps_dput hu (pv 3) (pv 4) (pe_ifExp (pt_cmpR op_gt (pe_ix (k_ix (K := K) rfl) (pe_ix (k_ix (K := K) rfl) (pv 5) pe_int (fun _ _ => rfl)) pe_int (fun _ _ => rfl)) pe_int (nomark _)) (pe_callTy (k_list (K := K) rfl) (by rfl) T.list (by decide +kernel) (pa_cons (pe_ix (k_ix (K := K) rfl) (pe_ix (k_ix (K := K) rfl) (pv 2) (pv 4) (fun _ _ => rfl)) (pe_ix (k_ix (K := K) rfl) (pv 5) pe_int (fun _ _ => rfl)) (fun _ _ => rfl)) pa_nil)) (pe_lst pa_nil)) rfl)) pss_nil)))
    (pss_one (ps_ret (pv 3)))))), ?_⟩
  rintro ds d ⟨c, st, rfl, okc, oks, rfl⟩ ps σ D s rt nx
  have hc := okc.hi
  have hs := oks.hi
  refine q_set (ev_call (d := aheadD (lotsAhead c st)) (ea_cons (ev_var (i := 0) rfl) (ea_cons (ev_var (i := 1) rfl) ea_nil)) ⟨c, st, rfl, okc, oks, rfl⟩) s fun σ1 H1 s1 => ?_
  have s2 := s1.as (ρ' := [some (cellarD c), some (storyD st), some (aheadD (lotsAhead c st)), none, none, none]) rfl
  refine q_ownD (pre := []) (post := []) s2 fun p σ3 H3 s3 => ?_
  refine q_for st.zipIdx (fun p => .tup [.int (p.2 : Int), deedD p.1]) (fun p ρ => (ρ.set 4 (some (.int (p.2 : Int)))).set 5 (some (deedD p.1))) (fun i os ρ => os = [(p, .dic (carK ((st.zipIdx.take i).filterMap (carry c st))))] ∧ ∃ e4 e5, ρ = [some (cellarD c), some (storyD st), some (aheadD (lotsAhead c st)), some (.adr p), e4, e5]) (ei_enumT' (ea_cons (ev_var (i := 1) rfl) ea_nil)) (fun x ρ' => tg_two) s3 ⟨rfl, _, _, rfl⟩ ?_ ?_
  · rintro H4 e l i ⟨x, m⟩ os' ρ' H' σ' hx ⟨rfl, e4, e5, rfl⟩ s4 D' hrt hnx
    obtain ⟨em, hm⟩ := zip_at hx
    simp only at em hm
    subst em
    have hml : m < st.length := (List.getElem?_eq_some_iff.mp hm).1
    cases x with
    | draw k a b =>
      have okn := nowAt_ok hc st m
      have hk : k < (nowAt c st m).length := by rw [okn.len]; exact (oks.all _ (List.mem_of_getElem? hm)).1
      have g1 : (nowAt c st m)[k]? = some ((nowAt c st m).getD k []) := by rw [List.getD_eq_getElem?_getD, List.getElem?_eq_getElem hk]; rfl
      refine s_ifT (et_is (et_draws rfl) rfl) s4 fun H5 s5 => ?_
      refine s_dput (pre := []) (post := []) (k := .inl (m : Int)) (d := intsD (if 0 < a then (nowAt c st m).getD k [] else [])) s5 (ev_if (et_T (ev_op (ev_op (ev_op (ev_var (i := 5) rfl) ev_int (by first | exact od_ixt rfl | exact od_ixl rfl)) ev_int (by first | exact od_ixt rfl | exact od_ixl rfl)) ev_int od_gt)) (fun z => ?_) (fun z => ?_)) (ev_var (i := 3) rfl) (ev_var (i := 4) rfl) (by have := take_len (c := c) (i := m) hs; rw [List.length_map]; omega) fun H6 s6 => ?_
      · rw [if_pos (of_decide_eq_true z)]
        exact ev_cb (ea_cons (ev_op (ev_op (ev_var (i := 2) rfl) (ev_var (i := 4) rfl) (od_ixl (atI_nat (ahead_at (by omega))))) (ev_op (ev_var (i := 5) rfl) ev_int (by first | exact od_ixt rfl | exact od_ixl rfl)) (od_ixl (d := intsD _) (atI_nat (by rw [List.getElem?_map, g1]; rfl)))) ea_nil) cd_list
      · rw [if_neg (of_decide_eq_false z)]
        exact (ev_lst ea_nil (Nat.le_of_ble_eq_true rfl))
      · refine hnx _ _ _ _ ⟨?_, _, _, rfl⟩ s6
        rw [putD_new, take_car hm, carK, carK, List.map_append]
        · rfl
        · intro kv hkv z
          obtain ⟨q, hq, e⟩ := List.mem_map.mp hkv
          have := take_key hq
          subst e
          have z' := Sum.inl.inj z
          omega
    | move i j a b => exact s_ifF (et_is (et_draws rfl) rfl) s4 fun H5 s5 => hnx _ _ _ _ ⟨by rw [take_car hm], _, _, rfl⟩ (by simpa [carry] using s5)
    | swap i j a b => exact s_ifF (et_is (et_draws rfl) rfl) s4 fun H5 s5 => hnx _ _ _ _ ⟨by rw [take_car hm], _, _, rfl⟩ (by simpa [carry] using s5)
    | keep i a b => exact s_ifF (et_is (et_draws rfl) rfl) s4 fun H5 s5 => hnx _ _ _ _ ⟨by rw [take_car hm], _, _, rfl⟩ (by simpa [carry] using s5)
    | add i f => exact s_ifF (et_is (et_draws rfl) rfl) s4 fun H5 s5 => hnx _ _ _ _ ⟨by rw [take_car hm], _, _, rfl⟩ (by simpa [carry] using s5)
  · rintro os' ρ' H' σ' ⟨rfl, e4, e5, rfl⟩ s4
    rw [List.take_length] at s4
    have s5 := s4.freezeD (pre := []) (post := []) (i := 3) rfl
    exact s_ret (ev_var (i := 3) rfl) s5 rt
def F_lots : List Dt → Dt → Prop := fun ds d => ∃ (c : List Fill) (st : List Deed), ds = [cellarD c, storyD st] ∧ CellarOk c ∧ StoryOk c.length st ∧ d = intsD (everyLot c st)
theorem len_lots {ds : List Dt} {d : Dt} (h : F_lots ds d) : ds.length = 2 := by
  obtain ⟨c, st, rfl, _⟩ := h; rfl
theorem sc_lots : FnScope ["cellar", "story"] ["cellar", "story"] (defScope s_lots) := ⟨rfl, rfl, rfl, by decide +kernel, rfl, by decide +kernel, by decide +kernel⟩
theorem has_lots (T : Bt mg) (D : Dfn K mg "lots" s_lots) (h_need_cellar : Has P w K mg base k "need_cellar" ["cellar"] (spP F_need_cellar)) (h_need_story : Has P w K mg base k "need_story" ["story", "casks"] (spP F_need_story)) (h_every_lot : Has P w K mg base k "every_lot" ["cellar", "story"] (spP F_every_lot)) : Has P w K mg base (k + 1) "lots" ["cellar", "story"] (spP F_lots) := by
  have nd := (sc_lots).nd
  refine D.hasP sc_lots (fun _ _ _ _ _ _ us hl => match us, hl with | [_, _], _ => rfl) ?_ (fun f cdv A outer s H E hr => ?_)
  · intro ds d h
    exact len_lots h
  have hu := hu_of hr
  refine ⟨_, (pss_cons (ps_expr (pe_has h_need_cellar hr (by rfl) (pa_cons (pv 0) pa_nil)))
    (pss_cons (ps_expr (pe_has h_need_story hr (by rfl) (pa_cons (pv 1) (pa_cons (pe_callB (k_len (K := K) rfl) (by rfl) T.len PySem.boot_len (pa_cons (pv 0) pa_nil)) pa_nil))))
    (pss_one (ps_ret (pe_has h_every_lot hr (by rfl) (pa_cons (pv 0) (pa_cons (pv 1) pa_nil))))))), ?_⟩
  rintro ds d ⟨c, st, rfl, okc, oks, rfl⟩ ps σ D s rt nx
  refine q_drop (ev_call (d := .non) (ea_cons (ev_var (i := 0) rfl) ea_nil) ⟨c, rfl, okc, rfl⟩) s fun H1 s1 => ?_
  refine q_drop (ev_call (ds := [storyD st, .int (c.length : Int)]) (d := .non) (ea_cons (ev_var (i := 1) rfl) (ea_cons (ev_is (ev_cb (ea_cons (ev_var (i := 0) rfl) ea_nil) cd_lent) (by rw [List.length_map])) ea_nil)) ⟨c.length, st, rfl, oks, rfl⟩) s1 fun H2 s2 => ?_
  exact s_ret (ev_call (ea_cons (ev_var (i := 0) rfl) (ea_cons (ev_var (i := 1) rfl) ea_nil)) ⟨c, st, rfl, okc, oks, rfl⟩) s2 rt
def F_carried : List Dt → Dt → Prop := fun ds d => ∃ (c : List Fill) (st : List Deed) (i k : Nat) (a b : Int), ds = [cellarD c, storyD st, .int (i : Int)] ∧ CellarOk c ∧ StoryOk c.length st ∧ st[i]? = some (.draw k a b) ∧ d = intsD (lookC (carriedLots c st) i)
theorem len_carried {ds : List Dt} {d : Dt} (h : F_carried ds d) : ds.length = 3 := by
  obtain ⟨c, st, i, k, a, b, rfl, _⟩ := h; rfl
theorem sc_carried : FnScope ["cellar", "story", "index"] ["cellar", "story", "index"] (defScope s_carried) := ⟨rfl, rfl, rfl, by decide +kernel, rfl, by decide +kernel, by decide +kernel⟩
theorem has_carried (T : Bt mg) (D : Dfn K mg "carried" s_carried) (h_need_cellar : Has P w K mg base k "need_cellar" ["cellar"] (spP F_need_cellar)) (h_need_story : Has P w K mg base k "need_story" ["story", "casks"] (spP F_need_story)) (h_need_draw : Has P w K mg base k "need_draw" ["story", "index"] (spP F_need_draw)) (h_carried_lots : Has P w K mg base k "carried_lots" ["cellar", "story"] (spP F_carried_lots)) : Has P w K mg base (k + 1) "carried" ["cellar", "story", "index"] (spP F_carried) := by
  have nd := (sc_carried).nd
  refine D.hasP sc_carried (fun _ _ _ _ _ _ us hl => match us, hl with | [_, _, _], _ => rfl) ?_ (fun f cdv A outer s H E hr => ?_)
  · intro ds d h
    exact len_carried h
  have hu := hu_of hr
  refine ⟨_, (pss_cons (ps_expr (pe_has h_need_cellar hr (by rfl) (pa_cons (pv 0) pa_nil)))
    (pss_cons (ps_expr (pe_has h_need_story hr (by rfl) (pa_cons (pv 1) (pa_cons (pe_callB (k_len (K := K) rfl) (by rfl) T.len PySem.boot_len (pa_cons (pv 0) pa_nil)) pa_nil))))
    (pss_cons (ps_expr (pe_has h_need_draw hr (by rfl) (pa_cons (pv 1) (pa_cons (pv 2) pa_nil))))
    (pss_one (ps_ret (pe_dget hu (pe_has h_carried_lots hr (by rfl) (pa_cons (pv 0) (pa_cons (pv 1) pa_nil))) (pv 2) (fun _ _ => rfl))))))), ?_⟩
  rintro ds d ⟨c, st, i, k, a, b, rfl, okc, oks, hi, rfl⟩ ps σ D s rt nx
  refine q_drop (ev_call (d := .non) (ea_cons (ev_var (i := 0) rfl) ea_nil) ⟨c, rfl, okc, rfl⟩) s fun H1 s1 => ?_
  refine q_drop (ev_call (ds := [storyD st, .int (c.length : Int)]) (d := .non) (ea_cons (ev_var (i := 1) rfl) (ea_cons (ev_is (ev_cb (ea_cons (ev_var (i := 0) rfl) ea_nil) cd_lent) (by rw [List.length_map])) ea_nil)) ⟨c.length, st, rfl, oks, rfl⟩) s1 fun H2 s2 => ?_
  refine q_drop (ev_call (d := .non) (ea_cons (ev_var (i := 1) rfl) (ea_cons (ev_var (i := 2) rfl) ea_nil)) ⟨st, i, k, a, b, rfl, hi, rfl⟩) s2 fun H3 s3 => ?_
  exact s_ret (ev_dget (kvs := carK (carriedLots c st)) (k := .inl (i : Int)) (ev_call (ea_cons (ev_var (i := 0) rfl) (ea_cons (ev_var (i := 1) rfl) ea_nil)) ⟨c, st, rfl, okc, oks, rfl⟩) (ev_var (i := 2) rfl) (look_car (car_mem hi))) s3 rt
def F_is_look : List Dt → Dt → Prop := fun ds d => ∃ (st : List Deed) (p : Nat × Bool) (k : Nat) (a b : Int), ds = [storyD st, lookD p] ∧ st[p.1]? = some (.draw k a b) ∧ d = .bl true
theorem len_is_look {ds : List Dt} {d : Dt} (h : F_is_look ds d) : ds.length = 2 := by
  obtain ⟨st, p, k, a, b, rfl, _⟩ := h; rfl
theorem sc_is_look : FnScope ["story", "look"] ["story", "look"] (defScope s_is_look) := ⟨rfl, rfl, rfl, by decide +kernel, rfl, by decide +kernel, by decide +kernel⟩
theorem has_is_look (T : Bt mg) (D : Dfn K mg "is_look" s_is_look) (h_is_draw : Has P w K mg base k "is_draw" ["story", "index"] (spP F_is_draw)) : Has P w K mg base (k + 1) "is_look" ["story", "look"] (spP F_is_look) := by
  have nd := (sc_is_look).nd
  refine D.hasP sc_is_look (fun _ _ _ _ _ _ us hl => match us, hl with | [_, _], _ => rfl) ?_ (fun f cdv A outer s H E hr => ?_)
  · intro ds d h
    exact len_is_look h
  have hu := hu_of hr
  refine ⟨_, (pss_cons (ps_if (PW.pt (pw_or (pt_not (pt_val (pe_callB (k_isi (K := K) rfl) (by rfl) T.isinstance (by decide +kernel) (pa_cons (pv 1) (pa_cons (pe_bltn (v := .ty "tuple") (by rfl) T.tuple (by decide +kernel) rfl) pa_nil))))) (pw_or1 (pt_cmpR op_ne (pe_callB (k_len (K := K) rfl) (by rfl) T.len PySem.boot_len (pa_cons (pv 1) pa_nil)) pe_int (nomark _))))) (pss_one (ps_ret pe_bl)) pss_nil)
    (pss_one (ps_ret (pe_and (pe_has h_is_draw hr (by rfl) (pa_cons (pv 0) (pa_cons (pe_ix (k_ix (K := K) rfl) (pv 1) pe_int (fun _ _ => rfl)) pa_nil))) (pe_one (pe_callB (k_isi (K := K) rfl) (by rfl) T.isinstance (by decide +kernel) (pa_cons (pe_ix (k_ix (K := K) rfl) (pv 1) pe_int (fun _ _ => rfl)) (pa_cons (pe_bltn (v := .ty "bool") (by rfl) T.bool (by decide +kernel) rfl) pa_nil)))))))), ?_⟩
  rintro ds d ⟨st, p, k, a, b, rfl, hi, rfl⟩ ps σ D s rt nx
  refine q_gd (et_is (et_or (et_not (et_B (ev_cb (ea_cons (ev_var (i := 1) rfl) (ea_cons ev_ty ea_nil)) (cd_isi (b := true) rfl (by decide +kernel))))) fun _ => (et_T (ev_op (ev_cb (ea_cons (ev_var (i := 1) rfl) ea_nil) (by first | exact cd_lenl | exact cd_lent)) ev_int (by first | exact od_neI | exact od_neS | exact od_neB)))) rfl) s fun H1 s1 => ?_
  exact s_ret (ev_is (ev_andb (ev_call (ds := [storyD st, .int (p.1 : Int)]) (ea_cons (ev_var (i := 0) rfl) (ea_cons (ev_op (ev_var (i := 1) rfl) ev_int (by first | exact od_ixt rfl | exact od_ixl rfl)) ea_nil)) ⟨st, p.1, k, a, b, rfl, hi, rfl⟩) fun _ => (ev_cb (ea_cons (ev_op (ev_var (i := 1) rfl) ev_int (by first | exact od_ixt rfl | exact od_ixl rfl)) (ea_cons ev_ty ea_nil)) (cd_isi (b := true) rfl (by decide +kernel)))) rfl) s1 rt
def F_need_told : List Dt → Dt → Prop := fun ds d => ∃ (st : List Deed) (t : List (Nat × Bool)), ds = [storyD st, toldD t] ∧ ToldOk st t ∧ d = .non
theorem len_need_told {ds : List Dt} {d : Dt} (h : F_need_told ds d) : ds.length = 2 := by
  obtain ⟨st, t, rfl, _⟩ := h; rfl
theorem sc_need_told : FnScope ["story", "told", "look"] ["story", "told"] (defScope s_need_told) := ⟨rfl, rfl, rfl, by decide +kernel, rfl, by decide +kernel, by decide +kernel⟩
theorem has_need_told (T : Bt mg) (D : Dfn K mg "need_told" s_need_told) (h_is_look : Has P w K mg base k "is_look" ["story", "look"] (spP F_is_look)) : Has P w K mg base (k + 1) "need_told" ["story", "told"] (spP F_need_told) := by
  have nd := (sc_need_told).nd
  refine D.hasP sc_need_told (fun _ _ _ _ _ _ us hl => match us, hl with | [_, _], _ => rfl) ?_ (fun f cdv A outer s H E hr => ?_)
  · intro ds d h
    exact len_need_told h
  have hu := hu_of hr
  refine ⟨_, (pss_one (ps_if (PW.pt (pw_or (pt_not (pt_val (pe_callB (k_isi (K := K) rfl) (by rfl) T.isinstance (by decide +kernel) (pa_cons (pv 1) (pa_cons (pe_bltn (v := .ty "tuple") (by rfl) T.tuple (by decide +kernel) rfl) pa_nil))))) (pw_or1 (pt_not (pt_val (pe_callB (k_all (K := K) rfl rfl) (by rfl) T.all (by decide +kernel) (pa_cons (pe_lc (own := [("look", 2)]) (g := (gName 2)) (tt := tYes) rfl nd (k_piT (K := K) rfl (pv 1)) (blkOk_by (N := ["story", "told", "look"]) (sc := defScope s_need_told) (by decide +kernel)) (fun _ _ _ _ _ => (pg_name (i := 2) nd rfl (Or.inl rfl))) (fun _ _ _ _ _ => pts_nil) (fun _ _ _ _ _ => (pe_has h_is_look hr (by rfl) (pa_cons (pv 0) (pa_cons (pv 2) pa_nil))))) pa_nil))))))) (pss_one ps_never) pss_nil)), ?_⟩
  rintro ds d ⟨st, t, rfl, ok, rfl⟩ ps σ D s rt nx
  refine s_gd (et_is (et_or (et_not (et_B (ev_cb (ea_cons (ev_var (i := 1) rfl) (ea_cons ev_ty ea_nil)) (cd_isi (b := true) rfl (by decide +kernel))))) fun _ => et_not (et_B (ev_cb (ea_cons (ev_lc0 t lookD (fun _ => .bl true) (fun p => [some (storyD st), some (toldD t), some (lookD p)]) (ei_tup (ev_var (i := 1) rfl)) (js := [2]) (by simp) (fun p _ => tg_name) (fun p hp => ev_call (ea_cons (ev_var (i := 0) rfl) (ea_cons (ev_var (i := 2) rfl) ea_nil)) (let ⟨k, a, b, h⟩ := ok.all p hp; ⟨st, p, k, a, b, rfl, h, rfl⟩)) (le5 ok.few)) ea_nil) (cd_allT t)))) rfl) s fun H1 s1 => rt.fall nx s1
def F_fitting_lots : List Dt → Dt → Prop := fun ds d => ∃ (c : List Fill) (st : List Deed) (t : List (Nat × Bool)), ds = [cellarD c, storyD st, toldD t] ∧ CellarOk c ∧ StoryOk c.length st ∧ ToldOk st t ∧ d = intsD (fitting c st t)
theorem len_fitting_lots {ds : List Dt} {d : Dt} (h : F_fitting_lots ds d) : ds.length = 3 := by
  obtain ⟨c, st, t, rfl, _⟩ := h; rfl
theorem sc_fitting_lots : FnScope ["cellar", "story", "told", "carries", "found", "index", "bad", "lot"] ["cellar", "story", "told"] (defScope s_fitting_lots) := ⟨rfl, rfl, rfl, by decide +kernel, rfl, by decide +kernel, by decide +kernel⟩
theorem has_fitting_lots (T : Bt mg) (D : Dfn K mg "fitting_lots" s_fitting_lots) (h_carried_lots : Has P w K mg base k "carried_lots" ["cellar", "story"] (spP F_carried_lots)) (h_every_lot : Has P w K mg base k "every_lot" ["cellar", "story"] (spP F_every_lot)) : Has P w K mg base (k + 1) "fitting_lots" ["cellar", "story", "told"] (spP F_fitting_lots) := by
  have nd := (sc_fitting_lots).nd
  refine D.hasP sc_fitting_lots (fun _ _ _ _ _ _ us hl => match us, hl with | [_, _, _], _ => rfl) ?_ (fun f cdv A outer s H E hr => ?_)
  · intro ds d h
    exact len_fitting_lots h
  have hu := hu_of hr
  refine ⟨_, (pss_cons (ps_set (i := 3) nd rfl (Or.inr rfl) (pe_has h_carried_lots hr (by rfl) (pa_cons (pv 0) (pa_cons (pv 1) pa_nil))))
    (pss_cons (ps_set (i := 4) nd rfl (Or.inl rfl) (pe_has h_every_lot hr (by rfl) (pa_cons (pv 0) (pa_cons (pv 1) pa_nil))))
    (pss_cons (ps_for PassesOwn.never rfl (k_piT (K := K) rfl (pv 2)) (k_tup (K := K) rfl rfl (pgs_cons (pg_name (i := 5) nd rfl (Or.inr rfl)) (pgs_cons (pg_name (i := 6) nd rfl (Or.inr rfl)) pgs_nil))) (pss_one (ps_setLc (i := 4) (own := [("lot", 7)]) (g := (gName 7)) rfl nd rfl rfl (sw_true rfl rfl rfl (by decide +kernel)) (k_piL (K := K) rfl (pv 4)) (blkOk_by (N := ["cellar", "story", "told", "carries", "found", "index", "bad", "lot"]) (sc := defScope s_fitting_lots) (by decide +kernel)) (fun _ _ _ _ _ => (pg_name (i := 7) nd rfl (Or.inl rfl))) (fun _ _ _ _ _ => (pts_one (pt_cmpR op_eq (pe_cmpR (k_in (K := K) rfl) (pv 7) (pe_dget hu (pv 3) (pv 5) (fun _ _ => rfl)) (by rfl)) (pv 6) (nomark _)))) (fun _ _ _ _ _ => (pv 7)))))
    (pss_one (ps_ret (pv 4)))))), ?_⟩
  rintro ds d ⟨c, st, t, rfl, okc, oks, okt, rfl⟩ ps σ D s rt nx
  have hc := okc.hi
  have hs := oks.hi
  refine q_set (ev_call (d := carD (carriedLots c st)) (ea_cons (ev_var (i := 0) rfl) (ea_cons (ev_var (i := 1) rfl) ea_nil)) ⟨c, st, rfl, okc, oks, rfl⟩) s fun σ1 H1 s1 => ?_
  refine q_set (ev_call (d := intsD (everyLot c st)) (ea_cons (ev_var (i := 0) rfl) (ea_cons (ev_var (i := 1) rfl) ea_nil)) ⟨c, st, rfl, okc, oks, rfl⟩) s1 fun σ2 H2 s2 => ?_
  refine q_for t lookD (fun p ρ => (ρ.set 5 (some (.int (p.1 : Int)))).set 6 (some (.bl p.2))) (fun i os ρ => os = [] ∧ ∃ e5 e6, ρ = [some (cellarD c), some (storyD st), some (toldD t), some (carD (carriedLots c st)), some (intsD ((t.take i).foldl (fun found p => keepFit (carriedLots c st) p found) (everyLot c st))), e5, e6, none]) (ei_tup (ev_var (i := 2) rfl)) (fun x ρ' => tg_two) s2 ⟨rfl, _, _, rfl⟩ ?_ ?_
  · rintro H4 e l i p os' ρ' H' σ' hx ⟨rfl, e5, e6, rfl⟩ s4 D' hrt hnx
    obtain ⟨k, a, b, hp⟩ := okt.all p (List.mem_of_getElem? hx)
    have hl : ((t.take i).foldl (fun found p => keepFit (carriedLots c st) p found) (everyLot c st)).length ≤ 32 := by
      rw [fit_eq]
      exact Nat.le_trans (List.length_filter_le _ _) (every_len hc hs)
    refine s_set (d := intsD (keepFit (carriedLots c st) p ((t.take i).foldl (fun found p => keepFit (carriedLots c st) p found) (everyLot c st)))) (ev_lc _ Dt.int _ Dt.int (fun l => [some (cellarD c), some (storyD st), some (toldD t), some (carD (carriedLots c st)), some (intsD ((t.take i).foldl (fun found p => keepFit (carriedLots c st) p found) (everyLot c st))), some (.int (p.1 : Int)), some (.bl p.2), some (.int l)])
      (ei_list (ev_var (i := 4) rfl)) (js := [7]) (by simp) (fun l _ => tg_name) (fun l hl => et_T (ev_op (ev_op (ev_var (i := 7) rfl) (ev_dget (kvs := carK (carriedLots c st)) (k := .inl (p.1 : Int)) (ev_var (i := 3) rfl) (ev_var (i := 5) rfl) (look_car (car_mem hp))) (od_inIl (lookC (carriedLots c st) p.1))) (ev_var (i := 6) rfl) od_eqB)) (fun l _ _ => (ev_var (i := 7) rfl)) (by omega)) s4 fun σ5 H5 s5 => ?_
    exact hnx _ _ _ _ ⟨rfl, _, _, by rw [List.take_add_one, hx, List.foldl_append]; rfl⟩ s5
  · rintro os' ρ' H' σ' ⟨rfl, e5, e6, rfl⟩ s4
    rw [List.take_length] at s4
    exact s_ret (ev_var (i := 4) rfl) s4 rt
def F_suspects : List Dt → Dt → Prop := fun ds d => ∃ (c : List Fill) (st : List Deed) (t : List (Nat × Bool)), ds = [cellarD c, storyD st, toldD t] ∧ CellarOk c ∧ StoryOk c.length st ∧ ToldOk st t ∧ d = intsD (fitting c st t)
theorem len_suspects {ds : List Dt} {d : Dt} (h : F_suspects ds d) : ds.length = 3 := by
  obtain ⟨c, st, t, rfl, _⟩ := h; rfl
theorem sc_suspects : FnScope ["cellar", "story", "told"] ["cellar", "story", "told"] (defScope s_suspects) := ⟨rfl, rfl, rfl, by decide +kernel, rfl, by decide +kernel, by decide +kernel⟩
theorem has_suspects (T : Bt mg) (D : Dfn K mg "suspects" s_suspects) (h_need_cellar : Has P w K mg base k "need_cellar" ["cellar"] (spP F_need_cellar)) (h_need_story : Has P w K mg base k "need_story" ["story", "casks"] (spP F_need_story)) (h_need_told : Has P w K mg base k "need_told" ["story", "told"] (spP F_need_told)) (h_fitting_lots : Has P w K mg base k "fitting_lots" ["cellar", "story", "told"] (spP F_fitting_lots)) : Has P w K mg base (k + 1) "suspects" ["cellar", "story", "told"] (spP F_suspects) := by
  have nd := (sc_suspects).nd
  refine D.hasP sc_suspects (fun _ _ _ _ _ _ us hl => match us, hl with | [_, _, _], _ => rfl) ?_ (fun f cdv A outer s H E hr => ?_)
  · intro ds d h
    exact len_suspects h
  have hu := hu_of hr
  refine ⟨_, (pss_cons (ps_expr (pe_has h_need_cellar hr (by rfl) (pa_cons (pv 0) pa_nil)))
    (pss_cons (ps_expr (pe_has h_need_story hr (by rfl) (pa_cons (pv 1) (pa_cons (pe_callB (k_len (K := K) rfl) (by rfl) T.len PySem.boot_len (pa_cons (pv 0) pa_nil)) pa_nil))))
    (pss_cons (ps_expr (pe_has h_need_told hr (by rfl) (pa_cons (pv 1) (pa_cons (pv 2) pa_nil))))
    (pss_one (ps_ret (pe_has h_fitting_lots hr (by rfl) (pa_cons (pv 0) (pa_cons (pv 1) (pa_cons (pv 2) pa_nil))))))))), ?_⟩
  rintro ds d ⟨c, st, t, rfl, okc, oks, okt, rfl⟩ ps σ D s rt nx
  refine q_drop (ev_call (d := .non) (ea_cons (ev_var (i := 0) rfl) ea_nil) ⟨c, rfl, okc, rfl⟩) s fun H1 s1 => ?_
  refine q_drop (ev_call (ds := [storyD st, .int (c.length : Int)]) (d := .non) (ea_cons (ev_var (i := 1) rfl) (ea_cons (ev_is (ev_cb (ea_cons (ev_var (i := 0) rfl) ea_nil) cd_lent) (by rw [List.length_map])) ea_nil)) ⟨c.length, st, rfl, oks, rfl⟩) s1 fun H2 s2 => ?_
  refine q_drop (ev_call (d := .non) (ea_cons (ev_var (i := 1) rfl) (ea_cons (ev_var (i := 2) rfl) ea_nil)) ⟨st, t, rfl, okt, rfl⟩) s2 fun H3 s3 => ?_
  exact s_ret (ev_call (ea_cons (ev_var (i := 0) rfl) (ea_cons (ev_var (i := 1) rfl) (ea_cons (ev_var (i := 2) rfl) ea_nil))) ⟨c, st, t, rfl, okc, oks, okt, rfl⟩) s3 rt
end
end Ck
namespace Ck
open PySem PySem.Spec L2
open PyProof.Rows hiding St

theorem lookup_rl {env : Env} {x : Str} {k : NameKind} : ∀ {names : List (Str × NameKind)}, names.lookup x = some k → (k = .cell ∨ k = .free) →
    ((names.map fun (n, k) => if (k == NameKind.free && env.scope.kind == .function && env.kindOf n == some .cell) then (n, NameKind.cell) else (n, k)).lookup x = some .cell ∨
     (names.map fun (n, k) => if (k == NameKind.free && env.scope.kind == .function && env.kindOf n == some .cell) then (n, NameKind.cell) else (n, k)).lookup x = some .free)
  | [], h, _ => by simp at h
  | (n, k') :: r, h, hk => by
    have ih := @lookup_rl env x k r
    show (List.lookup x ((if (k' == NameKind.free && env.scope.kind == .function && env.kindOf n == some .cell) = true then (n, NameKind.cell) else (n, k')) :: _) = _) ∨ (List.lookup x ((if (k' == NameKind.free && env.scope.kind == .function && env.kindOf n == some .cell) = true then (n, NameKind.cell) else (n, k')) :: _) = _)
    cases hx : x == n with
    | true =>
      simp only [List.lookup_cons, hx] at h
      cases h
      by_cases hc : (k == NameKind.free && env.scope.kind == .function && env.kindOf n == some .cell) = true
      · rw [if_pos hc]; left; simp [List.lookup_cons, hx]
      · rw [if_neg hc]; rcases hk with e | e <;> subst e <;> simp [List.lookup_cons, hx]
    | false =>
      simp only [List.lookup_cons, hx] at h
      by_cases hc : (k' == NameKind.free && env.scope.kind == .function && env.kindOf n == some .cell) = true
      · rw [if_pos hc]; simp only [List.lookup_cons, hx]; exact ih h hk
      · rw [if_neg hc]; simp only [List.lookup_cons, hx]; exact ih h hk
theorem blkOk_rl {N N' : List Str} {sc sc' scope : Scope} {env : Env} {own : List (Str × Nat)} (hN : N' = N) (hs : sc' = relabel sc env) (h : blkC N sc scope own = true) : BlkOk N' sc' scope own := by
  subst hN
  subst hs
  have o := blkOk_by h
  refine ⟨o.kind, o.uniq, o.ix, fun y hy e => ?_, o.own⟩
  rcases o.free y hy e with q | q
  · exact lookup_rl q (.inl rfl)
  · exact lookup_rl q (.inr rfl)
theorem od_shl1 {n : Nat} (h : n ≤ 1000000) : OpD (rI CPow fun i j => V.int (i * 2 ^ j.toNat)) (.int 1) (.int (n : Int)) (.int ((2 ^ n : Nat) : Int)) := by
  have e : ((2 ^ n : Nat) : Int) = 1 * 2 ^ ((n : Int)).toNat := by rw [Int.one_mul, Int.toNat_natCast, Int.natCast_pow]; rfl
  rw [e]
  exact od_I ⟨by omega, by omega, by decide⟩
theorem od_shrN {n k : Nat} : OpD (rI (fun _ j => 0 ≤ j) fun i j => V.int (i / 2 ^ j.toNat)) (.int (n : Int)) (.int (k : Int)) (.int ((n / 2 ^ k : Nat) : Int)) := by
  have e : ((n / 2 ^ k : Nat) : Int) = (n : Int) / 2 ^ ((k : Int)).toNat := by rw [Int.toNat_natCast, Int.natCast_ediv, Int.natCast_pow]; rfl
  rw [e]
  exact od_I (Int.natCast_nonneg k)
theorem od_andN {n k : Nat} : OpD (rI0 fun i j => V.int (Builtin.bitAnd i j)) (.int (n : Int)) (.int (k : Int)) (.int ((n &&& k : Nat) : Int)) := by
  rw [← PySem.W.os_band n k]
  exact od_I0
theorem od_and1 {n : Nat} : OpD (rI0 fun i j => V.int (Builtin.bitAnd i j)) (.int (n : Int)) (.int 1) (.int ((n % 2 : Nat) : Int)) := by
  have h := od_andN (n := n) (k := 1)
  rw [Nat.and_one_is_mod] at h
  exact h
theorem cd_sortedDI {kvs : List (Key × Dt)} {ks zs : List Int} (hk : kvs.map (·.1) = ks.map Sum.inl) (hl : ks.length < 64) (hp : zs.Perm ks) (hs : zs.Pairwise (· ≤ ·)) : ClD (fun xs H Q => ∃ (a : Addr) (kvs : List (Key × V)) (ks : List Int), xs = [.ref a] ∧ Rd H a (.dK kvs) ∧ kvs.map (·.1) = ks.map Sum.inl ∧ ks.length < 64 ∧
    ∀ (ys : List Int) (p : Addr), ys.Perm ks → ys.Pairwise (· ≤ ·) → H p = none → Q (.ref p) (upd H p (.lst (ys.map V.int)))) [.dic kvs] (.lst (zs.map Dt.int)) := fun ps H vs l r Q q => by
  cases r with
  | cons r t =>
    cases t
    cases r with
    | dic ha r =>
      refine ⟨_, _, ks, rfl, ?_, by rw [r.keys]; exact hk, hl, fun ys p h1 h2 hp' => ?_⟩
      · exact (Ex.kp (hid_ex ps H)).d _ _ ha
      · have e : ys = zs := sorted_one (h1.trans hp.symm) h2 hs
        rw [e]
        exact q _ _ (.new hp') (.lst (hid_mk upd_same (l.new hp')) (RA.of_ints zs))
theorem sum_cast (xs : List Nat) : (xs.map fun (n : Nat) => (n : Int)).sum = ((xs.sum : Nat) : Int) := by
  induction xs with
  | nil => rfl
  | cons x xs ih => rw [List.map_cons, List.sum_cons, List.sum_cons, ih]; omega
theorem lookC_of {car : List (Nat × List Int)} {p : Nat × List Int} (hu : (car.map (·.1)).Pairwise (· < ·)) (h : p ∈ car) : lookC car p.1 = p.2 := by
  have hm : p.1 ∈ car.map (·.1) := List.mem_map.mpr ⟨p, h, rfl⟩
  have h2 := lookC_mem hm
  have key : ∀ {car : List (Nat × List Int)}, (car.map (·.1)).Pairwise (· < ·) → ∀ {i : Nat} {a b : List Int}, (i, a) ∈ car → (i, b) ∈ car → a = b := by
    intro car
    induction car with
    | nil => intro _ i a b h; cases h
    | cons q car ih =>
      intro hu i a b ha hb
      rw [List.map_cons, List.pairwise_cons] at hu
      rcases List.mem_cons.mp ha with e | ha
      · rcases List.mem_cons.mp hb with e' | hb
        · rw [← e] at e'; cases e'; rfl
        · have := hu.1 _ (List.mem_map.mpr ⟨_, hb, rfl⟩)
          rw [← e] at this
          simp at this
      · rcases List.mem_cons.mp hb with e' | hb
        · have := hu.1 _ (List.mem_map.mpr ⟨_, ha, rfl⟩)
          rw [← e'] at this
          simp at this
        · exact ih hu.2 ha hb
  exact key hu h2 h
def kindAt (ts : List (Nat × Nat)) (k : Nat) : List Int := ts.map fun p => ((p.2 / 2 ^ k % 2 : Nat) : Int)
def apart (ts : List (Nat × Nat)) (n : Nat) : Bool := decide ((List.range n).map (kindAt ts)).Nodup

section
variable {P : Program} {w : World} {K : PySem.W.Frag} {mg : Str → Option Value} {base : Heap} {k : Nat}

def F_tests_of : List Dt → Dt → Prop := fun ds d => ∃ (c : List Fill) (st : List Deed) (found : List Int), ds = [cellarD c, storyD st, intsD found] ∧ CellarOk c ∧ StoryOk c.length st ∧ found.length ≤ 1000 ∧ d = testsD (testsOf c st found)
theorem len_tests_of {ds : List Dt} {d : Dt} (h : F_tests_of ds d) : ds.length = 3 := by
  obtain ⟨c, st, found, rfl, _⟩ := h; rfl
theorem sc_tests_of : FnScope ["cellar", "story", "found", "carries", "tests", "index", "at", "lot"] ["cellar", "story", "found"] (defScope s_tests_of) := ⟨rfl, rfl, rfl, by decide +kernel, rfl, by decide +kernel, by decide +kernel⟩
theorem has_tests_of (T : Bt mg) (D : Dfn K mg "tests_of" s_tests_of) (h_carried_lots : Has P w K mg base k "carried_lots" ["cellar", "story"] (spP F_carried_lots)) : Has P w K mg base (k + 1) "tests_of" ["cellar", "story", "found"] (spP F_tests_of) := by
  have nd := (sc_tests_of).nd
  refine D.hasP sc_tests_of (fun _ _ _ _ _ _ us hl => match us, hl with | [_, _, _], _ => rfl) ?_ (fun f cdv A outer s H E hr => ?_)
  · intro ds d h
    exact len_tests_of h
  have hu := hu_of hr
  refine ⟨_, (pss_cons (ps_set (i := 3) nd rfl (Or.inr rfl) (pe_has h_carried_lots hr (by rfl) (pa_cons (pv 0) (pa_cons (pv 1) pa_nil))))
    (pss_cons (ps_set (i := 4) nd rfl (Or.inl rfl) (pe_lst pa_nil))
    (pss_cons (ps_for PassesOwn.never rfl (k_piL (K := K) rfl (pe_callB (call_sortedDI rfl) (by rfl) T.sorted (by decide +kernel) (pa_cons (pv 3) pa_nil))) (pg_name (i := 5) nd rfl (Or.inr rfl)) (pss_one (ps_expr (k_app (K := K) rfl (pv 4) (pe_tup (pa_cons (pv 5) (pa_cons (pe_callB (k_sum (K := K) rfl rfl) (by rfl) T.sum (by decide +kernel) (pa_cons (pe_lc (own := [("at", 6), ("lot", 7)]) (g := (gTup K 2 (gCons (gName 6) (gCons (gName 7) gNil)))) rfl nd (k_piE (K := K) rfl (by rfl) T.enumerate (pa_cons (pv 2) pa_nil)) (blkOk_by (N := ["cellar", "story", "found", "carries", "tests", "index", "at", "lot"]) (sc := defScope s_tests_of) (by decide +kernel)) (fun _ _ _ _ _ => (k_tup (K := K) rfl rfl (pgs_cons (pg_name (i := 6) nd rfl (Or.inl rfl)) (pgs_cons (pg_name (i := 7) nd rfl (Or.inl rfl)) pgs_nil)))) (fun _ _ _ _ _ => (pts_one (pt_cmpR (k_in (K := K) rfl) (pv 7) (pe_dget hu (pv 3) (pv 5) (fun _ _ => rfl)) (by rfl)))) (fun _ _ _ _ _ => (pe_op op_shl pe_int (pv 6)))) pa_nil)) pa_nil)))))))
    (pss_one (ps_ret (pv 4)))))), ?_⟩
  rintro ds d ⟨c, st, found, rfl, okc, oks, hf, rfl⟩ ps σ D s rt nx
  have hc := okc.hi
  have hs := oks.hi
  have hcl := car_len c st
  have hup := car_up c st
  refine q_set (ev_call (d := carD (carriedLots c st)) (ea_cons (ev_var (i := 0) rfl) (ea_cons (ev_var (i := 1) rfl) ea_nil)) ⟨c, st, rfl, okc, oks, rfl⟩) s fun σ1 H1 s1 => ?_
  have s2 := s1.as (ρ' := [some (cellarD c), some (storyD st), some (intsD found), some (carD (carriedLots c st)), none, none, none, none]) rfl
  refine q_own (pre := []) (post := []) s2 fun p σ3 H3 s3 => ?_
  refine q_for (carriedLots c st) (fun q => .int (q.1 : Int)) (fun q ρ => ρ.set 5 (some (.int (q.1 : Int)))) (fun i os ρ => os = [(p, .lst (((carriedLots c st).take i).map fun q => pairD (q.1, bitsOf found q.2)))] ∧ ∃ e5, ρ = [some (cellarD c), some (storyD st), some (intsD found), some (carD (carriedLots c st)), some (.adr p), e5, none, none])
    (ei_list (ev_is (ev_cb (ea_cons (ev_var (i := 3) rfl) ea_nil) (cd_sortedDI (kvs := carK (carriedLots c st)) (ks := ((carriedLots c st).map fun q => (q.1 : Int))) (by rw [List.map_map, List.map_map]; rfl) (by rw [List.length_map]; omega) (List.Perm.refl _) (by rw [List.pairwise_map] at hup ⊢; exact hup.imp fun {a b} h => by omega))) (by rw [List.map_map]; rfl))) (fun x ρ' => tg_name) s3 ⟨rfl, _, rfl⟩ ?_ ?_
  · rintro H4 e l i q os' ρ' H' σ' hx ⟨rfl, e5, rfl⟩ s4 D' hrt hnx
    have hq := List.mem_of_getElem? hx
    have hlq := lookC_of hup hq
    have hk : q.1 ∈ (carriedLots c st).map (·.1) := List.mem_map.mpr ⟨q, hq, rfl⟩
    have hi : i < (carriedLots c st).length := (List.getElem?_eq_some_iff.mp hx).1
    refine s_app (pre := []) (post := []) (p := p) (d := pairD (q.1, bitsOf found q.2)) s4 (ev_var (i := 4) rfl) (ev_is (ev_tup (ea_cons (ev_var (i := 5) rfl) (ea_cons (ev_cb (ea_cons (ev_is (ev_lc found.zipIdx (fun p => .tup [.int (p.2 : Int), .int p.1]) (fun p => decide (p.1 ∈ q.2)) (fun p => .int ((2 ^ p.2 : Nat) : Int)) (fun x => [some (cellarD c), some (storyD st), some (intsD found), some (carD (carriedLots c st)), some (.adr p), some (.int (q.1 : Int)), some (.int (x.2 : Int)), some (.int x.1)])
      (ei_enum' (ea_cons (ev_var (i := 2) rfl) ea_nil)) (js := [6, 7]) (by simp) (fun p _ => tg_two) (fun x hx => et_T (ev_is (ev_op (ev_var (i := 7) rfl) (ev_dget (kvs := carK (carriedLots c st)) (k := .inl (q.1 : Int)) (ev_var (i := 3) rfl) (ev_var (i := 5) rfl) (look_car hk)) (od_inIl (lookC (carriedLots c st) q.1))) (by rw [hlq]))) (fun x hx _ => ev_op ev_int (ev_var (i := 6) rfl) (od_shl1 (by have := (List.getElem?_eq_some_iff.mp (mem_zip (List.mem_of_getElem? (List.getElem?_of_mem hx).choose_spec))).1; omega))) (by rw [List.length_zipIdx]; omega)) (e := .lst ((((found.zipIdx.filter fun p => decide (p.1 ∈ q.2)).map fun p => 2 ^ p.2).map fun (n : Nat) => (n : Int)).map Dt.int)) (by rw [List.map_map, List.map_map]; rfl)) ea_nil) (cd_sum _)) ea_nil)) (Nat.le_of_ble_eq_true rfl)) (by rw [sum_cast]; rfl)) (by rw [List.length_map, List.length_take]; omega) fun H5 s5 => ?_
    exact hnx _ _ _ _ ⟨by rw [List.take_add_one, hx, List.map_append]; rfl, _, rfl⟩ s5
  · rintro os' ρ' H' σ' ⟨rfl, e5, rfl⟩ s4
    rw [List.take_length] at s4
    have s5 := s4.freeze (pre := []) (post := []) (i := 4) rfl
    refine s_ret (ev_is (ev_var (i := 4) rfl) ?_) s5 rt
    rw [testsD, testsOf, List.map_map]
    rfl
def F_are_told_apart : List Dt → Dt → Prop := fun ds d => ∃ (ts : List (Nat × Nat)) (n : Nat), ds = [testsD ts, .int (n : Int)] ∧ ts.length ≤ 1000 ∧ n < 64 ∧ d = .bl (apart ts n)
theorem len_are_told_apart {ds : List Dt} {d : Dt} (h : F_are_told_apart ds d) : ds.length = 2 := by
  obtain ⟨ts, n, rfl, _⟩ := h; rfl
theorem sc_are_told_apart : FnScope ["tests", "many", "kinds", "at", "index", "bits"] ["tests", "many"] (defScope s_are_told_apart) := ⟨rfl, rfl, rfl, by decide +kernel, rfl, by decide +kernel, by decide +kernel⟩
theorem has_are_told_apart (T : Bt mg) (D : Dfn K mg "are_told_apart" s_are_told_apart) : Has P w K mg base (k + 1) "are_told_apart" ["tests", "many"] (spP F_are_told_apart) := by
  have nd := (sc_are_told_apart).nd
  refine D.hasP sc_are_told_apart (fun _ _ _ _ _ _ us hl => match us, hl with | [_, _], _ => rfl) ?_ (fun f cdv A outer s H E hr => ?_)
  · intro ds d h
    exact len_are_told_apart h
  have hu := hu_of hr
  refine ⟨_, (pss_cons (ps_setLc (i := 2) (own := [("at", 3)]) (g := (gName 3)) (tt := tYes) rfl nd rfl rfl (sw_true rfl rfl rfl (by decide +kernel)) (pi_range1 (by rfl) T.range (pa_cons (pv 1) pa_nil)) (blkOk_by (N := ["tests", "many", "kinds", "at", "index", "bits"]) (sc := defScope s_are_told_apart) (by decide +kernel)) (fun _ _ _ _ _ => (pg_name (i := 3) nd rfl (Or.inr rfl))) (fun _ _ _ _ _ => pts_nil) (fun _ _ _ _ _ => (pe_callTy (k_tuple (K := K) rfl) (by rfl) T.tuple (by decide +kernel) (pa_cons (pe_lc (own := [("index", 4), ("bits", 5)]) (g := (gTup K 2 (gCons (gName 4) (gCons (gName 5) gNil)))) (tt := tYes) rfl nd (k_piL (K := K) rfl (pv 0)) (by refine blkOk_rl (N := ["tests", "many", "kinds", "at", "index", "bits"]) (sc := lcSc s_are_told_apart 0) rfl rfl ?_; decide +kernel) (fun _ _ _ _ _ => (k_tup (K := K) rfl rfl (pgs_cons (pg_name (i := 4) nd rfl (Or.inl rfl)) (pgs_cons (pg_name (i := 5) nd rfl (Or.inl rfl)) pgs_nil)))) (fun _ _ _ _ _ => pts_nil) (fun _ _ _ _ _ => (pe_op op_and (pe_op op_shr (pv 5) (pv 3)) pe_int))) pa_nil))))
    (pss_one (ps_ret (pe_cmpR op_eq (pe_callB (k_lenSetT (P := P) (w := w) rfl rfl) (by rfl) T.len PySem.boot_len (pa_cons (pe_callTy (k_setOfT (K := K) (P := P) (w := w) rfl rfl rfl rfl hr.units) (by rfl) T.set (by decide +kernel) (pa_cons (pv 2) pa_nil)) pa_nil)) (pv 1) (nomark _))))), ?_⟩
  rintro ds d ⟨ts, n, rfl, ht, hn, rfl⟩ ps σ D s rt nx
  refine q_set (d := .lst (((List.range n).map (kindAt ts)).map fun ks => .tup (ks.map Dt.int))) (ev_is (ev_lc0 (List.range n) (fun (i : Nat) => .int (0 + (i : Int))) (fun k => .tup ((kindAt ts k).map Dt.int)) (fun k => [some (testsD ts), some (.int (n : Int)), none, some (.int (k : Int)), none, none])
    (ei_rng1 (ea_cons (ev_var (i := 1) rfl) ea_nil) (by omega)) (js := [3]) (by simp) (fun k _ => (show _ = _ from congrArg Dt.int (Int.zero_add (k : Int))) ▸ tg_name) (fun k hk => ev_cb (ea_cons (ev_is (ev_lc0 ts pairD (fun p => .int ((p.2 / 2 ^ k % 2 : Nat) : Int)) (fun p => [some (testsD ts), some (.int (n : Int)), none, some (.int (k : Int)), some (.int (p.1 : Int)), some (.int (p.2 : Int))])
      (ei_list (ev_var (i := 0) rfl)) (js := [4, 5]) (by simp) (fun p _ => tg_two) (fun p hp => ev_op (ev_op (ev_var (i := 5) rfl) (ev_var (i := 3) rfl) od_shrN) ev_int od_and1) (le5 ht)) (by rw [kindAt, List.map_map]; rfl)) ea_nil) cd_tuple) (by rw [List.length_range]; omega)) (by rw [List.map_map]; rfl)) s fun σ1 H1 s1 => ?_
  refine s_ret (ev_is (ev_op (ev_lenset (ev_var (i := 2) rfl) (by rw [List.length_map, List.length_range]; exact hn)) (ev_var (i := 1) rfl) od_eqI) ?_) s1 rt
  have h := ded_len ((List.range n).map (kindAt ts))
  rw [List.length_map, List.length_range] at h
  unfold apart
  congr 1
  rw [decide_eq_decide]
  rw [← h.2]
  omega
end
end Ck
namespace Ck
open PySem PySem.Spec L2
open PyProof.Rows hiding St

/-! ### groups: bits of the suspects -/
def sel : List Int → Nat → List Int
  | [], _ => []
  | x :: xs, g => if g % 2 = 1 then x :: sel xs (g / 2) else sel xs (g / 2)
def bitsR (ls : List Int) : List Int → Nat
  | [] => 0
  | x :: xs => (if x ∈ ls then 1 else 0) + 2 * bitsR ls xs
theorem bits_from (ls : List Int) : ∀ (xs : List Int) (n : Nat), (((xs.zipIdx n).filter fun p => decide (p.1 ∈ ls)).map fun p => 2 ^ p.2).sum = 2 ^ n * bitsR ls xs
  | [], n => by simp [bitsR]
  | x :: xs, n => by
    have ih := bits_from ls xs (n + 1)
    rw [List.zipIdx_cons]
    by_cases c : x ∈ ls
    · rw [List.filter_cons_of_pos (by simpa using c), List.map_cons, List.sum_cons, ih, bitsR, if_pos c, Nat.pow_succ, Nat.mul_add, Nat.mul_one, Nat.mul_assoc]
    · rw [List.filter_cons_of_neg (by simpa using c), ih, bitsR, if_neg c, Nat.pow_succ, Nat.zero_add, Nat.mul_assoc]
theorem bitsOf_eq (found ls : List Int) : bitsOf found ls = bitsR ls found := by
  unfold bitsOf
  rw [bits_from ls found 0]
  simp
theorem bitsR_div (ls : List Int) (x : Int) (xs : List Int) : bitsR ls (x :: xs) / 2 = bitsR ls xs ∧ bitsR ls (x :: xs) % 2 = if x ∈ ls then 1 else 0 := by
  show ((if x ∈ ls then 1 else 0) + 2 * bitsR ls xs) / 2 = bitsR ls xs ∧ ((if x ∈ ls then 1 else 0) + 2 * bitsR ls xs) % 2 = if x ∈ ls then 1 else 0
  split <;> omega
theorem sel_sub : ∀ (xs : List Int) (g : Nat), (sel xs g).Sublist xs
  | [], _ => .slnil
  | x :: xs, g => by
    unfold sel
    split
    · exact (sel_sub xs _).cons_cons x
    · exact (sel_sub xs _).cons x
theorem sel_and (ls : List Int) : ∀ (xs : List Int) (g : Nat), sel xs (g &&& bitsR ls xs) = (sel xs g).filter fun x => decide (x ∈ ls)
  | [], _ => rfl
  | x :: xs, g => by
    obtain ⟨h1, h2⟩ := bitsR_div ls x xs
    have ih := sel_and ls xs (g / 2)
    have e1 : (g &&& bitsR ls (x :: xs)) % 2 = 1 ↔ g % 2 = 1 ∧ x ∈ ls := by
      rw [Nat.and_mod_two_eq_one, h2]
      by_cases c : x ∈ ls
      · rw [if_pos c]; simp [c]
      · rw [if_neg c]; simp [c]
    rw [sel, sel, Nat.and_div_two, h1, ih]
    by_cases c : g % 2 = 1
    · by_cases d : x ∈ ls
      · rw [if_pos (e1.mpr ⟨c, d⟩), if_pos c, List.filter_cons_of_pos (by simpa using d)]
      · rw [if_neg fun z => d (e1.mp z).2, if_pos c, List.filter_cons_of_neg (by simpa using d)]
    · rw [if_neg fun z => c (e1.mp z).1, if_neg c]
theorem sel_rest (ls : List Int) : ∀ (xs : List Int) (g : Nat), sel xs (g - (g &&& bitsR ls xs)) = (sel xs g).filter fun x => !decide (x ∈ ls)
  | [], _ => rfl
  | x :: xs, g => by
    obtain ⟨h1, h2⟩ := bitsR_div ls x xs
    have ih := sel_rest ls xs (g / 2)
    have e1 : (g &&& bitsR ls (x :: xs)) % 2 = 1 ↔ g % 2 = 1 ∧ x ∈ ls := by
      rw [Nat.and_mod_two_eq_one, h2]
      by_cases c : x ∈ ls
      · rw [if_pos c]; simp [c]
      · rw [if_neg c]; simp [c]
    have e2 : (g &&& bitsR ls (x :: xs)) / 2 = g / 2 &&& bitsR ls xs := by rw [Nat.and_div_two, h1]
    have e3 : (g / 2 &&& bitsR ls xs) ≤ g / 2 := Nat.and_le_left
    have e4 : (g - (g &&& bitsR ls (x :: xs))) / 2 = g / 2 - (g / 2 &&& bitsR ls xs) := by
      rw [← e2]
      by_cases c : g % 2 = 1
      · omega
      · have : ¬ (g &&& bitsR ls (x :: xs)) % 2 = 1 := fun z => c (e1.mp z).1
        omega
    have e5 : (g - (g &&& bitsR ls (x :: xs))) % 2 = 1 ↔ g % 2 = 1 ∧ x ∉ ls := by
      have e6 : (g &&& bitsR ls (x :: xs)) ≤ g := Nat.and_le_left
      by_cases c : g % 2 = 1
      · by_cases d : x ∈ ls
        · have := e1.mpr ⟨c, d⟩
          constructor
          · intro z; omega
          · intro z; exact absurd d z.2
        · have : ¬ (g &&& bitsR ls (x :: xs)) % 2 = 1 := fun z => d (e1.mp z).2
          constructor
          · intro z; exact ⟨c, d⟩
          · intro z; omega
      · have : ¬ (g &&& bitsR ls (x :: xs)) % 2 = 1 := fun z => c (e1.mp z).1
        constructor
        · intro z; omega
        · intro z; exact absurd z.1 c
    rw [sel, sel, e4, ih]
    by_cases c : g % 2 = 1
    · by_cases d : x ∈ ls
      · rw [if_neg fun z => (e5.mp z).2 d, if_pos c, List.filter_cons_of_neg (by simpa using d)]
      · rw [if_pos (e5.mpr ⟨c, d⟩), if_pos c, List.filter_cons_of_pos (by simpa using d)]
    · rw [if_neg fun z => c (e5.mp z).1, if_neg c]
theorem sel_zero : ∀ xs : List Int, sel xs 0 = []
  | [] => rfl
  | x :: xs => by unfold sel; rw [if_neg (by decide)]; exact sel_zero xs
theorem sel_nil : ∀ {xs : List Int} {g : Nat}, g < 2 ^ xs.length → (sel xs g = [] ↔ g = 0)
  | [], g, h => by simp at h; simp [sel, h]
  | x :: xs, g, h => by
    have h' : g / 2 < 2 ^ xs.length := by rw [List.length_cons, Nat.pow_succ] at h; omega
    have ih := sel_nil h'
    unfold sel
    by_cases c : g % 2 = 1
    · rw [if_pos c]
      constructor
      · intro z; cases z
      · intro z; omega
    · rw [if_neg c, ih]
      omega
theorem sel_full : ∀ xs : List Int, sel xs (2 ^ xs.length - 1) = xs
  | [] => rfl
  | x :: xs => by
    have hp : 0 < 2 ^ xs.length := Nat.pow_pos (by decide)
    have e : (2 ^ (x :: xs).length - 1) % 2 = 1 ∧ (2 ^ (x :: xs).length - 1) / 2 = 2 ^ xs.length - 1 := by
      rw [List.length_cons, Nat.pow_succ]
      omega
    unfold sel
    rw [if_pos e.1, e.2, sel_full xs]
theorem and_pred_odd (q : Nat) : (2 * q + 1) &&& (2 * q) = 2 * q := by
  have h1 : ((2 * q + 1) &&& (2 * q)) / 2 = q := by
    rw [Nat.and_div_two, show (2 * q + 1) / 2 = q by omega, show (2 * q) / 2 = q by omega, Nat.and_self]
  have h2 : ¬ ((2 * q + 1) &&& (2 * q)) % 2 = 1 := fun z => by
    have := (Nat.and_mod_two_eq_one.mp z).2
    omega
  omega
theorem and_pred_even (q : Nat) (h : 0 < q) : ((2 * q) &&& (2 * q - 1)) = 2 * (q &&& (q - 1)) := by
  have h1 : ((2 * q) &&& (2 * q - 1)) / 2 = q &&& (q - 1) := by
    rw [Nat.and_div_two, show (2 * q) / 2 = q by omega, show (2 * q - 1) / 2 = q - 1 by omega]
  have h2 : ¬ ((2 * q) &&& (2 * q - 1)) % 2 = 1 := fun z => by
    have := (Nat.and_mod_two_eq_one.mp z).1
    omega
  omega
theorem sel_one : ∀ {xs : List Int} {g : Nat}, g < 2 ^ xs.length → (g &&& (g - 1) = 0 ↔ (sel xs g).length ≤ 1)
  | [], g, h => by simp at h; simp [sel, h]
  | x :: xs, g, h => by
    have h' : g / 2 < 2 ^ xs.length := by rw [List.length_cons, Nat.pow_succ] at h; omega
    have ih := sel_one h'
    have hn := sel_nil h'
    unfold sel
    by_cases c : g % 2 = 1
    · rw [if_pos c, List.length_cons]
      have e : g = 2 * (g / 2) + 1 := by omega
      have e1 : g &&& (g - 1) = 2 * (g / 2) := by
        have := and_pred_odd (g / 2)
        rw [← e, show 2 * (g / 2) = g - 1 by omega] at this
        rw [this]; omega
      rw [e1]
      constructor
      · intro z
        rw [hn.mpr (by omega)]
        simp
      · intro z
        have : sel xs (g / 2) = [] := List.length_eq_zero_iff.mp (by omega)
        rw [hn.mp this]
    · rw [if_neg c]
      by_cases z : g / 2 = 0
      · have : g = 0 := by omega
        subst this
        simp [sel_zero]
      · have e : g = 2 * (g / 2) := by omega
        have e1 := and_pred_even (g / 2) (by omega)
        rw [← e] at e1
        rw [e1, ← ih]
        omega
theorem sel_len {xs : List Int} {g : Nat} (h : g < 2 ^ xs.length) : (sel xs g).length ≤ xs.length := (sel_sub xs g).length_le
/-- the one that is left -/
theorem sel_log : ∀ {xs : List Int} {g : Nat} {x : Int}, g < 2 ^ xs.length → sel xs g = [x] → xs[g.log2]? = some x
  | [], g, x, h, e => by simp [sel] at e
  | y :: xs, g, x, h, e => by
    have h' : g / 2 < 2 ^ xs.length := by rw [List.length_cons, Nat.pow_succ] at h; omega
    unfold sel at e
    by_cases c : g % 2 = 1
    · rw [if_pos c] at e
      have e1 := (List.cons.inj e).2
      have z := (sel_nil h').mp e1
      have : g = 1 := by omega
      subst this
      rw [(List.cons.inj e).1]
      rfl
    · rw [if_neg c] at e
      have nz : g / 2 ≠ 0 := fun z => by rw [(sel_nil h').mpr z] at e; cases e
      have ih := sel_log h' e
      have e2 : g.log2 = (g / 2).log2 + 1 := by
        have := Nat.log2_two_mul nz
        rwa [show 2 * (g / 2) = g by omega] at this
      rw [e2, List.getElem?_cons_succ]
      exact ih
theorem log_in {xs : List Int} {g : Nat} (h : g < 2 ^ xs.length) (nz : g ≠ 0) : ∃ x, xs[g.log2]? = some x :=
  ⟨_, List.getElem?_eq_getElem ((Nat.log2_lt nz).mpr h)⟩

/-! ### the least depth -/
def minL : List Nat → Nat
  | [] => 0
  | [x] => x
  | x :: y :: xs => min x (minL (y :: xs))
theorem minL_mem : ∀ {xs : List Nat}, xs ≠ [] → minL xs ∈ xs
  | [], h => absurd rfl h
  | [x], _ => by simp [minL]
  | x :: y :: xs, _ => by
    have ih := minL_mem (xs := y :: xs) (by simp)
    unfold minL
    rcases Nat.le_total x (minL (y :: xs)) with c | c
    · rw [Nat.min_eq_left c]; exact List.mem_cons_self
    · rw [Nat.min_eq_right c]; exact List.mem_cons_of_mem _ ih
theorem minL_le : ∀ {xs : List Nat} {x : Nat}, x ∈ xs → minL xs ≤ x
  | [], _, h => by cases h
  | [y], x, h => by rw [List.mem_singleton] at h; subst h; exact Nat.le_refl _
  | z :: y :: xs, x, h => by
    unfold minL
    rcases List.mem_cons.mp h with e | h
    · subst e; exact Nat.min_le_left _ _
    · exact Nat.le_trans (Nat.min_le_right _ _) (minL_le h)
abbrev yes (ls F : List Int) : List Int := F.filter fun x => decide (x ∈ ls)
abbrev no (ls F : List Int) : List Int := F.filter fun x => !decide (x ∈ ls)
theorem yes_no (ls F : List Int) : (yes ls F).length + (no ls F).length = F.length := by
  induction F with
  | nil => rfl
  | cons x F ih =>
    by_cases c : x ∈ ls
    · rw [yes, no, List.filter_cons_of_pos (by simpa using c), List.filter_cons_of_neg (by simpa using c), List.length_cons, List.length_cons]
      unfold yes no at ih
      omega
    · rw [yes, no, List.filter_cons_of_neg (by simpa using c), List.filter_cons_of_pos (by simpa using c), List.length_cons, List.length_cons]
      unfold yes no at ih
      omega
/-- the test parts F -/
def splits (ls F : List Int) : Bool := !(yes ls F).isEmpty && !(no ls F).isEmpty
theorem splits_lt {ls F : List Int} (h : splits ls F = true) : (yes ls F).length < F.length ∧ (no ls F).length < F.length ∧ 0 < (yes ls F).length ∧ 0 < (no ls F).length := by
  have e := yes_no ls F
  unfold splits at h
  rw [Bool.and_eq_true, Bool.not_eq_true', Bool.not_eq_true', List.isEmpty_eq_false_iff, List.isEmpty_eq_false_iff] at h
  have h1 := List.length_pos_iff.mpr h.1
  have h2 := List.length_pos_iff.mpr h.2
  omega
abbrev Car := List (Nat × List Int)
def Dl (car : Car) : Nat → List Int → Nat
  | 0, _ => 0
  | n + 1, F => if F.length ≤ 1 then 0 else minL (car.filterMap fun p => if splits p.2 F = true then some (1 + max (Dl car n (yes p.2 F)) (Dl car n (no p.2 F))) else none)
theorem dl_fuel (car : Car) : ∀ (n m : Nat) (F : List Int), F.length ≤ n → F.length ≤ m → Dl car n F = Dl car m F
  | 0, 0, _, _, _ => rfl
  | 0, m + 1, F, h, _ => by
    show 0 = (if F.length ≤ 1 then 0 else _)
    rw [if_pos (by omega)]
  | n + 1, 0, F, _, h => by
    show (if F.length ≤ 1 then 0 else _) = 0
    rw [if_pos (by omega)]
  | n + 1, m + 1, F, hn, hm => by
    show (if F.length ≤ 1 then 0 else _) = (if F.length ≤ 1 then 0 else _)
    by_cases c : F.length ≤ 1
    · rw [if_pos c, if_pos c]
    · rw [if_neg c, if_neg c]
      congr 1
      congr 1
      funext p
      by_cases s : splits p.2 F = true
      · obtain ⟨h1, h2, _, _⟩ := splits_lt s
        rw [if_pos s, if_pos s, dl_fuel car n m _ (by omega) (by omega), dl_fuel car n m _ (by omega) (by omega)]
      · rw [if_neg s, if_neg s]
def depth (car : Car) (F : List Int) : Nat := Dl car F.length F
def opts (car : Car) (F : List Int) : List Nat := car.filterMap fun p => if splits p.2 F = true then some (1 + max (depth car (yes p.2 F)) (depth car (no p.2 F))) else none
theorem depth_small {car : Car} {F : List Int} (h : F.length ≤ 1) : depth car F = 0 := by
  unfold depth
  cases F with
  | nil => rfl
  | cons x F => show (if (x :: F).length ≤ 1 then 0 else _) = 0; rw [if_pos h]
theorem depth_big {car : Car} {F : List Int} (h : ¬ F.length ≤ 1) : depth car F = minL (opts car F) := by
  unfold depth
  cases F with
  | nil => simp at h
  | cons x F =>
    show (if (x :: F).length ≤ 1 then 0 else _) = _
    rw [if_neg h]
    unfold opts
    congr 1
    congr 1
    funext p
    by_cases s : splits p.2 (x :: F) = true
    · obtain ⟨h1, h2, _, _⟩ := splits_lt s
      rw [List.length_cons] at h1 h2
      rw [if_pos s, if_pos s]
      unfold depth
      rw [dl_fuel car F.length _ (yes p.2 (x :: F)) (by omega) (Nat.le_refl _), dl_fuel car F.length _ (no p.2 (x :: F)) (by omega) (Nat.le_refl _)]
    · rw [if_neg s, if_neg s]
/-- the tests tell all of F apart -/
def Ap (car : Car) (F : List Int) : Prop := ∀ x ∈ F, ∀ y ∈ F, x ≠ y → ∃ p ∈ car, decide (x ∈ p.2) ≠ decide (y ∈ p.2)
theorem Ap.sub {car : Car} {F F' : List Int} (h : Ap car F) (s : ∀ x ∈ F', x ∈ F) : Ap car F' := fun x hx y hy => h x (s x hx) y (s y hy)
theorem Ap.yes {car : Car} {F : List Int} (h : Ap car F) (ls : List Int) : Ap car (yes ls F) := h.sub fun _ hx => (List.mem_filter.mp hx).1
theorem Ap.no {car : Car} {F : List Int} (h : Ap car F) (ls : List Int) : Ap car (no ls F) := h.sub fun _ hx => (List.mem_filter.mp hx).1
theorem ap_splits {car : Car} {F : List Int} (h : Ap car F) (nd : F.Nodup) (hl : ¬ F.length ≤ 1) : ∃ p ∈ car, splits p.2 F = true := by
  cases F with
  | nil => simp at hl
  | cons x F =>
    cases F with
    | nil => simp at hl
    | cons y F =>
      have hxy : x ≠ y := fun e => (List.nodup_cons.mp nd).1 (e ▸ List.mem_cons_self)
      obtain ⟨p, hp, e⟩ := h x (by simp) y (by simp) hxy
      refine ⟨p, hp, ?_⟩
      unfold splits
      rw [Bool.and_eq_true, Bool.not_eq_true', Bool.not_eq_true', List.isEmpty_eq_false_iff, List.isEmpty_eq_false_iff]
      by_cases c : x ∈ p.2
      · have d : y ∉ p.2 := fun d => e (by simp [c, d])
        exact ⟨List.ne_nil_of_mem (List.mem_filter.mpr ⟨List.mem_cons_self, by simpa using c⟩), List.ne_nil_of_mem (a := y) (List.mem_filter.mpr ⟨by simp, by simpa using d⟩)⟩
      · have d : y ∈ p.2 := Decidable.byContradiction fun d => e (by simp [c, d])
        exact ⟨List.ne_nil_of_mem (a := y) (List.mem_filter.mpr ⟨by simp, by simpa using d⟩), List.ne_nil_of_mem (List.mem_filter.mpr ⟨List.mem_cons_self, by simpa using c⟩)⟩
theorem opts_ne {car : Car} {F : List Int} (h : Ap car F) (nd : F.Nodup) (hl : ¬ F.length ≤ 1) : opts car F ≠ [] := by
  obtain ⟨p, hp, s⟩ := ap_splits h nd hl
  exact List.ne_nil_of_mem (List.mem_filterMap.mpr ⟨p, hp, by rw [if_pos s]⟩)
/-- the depth is less than the number -/
theorem depth_lt {car : Car} : ∀ (n : Nat) {F : List Int}, F.length ≤ n → Ap car F → F.Nodup → depth car F ≤ F.length - 1
  | 0, F, h, _, _ => by rw [depth_small (by omega)]; omega
  | n + 1, F, h, ap, nd => by
    by_cases hl : F.length ≤ 1
    · rw [depth_small hl]; omega
    · rw [depth_big hl]
      have hm := minL_mem (opts_ne ap nd hl)
      obtain ⟨p, hp, e⟩ := List.mem_filterMap.mp hm
      by_cases s : splits p.2 F = true
      · rw [if_pos s] at e
        obtain ⟨h1, h2, h3, h4⟩ := splits_lt s
        have i1 := depth_lt n (F := yes p.2 F) (by omega) (ap.yes p.2) (nd.filter _)
        have i2 := depth_lt n (F := no p.2 F) (by omega) (ap.no p.2) (nd.filter _)
        have e' := Option.some.inj e
        omega
      · rw [if_neg s] at e; cases e
end Ck
namespace Ck
open PySem PySem.Spec L2
open PyProof.Rows hiding St

/-! ### expressions that change one object of one's own, at p -/
def EvM (te : TE) (ρ : List (Option Dt)) (p : Addr) (c : Oc) (Post : Dt → Oc → Prop) : Prop := ∀ (ps : List Addr) (H : Hp) (σ : St), Lv ps H → p ∉ ps → c.ok (hid (p :: ps) H) H p → Sl (hid (p :: ps) H) σ ρ →
  ∀ Q : VK, (∀ v H' d c', Post d c' → Ex (hid [p] H) (hid [p] H') → c'.ok (hid (p :: ps) H') H' p → R (hid (p :: ps) H') v d → Q v H') → te σ H Q
def EmA (ta : TA) (ρ : List (Option Dt)) (p : Addr) (c : Oc) (Post : List Dt → Oc → Prop) : Prop := ∀ (ps : List Addr) (H : Hp) (σ : St), Lv ps H → p ∉ ps → c.ok (hid (p :: ps) H) H p → Sl (hid (p :: ps) H) σ ρ →
  ∀ Q : List V → Hp → Prop, (∀ vs H' ds c', Post ds c' → Ex (hid [p] H) (hid [p] H') → c'.ok (hid (p :: ps) H') H' p → RA (hid (p :: ps) H') vs ds → Q vs H') → ta σ H Q
def EmT (tt : TT) (ρ : List (Option Dt)) (p : Addr) (c : Oc) (Post : Bool → Oc → Prop) : Prop := ∀ (ps : List Addr) (H : Hp) (σ : St), Lv ps H → p ∉ ps → c.ok (hid (p :: ps) H) H p → Sl (hid (p :: ps) H) σ ρ →
  ∀ Q : Bool → Hp → Prop, (∀ b H' c', Post b c' → Ex (hid [p] H) (hid [p] H') → c'.ok (hid (p :: ps) H') H' p → Q b H') → tt σ H Q
theorem ex_wide {ps : List Addr} {p : Addr} {H H' : Hp} (e : Ex (hid [p] H) (hid [p] H')) : Ex (hid (p :: ps) H) (hid (p :: ps) H') := fun a o h => by
  obtain ⟨h, c⟩ := hid_some h
  have := e a o (hid_mk h fun z => c (List.mem_cons.mpr (.inl (List.mem_singleton.mp z))))
  exact hid_mk (hid_some this).1 c
theorem lv_m {ps : List Addr} {p : Addr} {H H' : Hp} (l : Lv ps H) (hp : p ∉ ps) (e : Ex (hid [p] H) (hid [p] H')) : Lv ps H' := fun a h z => by
  cases q : H a with
  | none => exact l a h q
  | some o =>
    have := e a o (hid_mk q fun z => hp (List.mem_singleton.mp z ▸ h))
    rw [(hid_some this).1] at z; cases z
theorem lv_p {ps : List Addr} {p : Addr} {G H : Hp} {c : Oc} (l : Lv ps H) (h : c.ok G H p) : Lv (p :: ps) H := fun a ha z => by
  rcases List.mem_cons.mp ha with e | ha
  · subst e
    obtain ⟨o, ho⟩ := h.live
    rw [ho] at z; cases z
  · exact l a ha z
theorem ok_ex {ps : List Addr} {p : Addr} {H H' : Hp} {c : Oc} (h : c.ok (hid (p :: ps) H) H p) (e : Ex H H') : c.ok (hid (p :: ps) H') H' p := by
  obtain ⟨o, ho⟩ := h.live
  exact h.mono (hid_mono e) (by rw [ho, e _ _ ho])
section
variable {ρ : List (Option Dt)} {p : Addr} {c : Oc} {ta tb te : TE} {tA tB : TA} {tt tu : TT} {d : Dt} {ds : List Dt} {r : R2} {Post P1 : Dt → Oc → Prop} {PA PA1 : List Dt → Oc → Prop} {PB PB1 : Bool → Oc → Prop}
theorem em_pure (h : EvP te ρ d) (q : Post d c) : EvM te ρ p c Post := fun ps H σ l hp ok s Q k =>
  h (p :: ps) H σ (lv_p l ok) s _ fun v H' e r => k v H' d c q (hid_mono e) (ok_ex ok e) r
theorem ema_pure (h : EvA tA ρ ds) (q : PA ds c) : EmA tA ρ p c PA := fun ps H σ l hp ok s Q k =>
  h (p :: ps) H σ (lv_p l ok) s _ fun v H' e r => k v H' ds c q (hid_mono e) (ok_ex ok e) r
theorem emt_pure {b : Bool} (h : EvT tt ρ b) (q : PB b c) : EmT tt ρ p c PB := fun ps H σ l hp ok s Q k =>
  h (p :: ps) H σ (lv_p l ok) s _ fun H' e => k b H' c q (hid_mono e) (ok_ex ok e)
theorem em_imp (h : EvM te ρ p c P1) (k : ∀ d c', P1 d c' → Post d c') : EvM te ρ p c Post := fun ps H σ l hp ok s Q q => h ps H σ l hp ok s Q fun v H' d c' h1 => q v H' d c' (k d c' h1)
theorem em_op (h1 : EvM ta ρ p c P1) (h2 : ∀ d c1, P1 d c1 → EvM tb ρ p c1 (fun e c2 => ∃ f, OpD r d e f ∧ Post f c2)) : EvM (tOp r ta tb) ρ p c Post := fun ps H σ l hp ok s Q q =>
  h1 ps H σ l hp ok s _ fun v H1 d c1 p1 e1 ok1 r1 => h2 d c1 p1 ps H1 σ (lv_m l hp e1) hp ok1 (s.ex (ex_wide e1)) _ fun w H2 e c2 ⟨f, hf, p2⟩ e2 ok2 r2 =>
    hf (p :: ps) H2 v w (lv_p (lv_m (lv_m l hp e1) hp e2) ok2) (r1.ex (ex_wide e2)) r2 _ fun u H3 e3 r3 => q u H3 f c2 p2 ((e1.trans e2).trans (hid_mono e3)) (ok_ex ok2 e3) r3
theorem ema_nil (q : PA [] c) : EmA tNil ρ p c PA := fun ps H σ l hp ok s Q k => k [] H [] c q (.refl _) ok .nil
theorem ema_cons (h1 : EvM ta ρ p c P1) (h2 : ∀ d c1, P1 d c1 → EmA tB ρ p c1 (fun ds c2 => PA (d :: ds) c2)) : EmA (tCons ta tB) ρ p c PA := fun ps H σ l hp ok s Q q =>
  h1 ps H σ l hp ok s _ fun v H1 d c1 p1 e1 ok1 r1 => h2 d c1 p1 ps H1 σ (lv_m l hp e1) hp ok1 (s.ex (ex_wide e1)) _ fun ws H2 ds c2 p2 e2 ok2 r2 =>
    q (v :: ws) H2 (d :: ds) c2 p2 (e1.trans e2) ok2 (.cons (r1.ex (ex_wide e2)) r2)
theorem em_cb {rr : List V → Hp → VK → Prop} (h : EmA tA ρ p c (fun ds c1 => ∃ f, ClD rr ds f ∧ Post f c1)) : EvM (tCB rr tA) ρ p c Post := fun ps H σ l hp ok s Q q =>
  h ps H σ l hp ok s _ fun vs H1 ds c1 ⟨f, hf, p1⟩ e1 ok1 r1 => hf (p :: ps) H1 vs (lv_p (lv_m l hp e1) ok1) r1 _ fun u H2 e2 r2 => q u H2 f c1 p1 (e1.trans (hid_mono e2)) (ok_ex ok1 e2) r2
theorem em_tup (h : EmA tA ρ p c (fun ds c1 => ds.length ≤ 100000 ∧ Post (.tup ds) c1)) : EvM (tTup tA) ρ p c Post := fun ps H σ l hp ok s Q q =>
  h ps H σ l hp ok s _ fun vs H1 ds c1 ⟨hl, p1⟩ e1 ok1 r1 => ⟨by rw [r1.length, sizeLine_eq]; omega, fun a ha => by
    have hn : a ∉ p :: ps := (lv_p (lv_m l hp e1) ok1).new ha
    have hx : Ex H1 (upd H1 a (.tup vs)) := .new ha
    exact q _ _ _ _ p1 (e1.trans (hid_mono hx)) (ok_ex ok1 hx) (.tup (hid_mk upd_same hn) (r1.ex (hid_mono hx)))⟩
theorem em_lst (h : EmA tA ρ p c (fun ds c1 => ds.length ≤ 100000 ∧ Post (.lst ds) c1)) : EvM (tLst tA) ρ p c Post := fun ps H σ l hp ok s Q q =>
  h ps H σ l hp ok s _ fun vs H1 ds c1 ⟨hl, p1⟩ e1 ok1 r1 => ⟨by rw [r1.length, sizeLine_eq]; omega, fun a ha => by
    have hn : a ∉ p :: ps := (lv_p (lv_m l hp e1) ok1).new ha
    have hx : Ex H1 (upd H1 a (.lst vs)) := .new ha
    exact q _ _ _ _ p1 (e1.trans (hid_mono hx)) (ok_ex ok1 hx) (.lst (hid_mk upd_same hn) (r1.ex (hid_mono hx)))⟩
theorem em_if {b : Bool} (h : EvT tt ρ b) (h1 : b = true → EvM ta ρ p c Post) (h2 : b = false → EvM tb ρ p c Post) : EvM (tIf tt ta tb) ρ p c Post := fun ps H σ l hp ok s Q q =>
  h (p :: ps) H σ (lv_p l ok) s _ fun H1 e1 => by
    have q' : ∀ v H' d c', Post d c' → Ex (hid [p] H1) (hid [p] H') → c'.ok (hid (p :: ps) H') H' p → R (hid (p :: ps) H') v d → Q v H' := fun v H' d c' a e => q v H' d c' a ((hid_mono e1).trans e)
    cases b with
    | true => exact h1 rfl ps H1 σ (l.ex e1) hp (ok_ex ok e1) (s.ex (hid_mono e1)) Q q'
    | false => exact h2 rfl ps H1 σ (l.ex e1) hp (ok_ex ok e1) (s.ex (hid_mono e1)) Q q'
theorem emt_T (h : EvM te ρ p c (fun d c1 => ∃ b, d = .bl b ∧ PB b c1)) : EmT (tTest te) ρ p c PB := fun ps H σ l hp ok s Q q =>
  h ps H σ l hp ok s _ fun v H1 d c1 ⟨b, hd, p1⟩ e1 ok1 r1 => by subst hd; cases r1; exact ⟨b, rfl, q b H1 c1 p1 e1 ok1⟩
theorem emt_and (h1 : EmT tt ρ p c PB1) (h2 : ∀ c1, PB1 true c1 → EmT tu ρ p c1 PB) (h3 : ∀ c1, PB1 false c1 → PB false c1) : EmT (tAnd tt tu) ρ p c PB := fun ps H σ l hp ok s Q q =>
  h1 ps H σ l hp ok s _ fun b H1 c1 p1 e1 ok1 => by
    cases b with
    | true => exact h2 c1 p1 ps H1 σ (lv_m l hp e1) hp ok1 (s.ex (ex_wide e1)) _ fun b2 H2 c2 p2 e2 ok2 => q b2 H2 c2 p2 (e1.trans e2) ok2
    | false => exact q false H1 c1 (h3 c1 p1) e1 ok1
end
/-- a def that changes the object at p -/
def spO (F : List Dt → Addr → Oc → (Dt → Oc → Prop) → Prop) : Sp := fun vs H Q _ => ∃ (ps : List Addr) (ds : List Dt) (p : Addr) (c : Oc) (Post : Dt → Oc → Prop), Lv ps H ∧ p ∉ ps ∧ c.ok (hid (p :: ps) H) H p ∧ RA (hid (p :: ps) H) vs ds ∧ F ds p c Post ∧
  ∀ v H' d c', Post d c' → Ex (hid [p] H) (hid [p] H') → c'.ok (hid (p :: ps) H') H' p → R (hid (p :: ps) H') v d → Q v H'
theorem em_call {ρ : List (Option Dt)} {F : List Dt → Addr → Oc → (Dt → Oc → Prop) → Prop} {ta : TA} {E : XK} {p : Addr} {c : Oc} {Post : Dt → Oc → Prop} (h : EmA ta ρ p c (fun ds c1 => ∃ P1, F ds p c1 P1 ∧ ∀ d c', P1 d c' → Post d c')) : EvM (tCall (spO F) [] E ta) ρ p c Post := fun ps H σ l hp ok s Q q =>
  h ps H σ l hp ok s _ fun vs H1 ds c1 ⟨P1, hF, hP⟩ e1 ok1 r1 => ⟨ps, ds, p, c1, P1, lv_m l hp e1, hp, ok1, by rw [List.append_nil]; exact r1, hF, fun v H2 d c2 p2 e2 ok2 r2 => q v H2 d c2 (hP d c2 p2) (e1.trans e2) ok2 r2⟩
/-- .. of a pure def, in an expression that changes p -/
theorem em_callP {ρ : List (Option Dt)} {F : List Dt → Dt → Prop} {ta : TA} {E : XK} {p : Addr} {c : Oc} {Post : Dt → Oc → Prop} (h : EmA ta ρ p c (fun ds c1 => ∃ d, F ds d ∧ Post d c1)) : EvM (tCall (spP F) [] E ta) ρ p c Post := fun ps H σ l hp ok s Q q =>
  h ps H σ l hp ok s _ fun vs H1 ds c1 ⟨d, hF, hP⟩ e1 ok1 r1 => ⟨p :: ps, ds, d, lv_p (lv_m l hp e1) ok1, by rw [List.append_nil]; exact r1, hF, fun v H2 e2 r2 => q v H2 d c1 hP (e1.trans (hid_mono e2)) (ok_ex ok1 e2) r2⟩

/-! ### in a state -/
section
variable {ps : List Addr} {H0 H1 H H' : Hp} {pre post : Os} {p : Addr} {c : Oc} {σ σ' : St} {ρ ρ' : List (Option Dt)} {d : Dt} {D : Ends} {u : TS}
theorem hid_mid : hid (p :: (ps ++ ks (pre ++ post))) H = vw ps (pre ++ (p, c) :: post) H := by
  rw [vw_eq]
  refine hid_congr _ fun a => ?_
  rw [List.mem_cons, List.mem_append, List.mem_append, mem_ks]
  constructor
  · rintro (h | h | h)
    · exact .inr (.inl h)
    · exact .inl h
    · exact .inr (.inr h)
  · rintro (h | h | h)
    · exact .inr (.inl h)
    · exact .inl h
    · exact .inr (.inr h)
theorem S.mpre (s : S ps H0 (pre ++ (p, c) :: post) H σ ρ) : Lv (ps ++ ks (pre ++ post)) H ∧ p ∉ ps ++ ks (pre ++ post) ∧ c.ok (hid (p :: (ps ++ ks (pre ++ post))) H) H p ∧ Sl (hid (p :: (ps ++ ks (pre ++ post))) H) σ ρ := by
  refine ⟨fun a h => s.lv a ?_, ?_, ?_, ?_⟩
  · rcases List.mem_append.mp h with h | h
    · exact List.mem_append_left _ h
    · exact List.mem_append_right _ (mem_ks.mpr (.inr h))
  · intro h
    rcases List.mem_append.mp h with h | h
    · exact s.out (c := c) (by simp) h
    · have nd := s.nd
      unfold ks at nd h
      rw [List.map_append, List.map_cons, nd_mid, List.nodup_cons] at nd
      rw [List.map_append] at h
      exact nd.1 h
  · rw [hid_mid (c := c)]
    exact s.own p c (by simp)
  · rw [hid_mid (c := c)]
    exact s.sl
theorem S.mpost (s : S ps H0 (pre ++ (p, c) :: post) H σ ρ) {c' : Oc} (e : Ex (hid [p] H) (hid [p] H')) (ok : c'.ok (hid (p :: (ps ++ ks (pre ++ post))) H') H' p) : S ps H0 (pre ++ (p, c') :: post) H' σ ρ := by
  have hk : ∀ a, a ∈ ks (pre ++ (p, c) :: post) ↔ a = p ∨ a ∈ ks (pre ++ post) := fun a => mem_ks
  have hk' : ks (pre ++ (p, c') :: post) = ks (pre ++ (p, c) :: post) := by unfold ks; simp
  have e1 : Ex (hid (ks (pre ++ (p, c) :: post)) H) (hid (ks (pre ++ (p, c') :: post)) H') := fun a o h => by
    obtain ⟨h, hn⟩ := hid_some h
    have := e a o (hid_mk h fun z => hn ((hk a).mpr (.inl (List.mem_singleton.mp z))))
    exact hid_mk (hid_some this).1 (by rw [hk']; exact hn)
  have e2 : Ex (vw ps (pre ++ (p, c) :: post) H) (vw ps (pre ++ (p, c') :: post) H') := hid_mono e1
  refine ⟨s.live, s.base.trans e1, by rw [hk']; exact s.nd, fun q d h => ?_, s.sl.ex e2⟩
  rw [List.mem_append, List.mem_cons] at h
  have old : (q, d) ∈ pre ++ post → d.ok (vw ps (pre ++ (p, c') :: post) H') H' q := fun h => by
    have hq := s.own q d (by rw [List.mem_append] at h ⊢; exact h.elim .inl fun h => .inr (List.mem_cons_of_mem _ h))
    refine hq.mono e2 ?_
    obtain ⟨o, ho⟩ := hq.live
    have ne : q ≠ p := fun z => by
      have nd := s.nd
      unfold ks at nd
      rw [List.map_append, List.map_cons, nd_mid, List.nodup_cons] at nd
      exact nd.1 (by rw [← List.map_append]; exact List.mem_map.mpr ⟨_, h, z⟩)
    rw [ho]
    exact (hid_some (e q o (hid_mk ho fun z => ne (List.mem_singleton.mp z)))).1
  rcases h with h | h | h
  · exact old (List.mem_append_left _ h)
  · cases h
    rw [← hid_mid (c := c')]
    exact ok
  · exact old (List.mem_append_right _ h)
theorem S.evm (s : S ps H0 (pre ++ (p, c) :: post) H σ ρ) {te : TE} {Post : Dt → Oc → Prop} (h : EvM te ρ p c Post) {Q : VK} (q : ∀ v H' d c', Post d c' → S ps H0 (pre ++ (p, c') :: post) H' σ ρ → R (vw ps (pre ++ (p, c') :: post) H') v d → Q v H') : te σ H Q := by
  obtain ⟨l, hp, ok, sl⟩ := s.mpre
  exact h _ H σ l hp ok sl Q fun v H' d c' hd e ok' r => q v H' d c' hd (s.mpost e ok') (by rw [← hid_mid (c := c')]; exact r)
theorem S.evmt (s : S ps H0 (pre ++ (p, c) :: post) H σ ρ) {tt : TT} {Post : Bool → Oc → Prop} (h : EmT tt ρ p c Post) {Q : Bool → Hp → Prop} (q : ∀ b H' c', Post b c' → S ps H0 (pre ++ (p, c') :: post) H' σ ρ → Q b H') : tt σ H Q := by
  obtain ⟨l, hp, ok, sl⟩ := s.mpre
  exact h _ H σ l hp ok sl Q fun b H' c' hd e ok' => q b H' c' hd (s.mpost e ok')
theorem S.evma (s : S ps H0 (pre ++ (p, c) :: post) H σ ρ) {ta : TA} {Post : List Dt → Oc → Prop} (h : EmA ta ρ p c Post) {Q : List V → Hp → Prop} (q : ∀ vs H' ds c', Post ds c' → S ps H0 (pre ++ (p, c') :: post) H' σ ρ → RA (vw ps (pre ++ (p, c') :: post) H') vs ds → Q vs H') : ta σ H Q := by
  obtain ⟨l, hp, ok, sl⟩ := s.mpre
  exact h _ H σ l hp ok sl Q fun vs H' ds c' hd e ok' r => q vs H' ds c' hd (s.mpost e ok') (by rw [← hid_mid (c := c')]; exact r)
theorem m_set {te : TE} {i : Nat} {Post : Dt → Oc → Prop} (h : EvM te ρ p c Post) (s : S ps H0 (pre ++ (p, c) :: post) H σ ρ) (k : ∀ σ' H' d c', Post d c' → S ps H0 (pre ++ (p, c') :: post) H' σ' (ρ.set i (some d)) → D.nx σ' H') : tAsg te (gName i) D σ H :=
  s.evm h fun v H' d c' hd s' r => k _ _ d c' hd (s'.set i r)
theorem mq_set {te : TE} {i : Nat} {Post : Dt → Oc → Prop} (h : EvM te ρ p c Post) (s : S ps H0 (pre ++ (p, c) :: post) H σ ρ) (k : ∀ σ' H' d c', Post d c' → S ps H0 (pre ++ (p, c') :: post) H' σ' (ρ.set i (some d)) → u D σ' H') : tSeq (tAsg te (gName i)) u D σ H := m_set (D := { D with nx := u D }) h s k
theorem mq_if {tt : TT} {t w : TS} {Post : Bool → Oc → Prop} (h : EmT tt ρ p c Post) (s : S ps H0 (pre ++ (p, c) :: post) H σ ρ) (k1 : ∀ H' c', Post true c' → S ps H0 (pre ++ (p, c') :: post) H' σ ρ → t { D with nx := u D } σ H') (k2 : ∀ H' c', Post false c' → S ps H0 (pre ++ (p, c') :: post) H' σ ρ → w { D with nx := u D } σ H') : tSeq (tIfS tt t w) u D σ H :=
  s.evmt h fun b H' c' hb s' => by
    cases b with
    | true => rw [if_pos rfl]; exact k1 H' c' hb s'
    | false => rw [if_neg Bool.false_ne_true]; exact k2 H' c' hb s'
theorem m_if {tt : TT} {t w : TS} {Post : Bool → Oc → Prop} (h : EmT tt ρ p c Post) (s : S ps H0 (pre ++ (p, c) :: post) H σ ρ) (k1 : ∀ H' c', Post true c' → S ps H0 (pre ++ (p, c') :: post) H' σ ρ → t D σ H') (k2 : ∀ H' c', Post false c' → S ps H0 (pre ++ (p, c') :: post) H' σ ρ → w D σ H') : tIfS tt t w D σ H :=
  s.evmt h fun b H' c' hb s' => by
    cases b with
    | true => rw [if_pos rfl]; exact k1 H' c' hb s'
    | false => rw [if_neg Bool.false_ne_true]; exact k2 H' c' hb s'
/-- what a return leads to -/
def RetM (ps : List Addr) (H0 : Hp) (p : Addr) (Post : Dt → Oc → Prop) (D : Ends) : Prop := ∀ v H' pre post c' σ' ρ' d, S ps H0 (pre ++ (p, c') :: post) H' σ' ρ' → Post d c' → R (vw ps (pre ++ (p, c') :: post) H') v d → D.rt v H'
theorem m_ret {te : TE} {Post P1 : Dt → Oc → Prop} (h : EvM te ρ p c P1) (s : S ps H0 (pre ++ (p, c) :: post) H σ ρ) (k : RetM ps H0 p Post D) (hP : ∀ d c', P1 d c' → Post d c') : tRet te D σ H := s.evm h fun v H' d c' hd s' r => k v H' pre post c' σ ρ d s' (hP d c' hd) r
theorem m_retP {te : TE} {Post : Dt → Oc → Prop} (h : EvP te ρ d) (s : S ps H0 (pre ++ (p, c) :: post) H σ ρ) (k : RetM ps H0 p Post D) (hP : Post d c) : tRet te D σ H := s.evp h fun v H' e s' r => k v H' pre post c σ ρ d s' hP r
/-- for x in range(e), e with changes -/
theorem m_forR {ta : TA} {g : TG} {tb : TS} {js : List Nat} {Post : Nat → Oc → Prop} (up : Nat → List (Option Dt) → List (Option Dt)) (I : Nat → Nat → Os → List (Option Dt) → Prop)
    (hi : EmA ta ρ p c (fun ds c' => ∃ n : Nat, n ≤ 100000 ∧ ds = [.int (n : Int)] ∧ Post n c')) (tg : ∀ (x : Nat) ρ', TgD g js ρ' (.int (x : Int)) (up x ρ')) (s : S ps H0 (pre ++ (p, c) :: post) H σ ρ)
    (h0 : ∀ n c', Post n c' → I n 0 (pre ++ (p, c') :: post) ρ)
    (step : ∀ n H1, Ex H0 H1 → Lv ps H1 → ∀ (i : Nat) os' ρ' H' σ', i < n → I n i os' ρ' → S ps H1 os' H' σ' (up i ρ') → ∀ D' : Ends, D'.rt = D.rt → (∀ σ'' H'' os'' ρ'', I n (i + 1) os'' ρ'' → S ps H1 os'' H'' σ'' ρ'' → D'.nx σ'' H'') → tb D' σ' H')
    (done : ∀ n os' ρ' H' σ', I n n os' ρ' → S ps H0 os' H' σ' ρ' → D.nx σ' H') : tFor (iRng1 ta) g tb D σ H := by
  refine s.evma hi fun vs H1 ds c1 ⟨n, hn, hds, hP⟩ s1 r1 => ?_
  subst hds
  cases r1 with
  | cons r t =>
    cases t
    cases r
    have key : tFor (iRng1 (tCons (tC (.int (n : Int))) tNil)) g tb D σ H1 := by
      refine s_for' (js := js) (List.range n) (fun (i : Nat) => .int (0 + (i : Int))) up (I n) (ei_rng1 (ea_cons ev_int ea_nil) hn) (fun x ρ' => ?_) s1 (h0 n c1 hP) (fun H2 e l i x os' ρ' H' σ' hx hI s' D' hrt hnx => ?_) (fun os' ρ' H' σ' hI s' => ?_)
      · have e : (0 : Int) + (x : Int) = (x : Int) := Int.zero_add _
        rw [e]
        exact tg x ρ'
      · have hi := (List.getElem?_eq_some_iff.mp hx)
        obtain ⟨hl, hv⟩ := hi
        rw [List.getElem_range] at hv
        subst hv
        exact step n H2 e l i os' ρ' H' σ' (by simpa using hl) hI s' D' hrt hnx
      · rw [List.length_range] at hI
        exact done n os' ρ' H' σ' hI s'
    exact key
end
/-! ### defs that change p, by their bodies -/
theorem Dfn.hasM {P : Program} {w : World} {K : PySem.W.Frag} {mg : Str → Option Value} {base : Heap} {x : Str} {st : Stmt} {N pp : List Str} {k : Nat} {F : List Dt → Addr → Oc → (Dt → Oc → Prop) → Prop} (D : Dfn K mg x st) (Sc : FnScope N pp (defScope st)) (hb : BindN x st pp)
    (len : ∀ ds p c Post, F ds p c Post → ds.length = pp.length)
    (hbody : ∀ (f : Addr) (cdv : Value) (A : Around) (outer : List Env) (s : Shared) (H : Hp) (E : XK), Room k (A.deeper (envOfC x (defScope st) s.heap.objs.size f cdv)) →
      ∃ t, PSs (cxN P w K mg base N x (defScope st) f cdv A outer s H E) (defBody st) t ∧
        ∀ ds p c Post, F ds p c Post → ∀ (ps : List Addr) (σ : St) (D : Ends) (H0 : Hp), S ps H0 [(p, c)] H σ (ds.map some ++ List.replicate (N.length - ds.length) none) → RetM ps H0 p Post D → (∀ σ' H', D.nx σ' H' = D.rt .non H') → t D σ H) : Has P w K mg base (k + 1) x pp (spO F) := by
  refine D.has Sc hb (fun vs H Q E h => ?_) (fun f cdv A outer s H vs Q E hr h => ?_)
  · obtain ⟨ps, ds, p, c, Post, l, hp, ok, r, hF, _⟩ := h
    rw [r.length, len ds p c Post hF]
  · obtain ⟨ps, ds, p, c, Post, l, hp, ok, r, hF, q⟩ := h
    obtain ⟨t, ht, hb⟩ := hbody f cdv A outer s H E hr
    have hv : vw ps [(p, c)] H = hid (p :: ps) H := by
      rw [vw_eq]
      refine hid_congr _ fun a => ?_
      show a ∈ ps ++ [p] ↔ a ∈ p :: ps
      rw [List.mem_append, List.mem_singleton, List.mem_cons]
      exact Or.comm
    refine ⟨t, ht, hb ds p c Post hF ps _ _ (hid [p] H) ⟨fun a ha => ?_, .refl _, ?_, (fun a c' h => ?_), ?_⟩ (fun v H' pre post c' σ' ρ' d s' hd r' => ?_) (fun σ' H' => rfl)⟩
    · rw [hid_out (fun z => hp (by rw [← List.mem_singleton.mp z]; exact ha))]
      exact l a ha
    · show [p].Nodup
      simp
    · rw [List.mem_singleton] at h
      cases h
      rw [hv]
      exact ok
    · rw [hv]
      exact r.start N
    · have ein : Ex (vw ps (pre ++ (p, c') :: post) H') (hid (p :: ps) H') := by
        rw [vw_eq]
        refine hid_sub _ fun a ha => ?_
        rcases List.mem_cons.mp ha with e | ha
        · exact List.mem_append_right _ (mem_ks.mpr (.inl e))
        · exact List.mem_append_left _ ha
      refine q v H' d c' hd (s'.base.trans (hid_sub _ fun a ha => mem_ks.mpr (.inl (List.mem_singleton.mp ha)))) ((s'.own p c' (by simp)).mono ein rfl) (r'.ex ein)
/-- of a def that is never called so, anything -/
theorem Dfn.hasF {P : Program} {w : World} {K : PySem.W.Frag} {mg : Str → Option Value} {base : Heap} {x : Str} {st : Stmt} {pp : List Str} {k : Nat} {sp : Sp} (D : Dfn K mg x st) (hb : BindN x st pp) (hsp : ∀ vs H Q E, ¬ sp vs H Q E) : Has P w K mg base k x pp sp := by
  obtain ⟨f, fd, F, hm⟩ := D.ex
  exact ⟨f, fd, ⟨fun vs H Q E h => (hsp _ _ _ _ h).elim, fun A outer s H args us vs Q E hr he hb hv h => (hsp _ _ _ _ h).elim⟩, hm, F.kp, F.binds hb⟩
end Ck
namespace Ck
open PySem PySem.Spec L2
open PyProof.Rows hiding St

/-! ### a dict of one's own, read -/
section
variable {ρ : List (Option Dt)} {p : Addr} {kvs : List (Key × Dt)} {k : Key} {td ty te : TE} {d : Dt} {Post : Dt → Oc → Prop} {PB : Bool → Oc → Prop} {c : Oc}
theorem em_dget (hd : EvP td ρ (.adr p)) (hy : EvP ty ρ (kD k)) (h : look kvs k = some d) (q : Post d (.dic kvs)) : EvM (tDGet td ty) ρ p (.dic kvs) Post := fun ps H σ l hp ok s Q kk =>
  hd (p :: ps) H σ (lv_p l ok) s _ fun x H1 e1 r1 => hy (p :: ps) H1 σ ((lv_p l ok).ex e1) (s.ex (hid_mono e1)) _ fun y H2 e2 r2 => by
    cases kD_v r2
    cases r1
    have ok2 := ok_ex (ok_ex ok e1) e2
    obtain ⟨es, a, r⟩ := id ok2
    obtain ⟨v, hv, rv⟩ := r.val k h
    refine ⟨p, v, rfl, ?_, kk v H2 d _ q (hid_mono (e1.trans e2)) ok2 rv⟩
    rw [← hv]
    exact dget_of (.refl _) (.inl a)
theorem em_dnin (hy : EvP ty ρ (kD k)) (hd : EvP td ρ (.adr p)) (q : Post (.bl (!(look kvs k).isSome)) (.dic kvs)) : EvM (tDNotIn ty td) ρ p (.dic kvs) Post := fun ps H σ l hp ok s Q kk =>
  hy (p :: ps) H σ (lv_p l ok) s _ fun y H1 e1 r1 => hd (p :: ps) H1 σ ((lv_p l ok).ex e1) (s.ex (hid_mono e1)) _ fun x H2 e2 r2 => by
    cases kD_v r1
    cases r2
    have ok2 := ok_ex (ok_ex ok e1) e2
    obtain ⟨es, a, r⟩ := id ok2
    refine ⟨p, _, rfl, dget_of (.refl _) (.inl a), ?_⟩
    rw [r.isSome k]
    exact kk _ H2 _ _ q (hid_mono (e1.trans e2)) ok2 (.bl _)
theorem emt_B (h : EvM te ρ p c (fun d c1 => ∃ b, d = .bl b ∧ PB b c1)) : EmT (tB te) ρ p c PB := fun ps H σ l hp ok s Q q =>
  h ps H σ l hp ok s _ fun v H1 d c1 ⟨b, hd, p1⟩ e1 ok1 r1 => by subst hd; cases r1; exact ⟨b, rfl, q b H1 c1 p1 e1 ok1⟩
end
theorem RetM.step {ps : List Addr} {H0 H1 : Hp} {p : Addr} {Post : Dt → Oc → Prop} {D D' : Ends} (h : RetM ps H0 p Post D) (l : Lv ps H0) (e : Ex H0 H1) (hr : D'.rt = D.rt) : RetM ps H1 p Post D' := fun v H' pre post c' σ' ρ' d s hd r => by
  rw [hr]
  exact h v H' pre post c' σ' ρ' d (s.back l e) hd r
theorem Ret.step {ps : List Addr} {H0 H1 : Hp} {d : Dt} {D D' : Ends} (h : Ret ps H0 d D) (l : Lv ps H0) (e : Ex H0 H1) (hr : D'.rt = D.rt) : Ret ps H1 d D' := fun v H' os' σ' ρ' s r => by
  rw [hr]
  exact h v H' os' σ' ρ' (s.back l e) r
/-- a call that gets a new dict as its last argument -/
theorem ev_callD {ρ : List (Option Dt)} {F : List Dt → Addr → Oc → (Dt → Oc → Prop) → Prop} {E : XK} {ta tb : TE} {da db d : Dt} (ha : EvP ta ρ da) (hb : EvP tb ρ db) (hF : ∀ p, ∃ Post, F [da, db, .adr p] p (.dic []) Post ∧ ∀ d' c', Post d' c' → d' = d) :
    EvP (tCall (spO F) [] E (tCons ta (tCons tb (tCons tDNewK tNil)))) ρ d := fun ps H σ l s Q q =>
  ha ps H σ l s _ fun v1 H1 e1 r1 => hb ps H1 σ (l.ex e1) (s.ex (hid_mono e1)) _ fun v2 H2 e2 r2 p hp => by
    obtain ⟨Post, hf, hP⟩ := hF p
    have l2 := l.ex (e1.trans e2)
    have hx : Ex H2 (upd H2 p (.dK [])) := .new hp
    have hup : Ex (hid ps H2) (hid (p :: ps) (upd H2 p (.dK []))) := fun a o h => by
      obtain ⟨h, c⟩ := hid_some h
      refine hid_mk (hx _ _ h) fun z => ?_
      rcases List.mem_cons.mp z with z | z
      · subst z; rw [hp] at h; cases h
      · exact c z
    refine ⟨ps, _, p, .dic [], Post, l2.ex hx, l2.new hp, ⟨[], upd_same, .nil⟩, .cons (r1.ex ((hid_mono e2).trans hup)) (.cons (r2.ex hup) (.cons (.adr p) .nil)), hf, fun v H' d' c' hd e ok r => ?_⟩
    rw [hP d' c' hd] at r
    refine q v H' (fun a o h => ?_) (r.ex (hid_sub _ fun a h => List.mem_cons_of_mem _ h))
    have h2 := e2 _ _ (e1 _ _ h)
    have hne : a ∉ [p] := fun z => by rw [List.mem_singleton.mp z, hp] at h2; cases h2
    exact (hid_some (e a o (hid_mk (hx _ _ h2) hne))).1
theorem ev_callD3 {ρ : List (Option Dt)} {F : List Dt → Addr → Oc → (Dt → Oc → Prop) → Prop} {E : XK} {ta tb tc : TE} {da db dc d : Dt} (ha : EvP ta ρ da) (hb : EvP tb ρ db) (hc : EvP tc ρ dc) (hF : ∀ p, ∃ Post, F [da, db, dc, .adr p] p (.dic []) Post ∧ ∀ d' c', Post d' c' → d' = d) :
    EvP (tCall (spO F) [] E (tCons ta (tCons tb (tCons tc (tCons tDNewK tNil))))) ρ d := fun ps H σ l s Q q =>
  ha ps H σ l s _ fun v1 H1 e1 r1 => hb ps H1 σ (l.ex e1) (s.ex (hid_mono e1)) _ fun v2 H2 e2 r2 => hc ps H2 σ (l.ex (e1.trans e2)) (s.ex (hid_mono (e1.trans e2))) _ fun v3 H3 e3 r3 p hp => by
    obtain ⟨Post, hf, hP⟩ := hF p
    have l2 := l.ex ((e1.trans e2).trans e3)
    have hx : Ex H3 (upd H3 p (.dK [])) := .new hp
    have hup : Ex (hid ps H3) (hid (p :: ps) (upd H3 p (.dK []))) := fun a o h => by
      obtain ⟨h, c⟩ := hid_some h
      refine hid_mk (hx _ _ h) fun z => ?_
      rcases List.mem_cons.mp z with z | z
      · subst z; rw [hp] at h; cases h
      · exact c z
    refine ⟨ps, _, p, .dic [], Post, l2.ex hx, l2.new hp, ⟨[], upd_same, .nil⟩, .cons (r1.ex ((hid_mono (e2.trans e3)).trans hup)) (.cons (r2.ex ((hid_mono e3).trans hup)) (.cons (r3.ex hup) (.cons (.adr p) .nil))), hf, fun v H' d' c' hd e ok r => ?_⟩
    rw [hP d' c' hd] at r
    refine q v H' (fun a o h => ?_) (r.ex (hid_sub _ fun a h => List.mem_cons_of_mem _ h))
    have h2 := e3 _ _ (e2 _ _ (e1 _ _ h))
    have hne : a ∉ [p] := fun z => by rw [List.mem_singleton.mp z, hp] at h2; cases h2
    exact (hid_some (e a o (hid_mk (hx _ _ h2) hne))).1

/-! ### what is remembered -/
structure MemoOk (car : Car) (found : List Int) (kvs : List (Key × Dt)) : Prop where
  nd : (kvs.map (·.1)).Nodup
  ok : ∀ kv ∈ kvs, ∃ g : Nat, g < 2 ^ found.length ∧ kv.1 = .inl (g : Int) ∧ kv.2 = .int ((depth car (sel found g) : Nat) : Int)
theorem memo_nil (car : Car) (found : List Int) : MemoOk car found [] := ⟨.nil, fun _ h => nomatch h⟩
theorem nd_few : ∀ (n : Nat) (l : List Nat), l.Nodup → (∀ x ∈ l, x < n) → l.length ≤ n
  | 0, l, _, h => by
    cases l with
    | nil => exact Nat.le_refl _
    | cons x l => exact absurd (h x List.mem_cons_self) (by omega)
  | n + 1, l, nd, h => by
    have h1 := nd_few n (l.erase n) (nd.erase n) fun x hx => by
      rw [nd.mem_erase_iff] at hx
      have := h x hx.2
      have := hx.1
      omega
    have h2 := List.length_erase (a := n) (l := l)
    split at h2 <;> omega
theorem MemoOk.few {car : Car} {found : List Int} {kvs : List (Key × Dt)} (m : MemoOk car found kvs) (h : found.length ≤ 16) : kvs.length ≤ 100000 := by
  have hp : 2 ^ found.length ≤ 2 ^ 16 := Nat.pow_le_pow_right (by decide) h
  have key : ∀ {kvs : List (Key × Dt)}, (kvs.map (·.1)).Nodup → (∀ kv ∈ kvs, ∃ g : Nat, g < 2 ^ found.length ∧ kv.1 = .inl (g : Int)) → ∃ gs : List Nat, gs.length = kvs.length ∧ gs.Nodup ∧ (∀ g ∈ gs, g < 2 ^ found.length) ∧ kvs.map (·.1) = gs.map fun (g : Nat) => (Sum.inl (g : Int) : Key) := by
    intro kvs
    induction kvs with
    | nil => intro _ _; exact ⟨[], rfl, .nil, (fun _ h => nomatch h), rfl⟩
    | cons kv kvs ih =>
      intro nd ok
      obtain ⟨gs, h1, h2, h3, h4⟩ := ih (List.nodup_cons.mp nd).2 fun kv h => ok kv (List.mem_cons_of_mem _ h)
      obtain ⟨g, hg, e⟩ := ok kv List.mem_cons_self
      refine ⟨g :: gs, by simp [h1], List.nodup_cons.mpr ⟨fun hm => (List.nodup_cons.mp nd).1 ?_, h2⟩, fun x hx => ?_, by rw [List.map_cons, List.map_cons, h4, e]⟩
      · show kv.1 ∈ kvs.map (·.1)
        rw [h4, e]
        exact List.mem_map.mpr ⟨g, hm, rfl⟩
      · rcases List.mem_cons.mp hx with z | z
        · subst z; exact hg
        · exact h3 x z
  obtain ⟨gs, h1, h2, h3, _⟩ := key m.nd fun kv h => let ⟨g, a, b, _⟩ := m.ok kv h; ⟨g, a, b⟩
  have := nd_few _ gs h2 h3
  omega
theorem MemoOk.look {car : Car} {found : List Int} {kvs : List (Key × Dt)} (m : MemoOk car found kvs) {g : Nat} (h : (look kvs (.inl (g : Int))).isSome = true) : look kvs (.inl (g : Int)) = some (.int ((depth car (sel found g) : Nat) : Int)) := by
  unfold Ck.look at h ⊢
  cases e : kvs.find? fun kv => decide (kv.1 = Sum.inl (g : Int)) with
  | none => rw [e] at h; cases h
  | some kv =>
    obtain ⟨g', _, h1, h2⟩ := m.ok kv (List.mem_of_find?_eq_some e)
    have h3 := of_decide_eq_true (List.find?_some (p := fun kv : Key × Dt => decide (kv.1 = Sum.inl (g : Int))) e)
    rw [h1] at h3
    have h4 : g' = g := by have := Sum.inl.inj h3; omega
    subst h4
    show some kv.2 = _
    rw [h2]
theorem look_put {kvs : List (Key × Dt)} {k : Key} {d : Dt} : look (putD kvs k d) k = some d := by
  unfold putD
  by_cases c : (kvs.any fun kv => decide (kv.1 = k)) = true
  · rw [if_pos c]
    unfold look
    induction kvs with
    | nil => simp at c
    | cons kv kvs ih =>
      by_cases e : kv.1 = k
      · rw [List.map_cons, if_pos e, List.find?_cons_of_pos (by simpa using e)]
        rfl
      · rw [List.map_cons, if_neg e, List.find?_cons_of_neg (by simpa using e)]
        exact ih (by simpa [e] using c)
  · rw [if_neg c]
    unfold look
    rw [List.find?_append]
    have : kvs.find? (fun kv => decide (kv.1 = k)) = none := by
      rw [List.find?_eq_none]
      intro kv hkv z
      exact c (List.any_eq_true.mpr ⟨kv, hkv, z⟩)
    rw [this]
    simp
theorem MemoOk.put {car : Car} {found : List Int} {kvs : List (Key × Dt)} (m : MemoOk car found kvs) {g : Nat} (hg : g < 2 ^ found.length) : MemoOk car found (putD kvs (.inl (g : Int)) (.int ((depth car (sel found g) : Nat) : Int))) := by
  unfold putD
  by_cases c : (kvs.any fun kv => decide (kv.1 = Sum.inl (g : Int))) = true
  · rw [if_pos c]
    refine ⟨?_, fun kv h => ?_⟩
    · have e : (kvs.map fun kv => if kv.1 = Sum.inl (g : Int) then (kv.1, Dt.int ((depth car (sel found g) : Nat) : Int)) else kv).map (·.1) = kvs.map (·.1) := by
        rw [List.map_map]
        refine List.map_congr_left fun kv _ => ?_
        show (if kv.1 = Sum.inl (g : Int) then (kv.1, Dt.int ((depth car (sel found g) : Nat) : Int)) else kv).1 = kv.1
        split <;> rfl
      rw [e]
      exact m.nd
    · obtain ⟨kv', hkv, e⟩ := List.mem_map.mp h
      by_cases q : kv'.1 = Sum.inl (g : Int)
      · rw [if_pos q] at e
        subst e
        exact ⟨g, hg, q, rfl⟩
      · rw [if_neg q] at e
        subst e
        exact m.ok _ hkv
  · rw [if_neg c]
    refine ⟨?_, fun kv h => ?_⟩
    · rw [List.map_append]
      refine List.nodup_append.mpr ⟨m.nd, by simp, fun a ha b hb e => ?_⟩
      rw [List.map_cons, List.map_nil, List.mem_singleton] at hb
      subst e
      subst hb
      obtain ⟨kv, hkv, z⟩ := List.mem_map.mp ha
      exact c (List.any_eq_true.mpr ⟨kv, hkv, decide_eq_true z⟩)
    · rcases List.mem_append.mp h with h | h
      · exact m.ok kv h
      · rw [List.mem_singleton] at h
        subst h
        exact ⟨g, hg, rfl, rfl⟩

/-! ### one test at a group -/
abbrev tsOf (car : Car) (found : List Int) : List (Nat × Nat) := car.map fun q => (q.1, bitsOf found q.2)
theorem sel_yes (found ls : List Int) (g : Nat) : sel found (g &&& bitsOf found ls) = yes ls (sel found g) := by rw [bitsOf_eq]; exact sel_and ls found g
theorem sel_no (found ls : List Int) (g : Nat) : sel found (g - (g &&& bitsOf found ls)) = no ls (sel found g) := by rw [bitsOf_eq]; exact sel_rest ls found g
theorem part_split {found ls : List Int} {g : Nat} (hg : g < 2 ^ found.length) : (decide ((0 : Int) < ((g &&& bitsOf found ls : Nat) : Int)) && decide (((g &&& bitsOf found ls : Nat) : Int) < (g : Int))) = splits ls (sel found g) := by
  have h1 : (g &&& bitsOf found ls) ≤ g := Nat.and_le_left
  have e1 := sel_nil (xs := found) (g := g &&& bitsOf found ls) (by omega)
  have e2 := sel_nil (xs := found) (g := g - (g &&& bitsOf found ls)) (by omega)
  rw [sel_yes] at e1
  rw [sel_no] at e2
  unfold splits
  congr 1
  · by_cases c : (g &&& bitsOf found ls) = 0
    · rw [e1.mpr c, c]; rfl
    · rw [decide_eq_true (by omega)]
      have : yes ls (sel found g) ≠ [] := fun z => c (e1.mp z)
      simp [List.isEmpty_eq_false_iff.mpr this]
  · by_cases c : (g - (g &&& bitsOf found ls)) = 0
    · rw [e2.mpr c, decide_eq_false (by omega)]; rfl
    · rw [decide_eq_true (by omega)]
      have : no ls (sel found g) ≠ [] := fun z => c (e2.mp z)
      simp [List.isEmpty_eq_false_iff.mpr this]
def optF (car : Car) (F : List Int) (p : Nat × List Int) : Option Nat := if splits p.2 F = true then some (1 + max (depth car (yes p.2 F)) (depth car (no p.2 F))) else none
theorem opts_eq (car : Car) (F : List Int) : opts car F = car.filterMap (optF car F) := rfl
theorem take_opt {car : Car} {F : List Int} {i : Nat} {q : Nat × List Int} (h : car[i]? = some q) : (car.take (i + 1)).filterMap (optF car F) = (car.take i).filterMap (optF car F) ++ (optF car F q).toList := by
  rw [List.take_add_one, h, List.filterMap_append]
  congr 1
/-! the tree -/
def leafD (F : List Int) : Dt := .tup [.str "is", .int (F.headD 0)]
def best (car : Car) (F : List Int) (p : Nat × List Int) : Bool := splits p.2 F && decide (1 + max (depth car (yes p.2 F)) (depth car (no p.2 F)) = depth car F)
def tr (car : Car) : Nat → List Int → Dt
  | 0, F => leafD F
  | n + 1, F => match car.find? (best car F) with
    | some p => .tup [.str "look", .int (p.1 : Int), tr car n (yes p.2 F), tr car n (no p.2 F)]
    | none => leafD F
theorem best_split {car : Car} {F : List Int} {p : Nat × List Int} (h : car.find? (best car F) = some p) : p ∈ car ∧ splits p.2 F = true ∧ 1 + max (depth car (yes p.2 F)) (depth car (no p.2 F)) = depth car F := by
  have h1 := List.find?_some h
  unfold best at h1
  rw [Bool.and_eq_true, decide_eq_true_eq] at h1
  exact ⟨List.mem_of_find?_eq_some h, h1⟩
theorem tr_fuel (car : Car) : ∀ (n m : Nat) (F : List Int), F.length ≤ n → F.length ≤ m → tr car n F = tr car m F
  | 0, 0, _, _, _ => rfl
  | 0, m + 1, F, h, _ => by
    show leafD F = (match car.find? (best car F) with | some p => _ | none => leafD F)
    cases e : car.find? (best car F) with
    | none => rfl
    | some p => have := splits_lt (best_split e).2.1; omega
  | n + 1, 0, F, _, h => by
    show (match car.find? (best car F) with | some p => _ | none => leafD F) = leafD F
    cases e : car.find? (best car F) with
    | none => rfl
    | some p => have := splits_lt (best_split e).2.1; omega
  | n + 1, m + 1, F, hn, hm => by
    show (match car.find? (best car F) with | some p => Dt.tup [.str "look", .int (p.1 : Int), tr car n (yes p.2 F), tr car n (no p.2 F)] | none => leafD F) = (match car.find? (best car F) with | some p => Dt.tup [.str "look", .int (p.1 : Int), tr car m (yes p.2 F), tr car m (no p.2 F)] | none => leafD F)
    cases e : car.find? (best car F) with
    | none => rfl
    | some p =>
      obtain ⟨h1, h2, _, _⟩ := splits_lt (best_split e).2.1
      simp only
      rw [tr_fuel car n m _ (by omega) (by omega), tr_fuel car n m _ (by omega) (by omega)]
def treeOf (car : Car) (F : List Int) : Dt := tr car F.length F
theorem tree_some {car : Car} {F : List Int} {p : Nat × List Int} (h : car.find? (best car F) = some p) : treeOf car F = .tup [.str "look", .int (p.1 : Int), treeOf car (yes p.2 F), treeOf car (no p.2 F)] := by
  obtain ⟨h1, h2, _, _⟩ := splits_lt (best_split h).2.1
  unfold treeOf
  have e : F.length = (F.length - 1) + 1 := by omega
  rw [e]
  show (match car.find? (best car F) with | some p => Dt.tup [.str "look", .int (p.1 : Int), tr car (F.length - 1) (yes p.2 F), tr car (F.length - 1) (no p.2 F)] | none => leafD F) = _
  rw [h]
  simp only
  rw [tr_fuel car (F.length - 1) _ (yes p.2 F) (by omega) (Nat.le_refl _), tr_fuel car (F.length - 1) _ (no p.2 F) (by omega) (Nat.le_refl _)]
theorem tree_none {car : Car} {F : List Int} (h : car.find? (best car F) = none) : treeOf car F = leafD F := by
  unfold treeOf
  cases e : F.length with
  | zero => rfl
  | succ n =>
    show (match car.find? (best car F) with | some p => _ | none => leafD F) = _
    rw [h]
theorem best_none {car : Car} {F : List Int} (h : car.find? (best car F) = none) (ap : Ap car F) (nd : F.Nodup) : F.length ≤ 1 := by
  refine Decidable.byContradiction fun hl => ?_
  have hm := minL_mem (opts_ne ap nd hl)
  rw [← depth_big hl] at hm
  obtain ⟨p, hp, e⟩ := List.mem_filterMap.mp hm
  by_cases s : splits p.2 F = true
  · rw [if_pos s] at e
    refine absurd (show best car F p = true from ?_) (by simpa using List.find?_eq_none.mp h p hp)
    unfold best
    rw [s, decide_eq_true (Option.some.inj e)]
    rfl
  · rw [if_neg s] at e
    cases e
end Ck
namespace Ck
open PySem PySem.Spec L2
open PyProof.Rows hiding St

theorem od_pred {g : Nat} : OpD (rI0 fun i j => V.int (Builtin.bitAnd i j)) (.int (g : Int)) (.int ((g : Int) - 1)) (.int ((g &&& (g - 1) : Nat) : Int)) := by
  cases g with
  | zero => exact od_I0 (g := Builtin.bitAnd) (i := 0) (j := -1)
  | succ n =>
    have h := od_andN (n := n + 1) (k := n)
    rw [show ((n : Nat) : Int) = ((n + 1 : Nat) : Int) - 1 by omega] at h
    exact h
/-- of least_depth, for at most j suspects -/
def F_least (j : Nat) : List Dt → Addr → Oc → (Dt → Oc → Prop) → Prop := fun ds p c Post => ∃ (car : Car) (found : List Int) (g : Nat) (kvs : List (Key × Dt)),
  ds = [testsD (tsOf car found), .int (g : Int), .adr p] ∧ c = .dic kvs ∧ MemoOk car found kvs ∧ found.length ≤ 16 ∧ car.length ≤ 1000 ∧ found.Nodup ∧ g < 2 ^ found.length ∧ Ap car (sel found g) ∧ (sel found g).length ≤ j ∧
  Post = fun d c' => d = .int ((depth car (sel found g) : Nat) : Int) ∧ ∃ kvs', c' = .dic kvs' ∧ MemoOk car found kvs'
def F_leastP : Nat → List Dt → Addr → Oc → (Dt → Oc → Prop) → Prop
  | 0 => fun _ _ _ _ => False
  | j + 1 => F_least j
def F_tree (j : Nat) : List Dt → Addr → Oc → (Dt → Oc → Prop) → Prop := fun ds p c Post => ∃ (car : Car) (found : List Int) (g : Nat) (kvs : List (Key × Dt)),
  ds = [testsD (tsOf car found), .int (g : Int), intsD found, .adr p] ∧ c = .dic kvs ∧ MemoOk car found kvs ∧ found.length ≤ 16 ∧ car.length ≤ 1000 ∧ found.Nodup ∧ g < 2 ^ found.length ∧ g ≠ 0 ∧ Ap car (sel found g) ∧ (sel found g).length ≤ j ∧
  Post = fun d c' => d = treeOf car (sel found g) ∧ ∃ kvs', c' = .dic kvs' ∧ MemoOk car found kvs'
def F_treeP : Nat → List Dt → Addr → Oc → (Dt → Oc → Prop) → Prop
  | 0 => fun _ _ _ _ => False
  | j + 1 => F_tree j
theorem find_at {α : Type} {xs : List α} {P : α → Bool} {i : Nat} {q : α} (h : xs[i]? = some q) (hno : (xs.take i).find? P = none) (hq : P q = true) : xs.find? P = some q := by
  have e1 : xs = xs.take i ++ q :: xs.drop (i + 1) := by
    obtain ⟨hl, hv⟩ := List.getElem?_eq_some_iff.mp h
    rw [← hv, ← List.drop_eq_getElem_cons hl, List.take_append_drop]
  rw [e1, List.find?_append, hno, List.find?_cons_of_pos hq]
  rfl
theorem ints_cast {xs : List Nat} : xs.map (fun (n : Nat) => Dt.int (n : Int)) = (xs.map fun (n : Nat) => (n : Int)).map Dt.int := by rw [List.map_map]; rfl
theorem atI_log {found : List Int} {g : Nat} {x : Int} (h : found[g.log2]? = some x) (nz : g ≠ 0) : L2.atI (found.map Dt.int) (((Builtin.Int.intBits (g : Int) : Nat) : Int) - 1) = some (.int x) := by
  have e : ((Builtin.Int.intBits (g : Int) : Nat) : Int) - 1 = (g.log2 : Int) := by
    unfold Builtin.Int.intBits
    have : ((g : Int) == 0) = false := by simpa using nz
    rw [this]
    simp
  rw [e]
  exact atI_nat (by rw [List.getElem?_map, h]; rfl)

section
variable {P : Program} {w : World} {K : PySem.W.Frag} {mg : Str → Option Value} {base : Heap} {k : Nat}

theorem len_least_depth {j : Nat} {ds : List Dt} {p : Addr} {c : Oc} {Post : Dt → Oc → Prop} (h : F_least j ds p c Post) : ds.length = 3 := by obtain ⟨_, _, _, _, rfl, _⟩ := h; rfl
theorem len_tree_of {j : Nat} {ds : List Dt} {p : Addr} {c : Oc} {Post : Dt → Oc → Prop} (h : F_tree j ds p c Post) : ds.length = 4 := by obtain ⟨_, _, _, _, rfl, _⟩ := h; rfl
theorem sc_least_depth : FnScope ["tests", "group", "known", "depths", "index", "bits", "part", "deeper"] ["tests", "group", "known"] (defScope s_least_depth) := ⟨rfl, rfl, rfl, by decide +kernel, rfl, by decide +kernel, by decide +kernel⟩
theorem has_least_depth (T : Bt mg) (D : Dfn K mg "least_depth" s_least_depth) (j : Nat) (h_least_depth : Has P w K mg base k "least_depth" ["tests", "group", "known"] (spO (F_leastP j))) : Has P w K mg base (k + 1) "least_depth" ["tests", "group", "known"] (spO (F_least j)) := by
  have nd := (sc_least_depth).nd
  refine D.hasM sc_least_depth (fun _ _ _ _ _ _ us hl => match us, hl with | [_, _, _], _ => rfl) ?_ (fun f cdv A outer s H E hr => ?_)
  · intro ds p c Post h
    exact len_least_depth h
  have hu := hu_of hr
  refine ⟨_, (pss_cons (ps_if (pt_cmpR op_eq (pe_op op_and (pv 1) (pe_op op_sub (pv 1) pe_int)) pe_int (nomark _)) (pss_one (ps_ret pe_int)) pss_nil)
    (pss_cons (ps_if (pt_cmp (pc_dnotin hu (pv 1) (pv 2))) (pss_cons (ps_set (i := 3) nd rfl (Or.inl rfl) (pe_lst pa_nil))
    (pss_cons (ps_for PassesOwn.never rfl (k_piL (K := K) rfl (pv 0)) (k_tup (K := K) rfl rfl (pgs_cons (pg_name (i := 4) nd rfl (Or.inl rfl)) (pgs_cons (pg_name (i := 5) nd rfl (Or.inl rfl)) pgs_nil))) (pss_cons (ps_set (i := 6) nd rfl (Or.inl rfl) (pe_op op_and (pv 1) (pv 5)))
    (pss_one (ps_if (pt_chain op_lt op_lt pe_int (pv 6) (pv 1)) (pss_cons (ps_set (i := 7) nd rfl (Or.inl rfl) (pe_callB (call_max2 rfl) (by rfl) T.max (by decide +kernel) (pa_cons (pe_has h_least_depth hr (by rfl) (pa_cons (pv 0) (pa_cons (pv 6) (pa_cons (pv 2) pa_nil)))) (pa_cons (pe_has h_least_depth hr (by rfl) (pa_cons (pv 0) (pa_cons (pe_op op_sub (pv 1) (pv 6)) (pa_cons (pv 2) pa_nil)))) pa_nil))))
    (pss_one (ps_expr (k_app (K := K) rfl (pv 3) (pe_op op_add pe_int (pv 7)))))) pss_nil))))
    (pss_one (ps_dput hu (pv 2) (pv 1) (pe_callB (k_min (K := K) rfl rfl) (by rfl) T.min (by decide +kernel) (pa_cons (pv 3) pa_nil)) rfl)))) pss_nil)
    (pss_one (ps_ret (pe_dget hu (pv 2) (pv 1) (fun _ _ => rfl)))))), ?_⟩
  rintro ds p c Post ⟨car, found, g, kvs, rfl, rfl, mo, h16, hcl, nd, hg, ap, hj, rfl⟩ ps σ D H0 s rt nx
  have s0 := s.as (ρ' := [some (testsD (tsOf car found)), some (.int (g : Int)), some (.adr p), none, none, none, none, none]) rfl
  by_cases h1 : (sel found g).length ≤ 1
  · refine q_gt (et_is (et_T (ev_op (ev_op (ev_var (i := 1) rfl) (ev_op (ev_var (i := 1) rfl) ev_int od_sub) od_pred) ev_int od_eqI)) (decide_eq_true (by have := (sel_one hg).mpr h1; omega))) s0 fun H1 s1 => ?_
    exact m_retP (pre := []) (post := []) ev_int s1 rt ⟨by rw [depth_small h1]; rfl, kvs, rfl, mo⟩
  · refine q_gd (et_is (et_T (ev_op (ev_op (ev_var (i := 1) rfl) (ev_op (ev_var (i := 1) rfl) ev_int od_sub) od_pred) ev_int od_eqI)) (decide_eq_false (by have := (not_congr (sel_one hg)).mpr h1; omega))) s0 fun H1 s1 => ?_
    cases j with
    | zero => omega
    | succ j =>
    refine mq_if (pre := []) (post := []) (Post := fun b c' => c' = .dic kvs ∧ b = !(look kvs (.inl (g : Int))).isSome) (emt_B (em_dnin (k := .inl (g : Int)) (ev_var (i := 1) rfl) (ev_var (i := 2) rfl) ⟨_, rfl, rfl, rfl⟩)) s1 (fun H2 c' ⟨ec, hb⟩ s2 => ?_) (fun H2 c' ⟨ec, hb⟩ s2 => ?_)
    · subst ec
      refine q_own (pre := [(p, .dic kvs)]) (post := []) s2 fun pd σ3 H3 s3 => ?_
      refine q_for car (fun q => pairD (q.1, bitsOf found q.2)) (fun q ρ => (ρ.set 4 (some (.int (q.1 : Int)))).set 5 (some (.int ((bitsOf found q.2 : Nat) : Int)))) (fun i os ρ => ∃ kvs1, MemoOk car found kvs1 ∧ os = [(p, .dic kvs1), (pd, .lst (((car.take i).filterMap (optF car (sel found g))).map fun (n : Nat) => Dt.int (n : Int)))] ∧ ∃ e4 e5 e6 e7, ρ = [some (testsD (tsOf car found)), some (.int (g : Int)), some (.adr p), some (.adr pd), e4, e5, e6, e7])
        (ei_list (ev_is (ev_var (i := 0) rfl) (by rw [testsD, tsOf, List.map_map]; rfl))) (fun q ρ' => tg_two) s3 ⟨kvs, mo, rfl, _, _, _, _, rfl⟩ ?_ ?_
      · rintro H4 e l i q os' ρ' H' σ' hx ⟨kvs1, mo1, rfl, e4, e5, e6, e7, rfl⟩ s4 D' hrt hnx
        refine q_set (ev_op (ev_var (i := 1) rfl) (ev_var (i := 5) rfl) od_andN) s4 fun σ5 H5 s5 => ?_
        have s6 := s5.as (ρ' := [some (testsD (tsOf car found)), some (.int (g : Int)), some (.adr p), some (.adr pd), some (.int (q.1 : Int)), some (.int ((bitsOf found q.2 : Nat) : Int)), some (.int ((g &&& bitsOf found q.2 : Nat) : Int)), e7]) rfl
        refine s_if (et_is (et_T (ev_chb ev_int (ev_var (i := 6) rfl) (ev_var (i := 1) rfl) od_lt od_lt)) (part_split hg)) s6 (fun hs H6 s7 => ?_) (fun hs H6 s7 => ?_)
        · obtain ⟨l1, l2, l3, l4⟩ := splits_lt hs
          have hle : (g &&& bitsOf found q.2) ≤ g := Nat.and_le_left
          refine mq_set (pre := []) (post := [(pd, _)]) (em_cb (Post := fun d c' => d = .int ((max (depth car (yes q.2 (sel found g))) (depth car (no q.2 (sel found g))) : Nat) : Int) ∧ ∃ kvs', c' = .dic kvs' ∧ MemoOk car found kvs') (ema_cons (P1 := fun d c' => d = .int ((depth car (yes q.2 (sel found g)) : Nat) : Int) ∧ ∃ kvs', c' = .dic kvs' ∧ MemoOk car found kvs') (em_call (ema_pure (ea_cons (ev_var (i := 0) rfl) (ea_cons (ev_var (i := 6) rfl) (ea_cons (ev_var (i := 2) rfl) ea_nil))) ⟨_, ⟨car, found, g &&& bitsOf found q.2, kvs1, rfl, rfl, mo1, h16, hcl, nd, by omega, by rw [sel_yes]; exact ap.yes q.2, by rw [sel_yes]; omega, rfl⟩, fun d c' h => by rw [sel_yes] at h; exact h⟩))
        fun d1 c1 ⟨hd1, kvs2, hc1, mo2⟩ => by
          subst hd1
          subst hc1
          refine ema_cons (P1 := fun d c' => d = .int ((depth car (no q.2 (sel found g)) : Nat) : Int) ∧ ∃ kvs', c' = .dic kvs' ∧ MemoOk car found kvs') (em_call (ema_pure (ds := [testsD (tsOf car found), .int ((g - (g &&& bitsOf found q.2) : Nat) : Int), .adr p]) (ea_cons (ev_var (i := 0) rfl) (ea_cons (ev_is (ev_op (ev_var (i := 1) rfl) (ev_var (i := 6) rfl) od_sub) (by rw [← Int.ofNat_sub Nat.and_le_left])) (ea_cons (ev_var (i := 2) rfl) ea_nil))) ⟨_, ⟨car, found, g - (g &&& bitsOf found q.2), kvs2, rfl, rfl, mo2, h16, hcl, nd, by omega, by rw [sel_no]; exact ap.no q.2, by rw [sel_no]; omega, rfl⟩, fun d c' h => by rw [sel_no] at h; exact h⟩))
            fun d2 c2 ⟨hd2, kvs3, hc2, mo3⟩ => ?_
          subst hd2
          subst hc2
          exact ema_nil ⟨_, cd_max2, by congr 1; omega, kvs3, rfl, mo3⟩)) s7 fun σ8 H8 d c' ⟨hd, kvs3, hc3, mo3⟩ s8 => ?_
          subst hd
          subst hc3
          refine s_app (pre := [(p, .dic kvs3)]) (post := []) (p := pd) (d := .int ((1 + max (depth car (yes q.2 (sel found g))) (depth car (no q.2 (sel found g))) : Nat) : Int)) s8 (ev_var (i := 3) rfl) (ev_is (ev_op ev_int (ev_var (i := 7) rfl) od_add) (by congr 1)) (by
            have h1 := List.length_filterMap_le (optF car (sel found g)) (car.take i)
            have h2 := List.length_take_le i car
            rw [List.length_take] at h1
            rw [List.length_map]
            omega) fun H9 s9 => ?_
          refine hnx _ _ _ _ ⟨kvs3, mo3, ?_, _, _, _, _, rfl⟩ s9
          rw [take_opt hx, List.map_append, show optF car (sel found g) q = _ from if_pos hs]
          rfl
        · refine hnx _ _ _ _ ⟨kvs1, mo1, ?_, _, _, _, _, rfl⟩ s7
          rw [take_opt hx, show optF car (sel found g) q = none from if_neg (by rw [hs]; exact Bool.false_ne_true)]
          simp
      · rintro os' ρ' H' σ' ⟨kvs1, mo1, rfl, e4, e5, e6, e7, rfl⟩ s4
        rw [List.take_length, ← opts_eq, ints_cast] at s4
        have s5 := s4.freeze (pre := [(p, _)]) (post := []) (i := 3) rfl
        have hne := opts_ne ap (nd.sublist (sel_sub found g)) h1
        refine s_dput (pre := []) (post := []) (k := .inl (g : Int)) (d := .int ((depth car (sel found g) : Nat) : Int)) s5 (ev_cb (ea_cons (ev_var (i := 3) rfl) ea_nil) (cd_min (m := ((depth car (sel found g) : Nat) : Int)) ?_ ?_)) (ev_var (i := 2) rfl) (ev_var (i := 1) rfl) (mo1.few h16) fun H6 s6 => ?_
        · rw [depth_big h1]
          exact List.mem_map.mpr ⟨_, minL_mem hne, rfl⟩
        · intro y hy
          obtain ⟨n, hn, e⟩ := List.mem_map.mp hy
          have := minL_le hn
          rw [depth_big h1]
          omega
        · exact m_ret (pre := []) (post := []) (P1 := fun d c' => d = .int ((depth car (sel found g) : Nat) : Int) ∧ ∃ kvs', c' = .dic kvs' ∧ MemoOk car found kvs') (em_dget (k := .inl (g : Int)) (ev_var (i := 2) rfl) (ev_var (i := 1) rfl) look_put ⟨rfl, _, rfl, mo1.put hg⟩) s6 rt fun _ _ h => h
    · subst ec
      have hk : (look kvs (.inl (g : Int))).isSome = true := by
        cases e : (look kvs (.inl (g : Int))).isSome with
        | true => rfl
        | false => rw [e] at hb; cases hb
      exact m_ret (pre := []) (post := []) (P1 := fun d c' => d = .int ((depth car (sel found g) : Nat) : Int) ∧ ∃ kvs', c' = .dic kvs' ∧ MemoOk car found kvs') (em_dget (k := .inl (g : Int)) (ev_var (i := 2) rfl) (ev_var (i := 1) rfl) (mo.look hk) ⟨rfl, _, rfl, mo⟩) s2 rt fun _ _ h => h
theorem sc_tree_of : FnScope ["tests", "group", "found", "known", "made", "least", "index", "bits", "part", "deeper", "bad"] ["tests", "group", "found", "known"] (defScope s_tree_of) := ⟨rfl, rfl, rfl, by decide +kernel, rfl, by decide +kernel, by decide +kernel⟩
theorem has_tree_of (T : Bt mg) (D : Dfn K mg "tree_of" s_tree_of) (h_least_depth : Has P w K mg base k "least_depth" ["tests", "group", "known"] (spO (F_least 16))) (j : Nat) (h_tree_of : Has P w K mg base k "tree_of" ["tests", "group", "found", "known"] (spO (F_treeP j))) : Has P w K mg base (k + 1) "tree_of" ["tests", "group", "found", "known"] (spO (F_tree j)) := by
  have nd := (sc_tree_of).nd
  refine D.hasM sc_tree_of (fun _ _ _ _ _ _ us hl => match us, hl with | [_, _, _, _], _ => rfl) ?_ (fun f cdv A outer s H E hr => ?_)
  · intro ds p c Post h
    exact len_tree_of h
  have hu := hu_of hr
  refine ⟨_, (pss_cons (ps_set (i := 4) nd rfl (Or.inl rfl) (pe_tup (pa_cons pe_str (pa_cons (pe_ix (k_ix (K := K) rfl) (pv 2) (pe_op op_sub (pe_bits (pv 1)) pe_int) (fun _ _ => rfl)) pa_nil))))
    (pss_cons (ps_set (i := 5) nd rfl (Or.inl rfl) (pe_has h_least_depth hr (by rfl) (pa_cons (pv 0) (pa_cons (pv 1) (pa_cons (pv 3) pa_nil)))))
    (pss_cons (ps_for PassesOwn.never rfl (k_piL (K := K) rfl (pv 0)) (k_tup (K := K) rfl rfl (pgs_cons (pg_name (i := 6) nd rfl (Or.inl rfl)) (pgs_cons (pg_name (i := 7) nd rfl (Or.inl rfl)) pgs_nil))) (pss_cons (ps_set (i := 8) nd rfl (Or.inl rfl) (pe_op op_and (pv 1) (pv 7)))
    (pss_one (ps_if (pt_chain op_lt op_lt pe_int (pv 8) (pv 1)) (pss_cons (ps_set (i := 9) nd rfl (Or.inl rfl) (pe_callB (call_max2 rfl) (by rfl) T.max (by decide +kernel) (pa_cons (pe_has h_least_depth hr (by rfl) (pa_cons (pv 0) (pa_cons (pv 8) (pa_cons (pv 3) pa_nil)))) (pa_cons (pe_has h_least_depth hr (by rfl) (pa_cons (pv 0) (pa_cons (pe_op op_sub (pv 1) (pv 8)) (pa_cons (pv 3) pa_nil)))) pa_nil))))
    (pss_one (ps_if (pt_cmpR op_eq (pe_op op_add pe_int (pv 9)) (pv 5) (nomark _)) (pss_cons (ps_set (i := 10) nd rfl (Or.inl rfl) (pe_has h_tree_of hr (by rfl) (pa_cons (pv 0) (pa_cons (pv 8) (pa_cons (pv 2) (pa_cons (pv 3) pa_nil))))))
    (pss_one (ps_ret (pe_tup (pa_cons pe_str (pa_cons (pv 6) (pa_cons (pv 10) (pa_cons (pe_has h_tree_of hr (by rfl) (pa_cons (pv 0) (pa_cons (pe_op op_sub (pv 1) (pv 8)) (pa_cons (pv 2) (pa_cons (pv 3) pa_nil))))) pa_nil)))))))) pss_nil))) pss_nil))))
    (pss_one (ps_ret (pv 4)))))), ?_⟩
  rintro ds p c Post ⟨car, found, g, kvs, rfl, rfl, mo, h16, hcl, nd, hg, g0, ap, hj, rfl⟩ ps σ D H0 s rt nx
  have s0 := s.as (ρ' := [some (testsD (tsOf car found)), some (.int (g : Int)), some (intsD found), some (.adr p), none, none, none, none, none, none, none]) rfl
  obtain ⟨x, hx⟩ := log_in hg g0
  have hjj := sel_len hg
  refine q_set (d := .tup [.str "is", .int x]) (ev_tup (ea_cons ev_str (ea_cons (ev_op (ev_var (i := 2) rfl) (ev_op (ev_bits (ev_var (i := 1) rfl)) ev_int od_sub) (od_ixl (atI_log hx g0))) ea_nil)) (Nat.le_of_ble_eq_true rfl)) s0 fun σ1 H1 s1 => ?_
  refine mq_set (pre := []) (post := []) (Post := fun d c' => d = .int ((depth car (sel found g) : Nat) : Int) ∧ ∃ kvs', c' = .dic kvs' ∧ MemoOk car found kvs') (em_call (ema_pure (ea_cons (ev_var (i := 0) rfl) (ea_cons (ev_var (i := 1) rfl) (ea_cons (ev_var (i := 3) rfl) ea_nil))) ⟨_, ⟨car, found, g, kvs, rfl, rfl, mo, h16, hcl, nd, hg, ap, by omega, rfl⟩, fun d c' h => h⟩)) s1 fun σ2 H2 d c' ⟨hd, kvs0, hc, mo0⟩ s2 => ?_
  subst hd
  subst hc
  refine q_for car (fun q => pairD (q.1, bitsOf found q.2)) (fun q ρ => (ρ.set 6 (some (.int (q.1 : Int)))).set 7 (some (.int ((bitsOf found q.2 : Nat) : Int)))) (fun i os ρ => ∃ kvs1, MemoOk car found kvs1 ∧ os = [(p, .dic kvs1)] ∧ (car.take i).find? (best car (sel found g)) = none ∧ ∃ e6 e7 e8 e9, ρ = [some (testsD (tsOf car found)), some (.int (g : Int)), some (intsD found), some (.adr p), some (.tup [.str "is", .int x]), some (.int ((depth car (sel found g) : Nat) : Int)), e6, e7, e8, e9, none])
    (ei_list (ev_is (ev_var (i := 0) rfl) (by rw [testsD, tsOf, List.map_map]; rfl))) (fun q ρ' => tg_two) s2 ⟨kvs0, mo0, rfl, rfl, _, _, _, _, rfl⟩ ?_ ?_
  · rintro H4 e l i q os' ρ' H' σ' hx4 ⟨kvs1, mo1, rfl, hno, e6, e7, e8, e9, rfl⟩ s4 D' hrt hnx
    have hnext : best car (sel found g) q = false → (car.take (i + 1)).find? (best car (sel found g)) = none := fun hb => by
      rw [List.take_add_one, hx4, List.find?_append, hno]
      simp [hb]
    refine q_set (ev_op (ev_var (i := 1) rfl) (ev_var (i := 7) rfl) od_andN) s4 fun σ5 H5 s5 => ?_
    have s6 := s5.as (ρ' := [some (testsD (tsOf car found)), some (.int (g : Int)), some (intsD found), some (.adr p), some (.tup [.str "is", .int x]), some (.int ((depth car (sel found g) : Nat) : Int)), some (.int (q.1 : Int)), some (.int ((bitsOf found q.2 : Nat) : Int)), some (.int ((g &&& bitsOf found q.2 : Nat) : Int)), e9, none]) rfl
    refine s_if (et_is (et_T (ev_chb ev_int (ev_var (i := 8) rfl) (ev_var (i := 1) rfl) od_lt od_lt)) (part_split hg)) s6 (fun hs H6 s7 => ?_) (fun hs H6 s7 => ?_)
    · obtain ⟨l1, l2, l3, l4⟩ := splits_lt hs
      have hle : (g &&& bitsOf found q.2) ≤ g := Nat.and_le_left
      refine mq_set (pre := []) (post := []) (em_cb (Post := fun d c' => d = .int ((max (depth car (yes q.2 (sel found g))) (depth car (no q.2 (sel found g))) : Nat) : Int) ∧ ∃ kvs', c' = .dic kvs' ∧ MemoOk car found kvs') (ema_cons (P1 := fun d c' => d = .int ((depth car (yes q.2 (sel found g)) : Nat) : Int) ∧ ∃ kvs', c' = .dic kvs' ∧ MemoOk car found kvs') (em_call (ema_pure (ea_cons (ev_var (i := 0) rfl) (ea_cons (ev_var (i := 8) rfl) (ea_cons (ev_var (i := 3) rfl) ea_nil))) ⟨_, ⟨car, found, g &&& bitsOf found q.2, kvs1, rfl, rfl, mo1, h16, hcl, nd, by omega, by rw [sel_yes]; exact ap.yes q.2, by rw [sel_yes]; omega, rfl⟩, fun d c' h => by rw [sel_yes] at h; exact h⟩))
        fun d1 c1 ⟨hd1, kvs2, hc1, mo2⟩ => by
          subst hd1
          subst hc1
          refine ema_cons (P1 := fun d c' => d = .int ((depth car (no q.2 (sel found g)) : Nat) : Int) ∧ ∃ kvs', c' = .dic kvs' ∧ MemoOk car found kvs') (em_call (ema_pure (ds := [testsD (tsOf car found), .int ((g - (g &&& bitsOf found q.2) : Nat) : Int), .adr p]) (ea_cons (ev_var (i := 0) rfl) (ea_cons (ev_is (ev_op (ev_var (i := 1) rfl) (ev_var (i := 8) rfl) od_sub) (by rw [← Int.ofNat_sub Nat.and_le_left])) (ea_cons (ev_var (i := 3) rfl) ea_nil))) ⟨_, ⟨car, found, g - (g &&& bitsOf found q.2), kvs2, rfl, rfl, mo2, h16, hcl, nd, by omega, by rw [sel_no]; exact ap.no q.2, by rw [sel_no]; omega, rfl⟩, fun d c' h => by rw [sel_no] at h; exact h⟩))
            fun d2 c2 ⟨hd2, kvs3, hc2, mo3⟩ => ?_
          subst hd2
          subst hc2
          exact ema_nil ⟨_, cd_max2, by congr 1; omega, kvs3, rfl, mo3⟩)) s7 fun σ8 H8 d c' ⟨hd, kvs3, hc3, mo3⟩ s8 => ?_
      subst hd
      subst hc3
      refine s_if (b := decide (1 + max (depth car (yes q.2 (sel found g))) (depth car (no q.2 (sel found g))) = depth car (sel found g))) (et_is (et_T (ev_op (ev_op ev_int (ev_var (i := 9) rfl) od_add) (ev_var (i := 5) rfl) od_eqI)) (by rw [decide_eq_decide]; omega)) s8 (fun hb H9 s9 => ?_) (fun hb H9 s9 => ?_)
      · have hf : car.find? (best car (sel found g)) = some q := by
          have hbq : best car (sel found g) q = true := by unfold best; rw [hs, hb]; rfl
          exact find_at hx4 hno hbq
        cases j with
        | zero => omega
        | succ j =>
        refine mq_set (pre := []) (post := []) (Post := fun d c' => d = treeOf car (yes q.2 (sel found g)) ∧ ∃ kvs', c' = .dic kvs' ∧ MemoOk car found kvs') (em_call (ema_pure (ea_cons (ev_var (i := 0) rfl) (ea_cons (ev_var (i := 8) rfl) (ea_cons (ev_var (i := 2) rfl) (ea_cons (ev_var (i := 3) rfl) ea_nil)))) ⟨_, ⟨car, found, g &&& bitsOf found q.2, kvs3, rfl, rfl, mo3, h16, hcl, nd, by omega, (fun z => by rw [← sel_nil (xs := found) (by omega), sel_yes] at z; rw [z] at l3; exact absurd l3 (by decide)), by rw [sel_yes]; exact ap.yes q.2, by rw [sel_yes]; omega, rfl⟩, fun d c' h => by rw [sel_yes] at h; exact h⟩)) s9 fun σ10 H10 d c' ⟨hd, kvs4, hc4, mo4⟩ s10 => ?_
        subst hd
        subst hc4
        refine m_ret (pre := []) (post := []) (P1 := fun d c' => d = treeOf car (sel found g) ∧ ∃ kvs', c' = .dic kvs' ∧ MemoOk car found kvs') (em_tup (ema_cons (em_pure ev_str (Post := fun d c' => d = .str "look" ∧ c' = .dic kvs4) ⟨rfl, rfl⟩) fun d1 c1 ⟨hd1, hc1⟩ => ?_)) s10 (rt.step s.live e hrt) fun _ _ h => h
        subst hd1
        subst hc1
        refine ema_cons (em_pure (ev_var (i := 6) rfl) (Post := fun d c' => d = .int (q.1 : Int) ∧ c' = .dic kvs4) ⟨rfl, rfl⟩) fun d2 c2 ⟨hd2, hc2⟩ => ?_
        subst hd2
        subst hc2
        refine ema_cons (em_pure (ev_var (i := 10) rfl) (Post := fun d c' => d = treeOf car (yes q.2 (sel found g)) ∧ c' = .dic kvs4) ⟨rfl, rfl⟩) fun d3 c3 ⟨hd3, hc3⟩ => ?_
        subst hd3
        subst hc3
        refine ema_cons (P1 := fun d c' => d = treeOf car (no q.2 (sel found g)) ∧ ∃ kvs', c' = .dic kvs' ∧ MemoOk car found kvs') (em_call (ema_pure (ds := [testsD (tsOf car found), .int ((g - (g &&& bitsOf found q.2) : Nat) : Int), intsD found, .adr p]) (ea_cons (ev_var (i := 0) rfl) (ea_cons (ev_is (ev_op (ev_var (i := 1) rfl) (ev_var (i := 8) rfl) od_sub) (by rw [← Int.ofNat_sub Nat.and_le_left])) (ea_cons (ev_var (i := 2) rfl) (ea_cons (ev_var (i := 3) rfl) ea_nil)))) ⟨_, ⟨car, found, g - (g &&& bitsOf found q.2), kvs4, rfl, rfl, mo4, h16, hcl, nd, by omega, (fun z => by rw [← sel_nil (xs := found) (by omega), sel_no] at z; rw [z] at l4; exact absurd l4 (by decide)), by rw [sel_no]; exact ap.no q.2, by rw [sel_no]; omega, rfl⟩, fun d c' h => by rw [sel_no] at h; exact h⟩)) fun d4 c4 ⟨hd4, kvs5, hc4, mo5⟩ => ?_
        subst hd4
        subst hc4
        exact ema_nil ⟨Nat.le_of_ble_eq_true rfl, (tree_some hf).symm, kvs5, rfl, mo5⟩
      · exact hnx _ _ _ _ ⟨kvs3, mo3, rfl, hnext (by unfold best; rw [hb, Bool.and_false]), _, _, _, _, rfl⟩ s9
    · exact hnx _ _ _ _ ⟨kvs1, mo1, rfl, hnext (by unfold best; rw [hs, Bool.false_and]), _, _, _, _, rfl⟩ s7
  · rintro os' ρ' H' σ' ⟨kvs1, mo1, rfl, hno, e6, e7, e8, e9, rfl⟩ s4
    rw [List.take_length] at hno
    have hl := best_none hno ap (nd.sublist (sel_sub found g))
    refine m_retP (pre := []) (post := []) (ev_var (i := 4) rfl) s4 rt ⟨?_, kvs1, rfl, mo1⟩
    rw [tree_none hno]
    cases ex : sel found g with
    | nil => exact absurd ((sel_nil hg).mp ex) g0
    | cons y ys =>
      rw [ex, List.length_cons] at hl
      have : ys = [] := List.length_eq_zero_iff.mp (by omega)
      subst this
      have := sel_log hg ex
      rw [hx] at this
      cases this
      rfl
end
end Ck
namespace Ck
open PySem PySem.Spec L2
open PyProof.Rows hiding St

/-! ### what looks and look_tree make -/
theorem bits_at (ls : List Int) : ∀ (xs : List Int) (k : Nat) (x : Int), xs[k]? = some x → bitsR ls xs / 2 ^ k % 2 = if x ∈ ls then 1 else 0
  | [], k, x, h => by simp at h
  | y :: xs, 0, x, h => by
    simp at h
    subst h
    rw [Nat.pow_zero, Nat.div_one]
    exact (bitsR_div ls y xs).2
  | y :: xs, k + 1, x, h => by
    rw [Nat.pow_succ, Nat.mul_comm, ← Nat.div_div_eq_div_mul, (bitsR_div ls y xs).1]
    exact bits_at ls xs k x (by simpa using h)
theorem kind_eq {car : Car} {found : List Int} {i j : Nat} {x y : Int} (hx : found[i]? = some x) (hy : found[j]? = some y) : kindAt (tsOf car found) i = kindAt (tsOf car found) j ↔ ∀ p ∈ car, decide (x ∈ p.2) = decide (y ∈ p.2) := by
  unfold kindAt tsOf
  rw [List.map_map, List.map_map, List.map_inj_left]
  refine forall_congr' fun p => forall_congr' fun hp => ?_
  show (((bitsOf found p.2 / 2 ^ i % 2 : Nat) : Int) = ((bitsOf found p.2 / 2 ^ j % 2 : Nat) : Int)) ↔ _
  rw [bitsOf_eq, bits_at p.2 found i x hx, bits_at p.2 found j y hy]
  by_cases c : x ∈ p.2 <;> by_cases d : y ∈ p.2 <;> simp [c, d]
theorem apart_iff {car : Car} {found : List Int} (nd : found.Nodup) : apart (tsOf car found) found.length = true ↔ Ap car found := by
  unfold apart
  rw [decide_eq_true_eq]
  constructor
  · intro h x hx y hy hne
    obtain ⟨i, hi⟩ := List.getElem?_of_mem hx
    obtain ⟨j, hj⟩ := List.getElem?_of_mem hy
    refine Classical.byContradiction fun z => hne ?_
    have e : kindAt (tsOf car found) i = kindAt (tsOf car found) j := (kind_eq hi hj).mpr fun p hp => Decidable.byContradiction fun q => z ⟨p, hp, q⟩
    have li := (List.getElem?_eq_some_iff.mp hi).1
    have lj := (List.getElem?_eq_some_iff.mp hj).1
    have ij : i = j := by
      have := (List.getElem?_inj (i := i) (j := j) (by rw [List.length_map, List.length_range]; exact li) h).mp (by
        rw [List.getElem?_map, List.getElem?_map, List.getElem?_range li, List.getElem?_range lj]
        exact congrArg some e)
      exact this
    subst ij
    rw [hi] at hj
    exact Option.some.inj hj
  · intro h
    rw [List.nodup_iff_pairwise_ne, List.pairwise_map]
    have hr : (List.range found.length).Pairwise (· < ·) := List.pairwise_lt_range
    refine hr.imp_of_mem fun {i j} hi hj lt e => ?_
    have li := List.mem_range.mp hi
    have lj := List.mem_range.mp hj
    have hx : found[i]? = some found[i] := List.getElem?_eq_getElem li
    have hy : found[j]? = some found[j] := List.getElem?_eq_getElem lj
    have hne : found[i] ≠ found[j] := fun z => by
      have := (List.getElem?_inj (i := i) (j := j) li nd).mp (by rw [hx, hy, z])
      omega
    obtain ⟨p, hp, q⟩ := h _ (List.getElem_mem li) _ (List.getElem_mem lj) hne
    exact q ((kind_eq hx hy).mp e p hp)
open Classical in
noncomputable def looksD (car : Car) (F : List Int) : Dt := if Ap car F then .int ((depth car F : Nat) : Int) else .non
open Classical in
noncomputable def lookTreeD (car : Car) (F : List Int) : Dt := if F ≠ [] ∧ Ap car F then treeOf car F else .non
theorem pow_pred (n : Nat) : 2 ^ n - 1 < 2 ^ n := by
  have : 0 < 2 ^ n := Nat.pow_pos (by decide)
  omega
theorem up_nodup {l : List Int} (h : l.Pairwise (· < ·)) : l.Nodup := h.imp fun {a b} h => by omega
theorem od_shlN {n : Nat} (h : n ≤ 1000000) : OpD (rI0 fun i j => V.int (i - j)) (.int ((2 ^ n : Nat) : Int)) (.int 1) (.int ((2 ^ n - 1 : Nat) : Int)) := by
  have hp : 0 < 2 ^ n := Nat.pow_pos (by decide)
  have e : ((2 ^ n - 1 : Nat) : Int) = ((2 ^ n : Nat) : Int) - 1 := by omega
  rw [e]
  exact od_I0
theorem eq_nil {K : PySem.W.Frag} {ns : List Int} : OpD (rEqD K) (intsD ns) (.lst []) (.bl ns.isEmpty) := by
  have ok : ∀ ns : List Int, okDL (ns.map Dt.int) = true := fun ns => by
    induction ns with
    | nil => rfl
    | cons n ns ih => simp only [List.map_cons, okDL, okD, ih, Bool.and_self]
  have sh : ∀ ns : List Int, PyData.canLayAll0 (toPyL (ns.map Dt.int)) = true ∧ PyData.depthAll (toPyL (ns.map Dt.int)) = 0 := fun ns => by
    induction ns with
    | nil => exact ⟨rfl, rfl⟩
    | cons n ns ih => simp only [List.map_cons, toPyL, toPy, PyData.canLayAll0, PyData.canLay0, PyData.depthAll, PyData.depth, ih.1, ih.2, Bool.and_self, Nat.max_self, and_self]
  refine od_eqD (by simp only [intsD, okD, ok]) rfl ?_ (by decide +kernel) ?_
  · unfold SeqAt.shaped
    rw [Bool.and_eq_true, decide_eq_true_eq]
    simp only [intsD, toPy, PyData.canLay0, PyData.depth]
    exact ⟨(sh ns).1, by rw [(sh ns).2]; omega⟩
  · cases ns with
    | nil => simp [intsD, toPy, toPyL, PyData.eqv, PyData.eqvAll]
    | cons n ns => simp [intsD, toPy, toPyL, PyData.eqv, PyData.eqvAll]
/-- what a state of the telling needs -/
structure StateOk (c : List Fill) (st : List Deed) (t : List (Nat × Bool)) : Prop where
  cel : CellarOk c
  sto : StoryOk c.length st
  few : (everyLot c st).length ≤ 16
  tol : ToldOk st t
theorem StateOk.len {c : List Fill} {st : List Deed} {t : List (Nat × Bool)} (h : StateOk c st t) : (fitting c st t).length ≤ 16 := Nat.le_trans (fit_sub c st t).length_le h.few

section
variable {P : Program} {w : World} {K : PySem.W.Frag} {mg : Str → Option Value} {base : Heap} {k : Nat}

def F_looks : List Dt → Dt → Prop := fun ds d => ∃ (c : List Fill) (st : List Deed) (t : List (Nat × Bool)), ds = [cellarD c, storyD st, toldD t] ∧ StateOk c st t ∧ d = looksD (carriedLots c st) (fitting c st t)
theorem len_looks {ds : List Dt} {d : Dt} (h : F_looks ds d) : ds.length = 3 := by
  obtain ⟨c, st, t, rfl, _⟩ := h; rfl
theorem sc_looks : FnScope ["cellar", "story", "told", "found", "tests"] ["cellar", "story", "told"] (defScope s_looks) := ⟨rfl, rfl, rfl, by decide +kernel, rfl, by decide +kernel, by decide +kernel⟩
theorem has_looks (T : Bt mg) (D : Dfn K mg "looks" s_looks) (h_suspects : Has P w K mg base k "suspects" ["cellar", "story", "told"] (spP F_suspects)) (h_tests_of : Has P w K mg base k "tests_of" ["cellar", "story", "found"] (spP F_tests_of)) (h_least_depth : Has P w K mg base k "least_depth" ["tests", "group", "known"] (spO (F_least 16))) (h_are_told_apart : Has P w K mg base k "are_told_apart" ["tests", "many"] (spP F_are_told_apart)) : Has P w K mg base (k + 1) "looks" ["cellar", "story", "told"] (spP F_looks) := by
  have nd := (sc_looks).nd
  refine D.hasP sc_looks (fun _ _ _ _ _ _ us hl => match us, hl with | [_, _, _], _ => rfl) ?_ (fun f cdv A outer s H E hr => ?_)
  · intro ds d h
    exact len_looks h
  have hu := hu_of hr
  refine ⟨_, (pss_cons (ps_set (i := 3) nd rfl (Or.inl rfl) (pe_has h_suspects hr (by rfl) (pa_cons (pv 0) (pa_cons (pv 1) (pa_cons (pv 2) pa_nil)))))
    (pss_cons (ps_set (i := 4) nd rfl (Or.inl rfl) (pe_has h_tests_of hr (by rfl) (pa_cons (pv 0) (pa_cons (pv 1) (pa_cons (pv 3) pa_nil)))))
    (pss_cons (ps_if (pt_not (pt_val (pe_has h_are_told_apart hr (by rfl) (pa_cons (pv 4) (pa_cons (pe_callB (k_len (K := K) rfl) (by rfl) T.len PySem.boot_len (pa_cons (pv 3) pa_nil)) pa_nil))))) (pss_one (ps_ret pe_non)) pss_nil)
    (pss_one (ps_ret (pe_has h_least_depth hr (by rfl) (pa_cons (pv 4) (pa_cons (pe_op op_sub (pe_op op_shl pe_int (pe_callB (k_len (K := K) rfl) (by rfl) T.len PySem.boot_len (pa_cons (pv 3) pa_nil))) pe_int) (pa_cons pe_dnewK pa_nil))))))))), ?_⟩
  rintro ds d ⟨c, st, t, rfl, ok, rfl⟩ ps σ D s rt nx
  have hl := ok.len
  have nd := up_nodup (fit_up c st t)
  have hcl := car_len c st
  have hs := ok.sto.hi
  refine q_set (d := intsD (fitting c st t)) (ev_call (ea_cons (ev_var (i := 0) rfl) (ea_cons (ev_var (i := 1) rfl) (ea_cons (ev_var (i := 2) rfl) ea_nil))) ⟨c, st, t, rfl, ok.cel, ok.sto, ok.tol, rfl⟩) s fun σ1 H1 s1 => ?_
  refine q_set (d := testsD (testsOf c st (fitting c st t))) (ev_call (ea_cons (ev_var (i := 0) rfl) (ea_cons (ev_var (i := 1) rfl) (ea_cons (ev_var (i := 3) rfl) ea_nil))) ⟨c, st, fitting c st t, rfl, ok.cel, ok.sto, by omega, rfl⟩) s1 fun σ2 H2 s2 => ?_
  have s3 := s2.as (ρ' := [some (cellarD c), some (storyD st), some (toldD t), some (intsD (fitting c st t)), some (testsD (testsOf c st (fitting c st t)))]) rfl
  by_cases hap : Ap (carriedLots c st) (fitting c st t)
  · refine q_gd (et_is (et_not (et_B (ev_call (ds := [testsD (testsOf c st (fitting c st t)), .int ((fitting c st t).length : Int)]) (ea_cons (ev_var (i := 4) rfl) (ea_cons (ev_is (ev_cb (ea_cons (ev_var (i := 3) rfl) ea_nil) (by first | exact cd_lenl | exact cd_lent)) (by rw [List.length_map])) ea_nil)) ⟨testsOf c st (fitting c st t), (fitting c st t).length, rfl, by unfold testsOf; rw [List.length_map]; omega, by omega, rfl⟩))) (by rw [show testsOf c st (fitting c st t) = tsOf (carriedLots c st) (fitting c st t) from rfl, (apart_iff nd).mpr hap]; rfl)) s3 fun H4 s4 => ?_
    rw [show looksD _ _ = _ from if_pos hap] at rt
    refine s_ret (ev_callD (ev_var (i := 4) rfl) (db := .int ((2 ^ (fitting c st t).length - 1 : Nat) : Int)) (ev_is (ev_op (ev_op ev_int (ev_is (e := .int ((fitting c st t).length : Int)) (ev_cb (ea_cons (ev_var (i := 3) rfl) ea_nil) (by first | exact cd_lenl | exact cd_lent)) (by rw [List.length_map])) (od_shl1 (n := (fitting c st t).length) (by omega))) ev_int (od_shlN (n := (fitting c st t).length) (by omega))) rfl) fun p => ⟨_, ⟨carriedLots c st, fitting c st t, 2 ^ (fitting c st t).length - 1, [], rfl, rfl, memo_nil _ _, hl, by omega, nd, pow_pred _, by rw [sel_full]; exact hap, by rw [sel_full]; exact hl, rfl⟩, fun d' c' h => by rw [h.1, sel_full]⟩) s4 rt
  · refine q_gt (et_is (et_not (et_B (ev_call (ds := [testsD (testsOf c st (fitting c st t)), .int ((fitting c st t).length : Int)]) (ea_cons (ev_var (i := 4) rfl) (ea_cons (ev_is (ev_cb (ea_cons (ev_var (i := 3) rfl) ea_nil) (by first | exact cd_lenl | exact cd_lent)) (by rw [List.length_map])) ea_nil)) ⟨testsOf c st (fitting c st t), (fitting c st t).length, rfl, by unfold testsOf; rw [List.length_map]; omega, by omega, rfl⟩))) (by rw [Bool.not_eq_true']; exact Bool.eq_false_iff.mpr fun z => hap ((apart_iff nd).mp z))) s3 fun H4 s4 => ?_
    rw [show looksD _ _ = _ from if_neg hap] at rt
    exact s_ret ev_non s4 rt
def F_look_tree : List Dt → Dt → Prop := fun ds d => ∃ (c : List Fill) (st : List Deed) (t : List (Nat × Bool)), ds = [cellarD c, storyD st, toldD t] ∧ StateOk c st t ∧ d = lookTreeD (carriedLots c st) (fitting c st t)
theorem len_look_tree {ds : List Dt} {d : Dt} (h : F_look_tree ds d) : ds.length = 3 := by
  obtain ⟨c, st, t, rfl, _⟩ := h; rfl
theorem sc_look_tree : FnScope ["cellar", "story", "told", "found", "tests"] ["cellar", "story", "told"] (defScope s_look_tree) := ⟨rfl, rfl, rfl, by decide +kernel, rfl, by decide +kernel, by decide +kernel⟩
theorem has_look_tree (T : Bt mg) (D : Dfn K mg "look_tree" s_look_tree) (h_suspects : Has P w K mg base k "suspects" ["cellar", "story", "told"] (spP F_suspects)) (h_tests_of : Has P w K mg base k "tests_of" ["cellar", "story", "found"] (spP F_tests_of)) (h_tree_of : Has P w K mg base k "tree_of" ["tests", "group", "found", "known"] (spO (F_tree 16))) (h_are_told_apart : Has P w K mg base k "are_told_apart" ["tests", "many"] (spP F_are_told_apart)) : Has P w K mg base (k + 1) "look_tree" ["cellar", "story", "told"] (spP F_look_tree) := by
  have nd := (sc_look_tree).nd
  refine D.hasP sc_look_tree (fun _ _ _ _ _ _ us hl => match us, hl with | [_, _, _], _ => rfl) ?_ (fun f cdv A outer s H E hr => ?_)
  · intro ds d h
    exact len_look_tree h
  have hu := hu_of hr
  refine ⟨_, (pss_cons (ps_set (i := 3) nd rfl (Or.inl rfl) (pe_has h_suspects hr (by rfl) (pa_cons (pv 0) (pa_cons (pv 1) (pa_cons (pv 2) pa_nil)))))
    (pss_cons (ps_set (i := 4) nd rfl (Or.inl rfl) (pe_has h_tests_of hr (by rfl) (pa_cons (pv 0) (pa_cons (pv 1) (pa_cons (pv 3) pa_nil)))))
    (pss_cons (ps_if (PW.pt (pw_or (pt_cmpR (k_eqD (K := K) rfl hr.units) (pv 3) (pe_lst pa_nil) (nomark _)) (pw_or1 (pt_not (pt_val (pe_has h_are_told_apart hr (by rfl) (pa_cons (pv 4) (pa_cons (pe_callB (k_len (K := K) rfl) (by rfl) T.len PySem.boot_len (pa_cons (pv 3) pa_nil)) pa_nil)))))))) (pss_one (ps_ret pe_non)) pss_nil)
    (pss_one (ps_ret (pe_has h_tree_of hr (by rfl) (pa_cons (pv 4) (pa_cons (pe_op op_sub (pe_op op_shl pe_int (pe_callB (k_len (K := K) rfl) (by rfl) T.len PySem.boot_len (pa_cons (pv 3) pa_nil))) pe_int) (pa_cons (pv 3) (pa_cons pe_dnewK pa_nil)))))))))), ?_⟩
  rintro ds d ⟨c, st, t, rfl, ok, rfl⟩ ps σ D s rt nx
  have hl := ok.len
  have nd := up_nodup (fit_up c st t)
  have hcl := car_len c st
  have hs := ok.sto.hi
  refine q_set (d := intsD (fitting c st t)) (ev_call (ea_cons (ev_var (i := 0) rfl) (ea_cons (ev_var (i := 1) rfl) (ea_cons (ev_var (i := 2) rfl) ea_nil))) ⟨c, st, t, rfl, ok.cel, ok.sto, ok.tol, rfl⟩) s fun σ1 H1 s1 => ?_
  refine q_set (d := testsD (testsOf c st (fitting c st t))) (ev_call (ea_cons (ev_var (i := 0) rfl) (ea_cons (ev_var (i := 1) rfl) (ea_cons (ev_var (i := 3) rfl) ea_nil))) ⟨c, st, fitting c st t, rfl, ok.cel, ok.sto, by omega, rfl⟩) s1 fun σ2 H2 s2 => ?_
  have s3 := s2.as (ρ' := [some (cellarD c), some (storyD st), some (toldD t), some (intsD (fitting c st t)), some (testsD (testsOf c st (fitting c st t)))]) rfl
  by_cases hap : fitting c st t ≠ [] ∧ Ap (carriedLots c st) (fitting c st t)
  · refine q_gd (et_is (et_or (et_T (ev_op (ev_var (i := 3) rfl) (ev_lst ea_nil (Nat.le_of_ble_eq_true rfl)) (eq_nil (ns := fitting c st t)))) fun _ => et_not (et_B (ev_call (ds := [testsD (testsOf c st (fitting c st t)), .int ((fitting c st t).length : Int)]) (ea_cons (ev_var (i := 4) rfl) (ea_cons (ev_is (ev_cb (ea_cons (ev_var (i := 3) rfl) ea_nil) (by first | exact cd_lenl | exact cd_lent)) (by rw [List.length_map])) ea_nil)) ⟨testsOf c st (fitting c st t), (fitting c st t).length, rfl, by unfold testsOf; rw [List.length_map]; omega, by omega, rfl⟩))) (by rw [show testsOf c st (fitting c st t) = tsOf (carriedLots c st) (fitting c st t) from rfl, (apart_iff nd).mpr hap.2, List.isEmpty_eq_false_iff.mpr hap.1]; rfl)) s3 fun H4 s4 => ?_
    rw [show lookTreeD _ _ = _ from if_pos hap] at rt
    refine s_ret (ev_callD3 (ev_var (i := 4) rfl) (db := .int ((2 ^ (fitting c st t).length - 1 : Nat) : Int)) (ev_is (ev_op (ev_op ev_int (ev_is (e := .int ((fitting c st t).length : Int)) (ev_cb (ea_cons (ev_var (i := 3) rfl) ea_nil) (by first | exact cd_lenl | exact cd_lent)) (by rw [List.length_map])) (od_shl1 (n := (fitting c st t).length) (by omega))) ev_int (od_shlN (n := (fitting c st t).length) (by omega))) rfl) (ev_var (i := 3) rfl) fun p => ⟨_, ⟨carriedLots c st, fitting c st t, 2 ^ (fitting c st t).length - 1, [], rfl, rfl, memo_nil _ _, hl, by omega, nd, ?_, ?_, by rw [sel_full]; exact hap.2, by rw [sel_full]; exact hl, rfl⟩, fun d' c' h => by rw [h.1, sel_full]⟩) s4 rt
    · have : 0 < 2 ^ (fitting c st t).length := Nat.pow_pos (by decide)
      omega
    · have h1 : 2 ^ 1 ≤ 2 ^ (fitting c st t).length := Nat.pow_le_pow_right (by decide) (List.length_pos_iff.mpr hap.1)
      omega
  · refine q_gt (et_is (et_or (et_T (ev_op (ev_var (i := 3) rfl) (ev_lst ea_nil (Nat.le_of_ble_eq_true rfl)) (eq_nil (ns := fitting c st t)))) fun _ => et_not (et_B (ev_call (ds := [testsD (testsOf c st (fitting c st t)), .int ((fitting c st t).length : Int)]) (ea_cons (ev_var (i := 4) rfl) (ea_cons (ev_is (ev_cb (ea_cons (ev_var (i := 3) rfl) ea_nil) (by first | exact cd_lenl | exact cd_lent)) (by rw [List.length_map])) ea_nil)) ⟨testsOf c st (fitting c st t), (fitting c st t).length, rfl, by unfold testsOf; rw [List.length_map]; omega, by omega, rfl⟩))) ?_) s3 fun H4 s4 => ?_
    · by_cases h0 : fitting c st t = []
      · rw [h0]; rfl
      · have : ¬ apart (tsOf (carriedLots c st) (fitting c st t)) (fitting c st t).length = true := fun z => hap ⟨h0, (apart_iff nd).mp z⟩
        rw [Bool.or_eq_true, Bool.not_eq_true']
        exact .inr (Bool.eq_false_iff.mpr this)
    · rw [show lookTreeD _ _ = _ from if_neg hap] at rt
      exact s_ret ev_non s4 rt
def F_w_integer : List Dt → Dt → Prop := fun ds d => ∃ (x : Dt), ds = [x] ∧ ((∃ i, x = .int i ∧ d = .bl true) ∨ (x = .non ∧ d = .bl false))
theorem len_w_integer {ds : List Dt} {d : Dt} (h : F_w_integer ds d) : ds.length = 1 := by
  obtain ⟨x, rfl, _⟩ := h; rfl
theorem sc_w_integer : FnScope ["_law_value"] ["_law_value"] (defScope s_w_integer) := ⟨rfl, rfl, rfl, by decide +kernel, rfl, by decide +kernel, by decide +kernel⟩
theorem has_w_integer (T : Bt mg) (D : Dfn K mg "_law_integer" s_w_integer) : Has P w K mg base (k + 1) "_law_integer" ["_law_value"] (spP F_w_integer) := by
  have nd := (sc_w_integer).nd
  refine D.hasP sc_w_integer (fun _ _ _ _ _ _ us hl => match us, hl with | [_], _ => rfl) ?_ (fun f cdv A outer s H E hr => ?_)
  · intro ds d h
    exact len_w_integer h
  have hu := hu_of hr
  refine ⟨_, (pss_one (ps_ret (pe_and (pe_callB (k_isi (K := K) rfl) (by rfl) T.isinstance (by decide +kernel) (pa_cons (pv 0) (pa_cons (pe_bltn (v := .ty "int") (by rfl) T.int (by decide +kernel) rfl) pa_nil))) (pe_one (pe_not (pe_callB (k_isi (K := K) rfl) (by rfl) T.isinstance (by decide +kernel) (pa_cons (pv 0) (pa_cons (pe_bltn (v := .ty "bool") (by rfl) T.bool (by decide +kernel) rfl) pa_nil)))))))), ?_⟩
  rintro ds d ⟨x, rfl, h⟩ ps σ D s rt nx
  rcases h with ⟨i, rfl, rfl⟩ | ⟨rfl, rfl⟩
  · exact s_ret (ev_is (ev_andb (ev_cb (ea_cons (ev_var (i := 0) rfl) (ea_cons ev_ty ea_nil)) (cd_isi (b := true) rfl (by decide +kernel))) fun _ => (ev_not (ev_cb (ea_cons (ev_var (i := 0) rfl) (ea_cons ev_ty ea_nil)) (cd_isi (b := false) rfl (by decide +kernel))))) rfl) s rt
  · exact s_ret (ev_is (ev_andb (b := false) (ev_cb (ea_cons (ev_var (i := 0) rfl) (ea_cons ev_ty ea_nil)) (cd_isi (b := false) rfl (by decide +kernel))) fun z => absurd z (by decide)) rfl) s rt
def leftOf (car : Car) (known : List Int) (t : List (Nat × Bool)) : List Int := known.filter fun l => t.all fun p => decide (decide (l ∈ lookC car p.1) = p.2)
theorem cd_allB {K : PySem.W.Frag} {α : Type} (xs : List α) (f : α → Bool) : ClD (rAll K) [.lst (xs.map fun x => Dt.bl (f x))] (.bl (xs.all f)) := by
  have e := cd_all (K := K) (xs.map f)
  rw [List.map_map, List.all_map] at e
  exact e
def F_w_left : List Dt → Dt → Prop := fun ds d => ∃ (car : Car) (known : List Int) (t : List (Nat × Bool)), ds = [intsD known, carD car, toldD t] ∧ known.length ≤ 1000 ∧ t.length ≤ 1000 ∧ (∀ p ∈ t, p.1 ∈ car.map (·.1)) ∧ d = intsD (leftOf car known t)
theorem len_w_left {ds : List Dt} {d : Dt} (h : F_w_left ds d) : ds.length = 3 := by
  obtain ⟨car, known, t, rfl, _⟩ := h; rfl
theorem sc_w_left : FnScope ["_law_known", "_law_carries", "_law_told_here", "_law_lot", "_law_index", "_law_bad"] ["_law_known", "_law_carries", "_law_told_here"] (defScope s_w_left) := ⟨rfl, rfl, rfl, by decide +kernel, rfl, by decide +kernel, by decide +kernel⟩
theorem has_w_left (T : Bt mg) (D : Dfn K mg "_law_left" s_w_left) : Has P w K mg base (k + 1) "_law_left" ["_law_known", "_law_carries", "_law_told_here"] (spP F_w_left) := by
  have nd := (sc_w_left).nd
  refine D.hasP sc_w_left (fun _ _ _ _ _ _ us hl => match us, hl with | [_, _, _], _ => rfl) ?_ (fun f cdv A outer s H E hr => ?_)
  · intro ds d h
    exact len_w_left h
  have hu := hu_of hr
  refine ⟨_, (pss_one (ps_ret (pe_lc (own := [("_law_lot", 3)]) (g := (gName 3)) rfl nd (k_piL (K := K) rfl (pv 0)) (blkOk_by (N := ["_law_known", "_law_carries", "_law_told_here", "_law_lot", "_law_index", "_law_bad"]) (sc := defScope s_w_left) (by decide +kernel)) (fun _ _ _ _ _ => (pg_name (i := 3) nd rfl (Or.inr rfl))) (fun _ _ _ _ _ => (pts_one (pt_val (pe_callB (k_all (K := K) rfl rfl) (by rfl) T.all (by decide +kernel) (pa_cons (pe_lc (own := [("_law_index", 4), ("_law_bad", 5)]) (g := (gTup K 2 (gCons (gName 4) (gCons (gName 5) gNil)))) (tt := tYes) rfl nd (k_piT (K := K) rfl (pv 2)) (by refine blkOk_rl (N := ["_law_known", "_law_carries", "_law_told_here", "_law_lot", "_law_index", "_law_bad"]) (sc := lcSc s_w_left 0) rfl rfl ?_; decide +kernel) (fun _ _ _ _ _ => (k_tup (K := K) rfl rfl (pgs_cons (pg_name (i := 4) nd rfl (Or.inl rfl)) (pgs_cons (pg_name (i := 5) nd rfl (Or.inl rfl)) pgs_nil)))) (fun _ _ _ _ _ => pts_nil) (fun _ _ _ _ _ => (pe_cmpR op_eq (pe_cmpR (k_in (K := K) rfl) (pv 3) (pe_dget hu (pv 1) (pv 4) (fun _ _ => rfl)) (by rfl)) (pv 5) (nomark _)))) pa_nil))))) (fun _ _ _ _ _ => (pv 3))))), ?_⟩
  rintro ds d ⟨car, known, t, rfl, hk, ht, hall, rfl⟩ ps σ D s rt nx
  refine s_ret (ev_is (ev_lc known Dt.int (fun l => t.all fun p => decide (decide (l ∈ lookC car p.1) = p.2)) Dt.int (fun l => [some (intsD known), some (carD car), some (toldD t), some (.int l), none, none])
    (ei_list (ev_var (i := 0) rfl)) (js := [3]) (by simp) (fun l _ => tg_name) (fun l hl => et_B (ev_cb (ea_cons (ev_lc0 t lookD (fun p => .bl (decide (decide (l ∈ lookC car p.1) = p.2))) (fun p => [some (intsD known), some (carD car), some (toldD t), some (.int l), some (.int (p.1 : Int)), some (.bl p.2)])
      (ei_tup (ev_var (i := 2) rfl)) (js := [4, 5]) (by simp) (fun p _ => tg_two) (fun p hp => ev_op (ev_op (ev_var (i := 3) rfl) (ev_dget (kvs := carK car) (k := .inl (p.1 : Int)) (ev_var (i := 1) rfl) (ev_var (i := 4) rfl) (look_car (hall p hp))) (od_inIl (lookC car p.1))) (ev_var (i := 5) rfl) od_eqB) (le5 ht)) ea_nil) (cd_allB t _))) (fun l _ _ => (ev_var (i := 3) rfl)) (le5 hk)) rfl) s rt
end
end Ck
namespace Ck
open PySem PySem.Spec L2
open PyProof.Rows hiding St

/-! ### a list of one's own, read for ints and truth values -/
section
variable {ps : List Addr} {H0 H1 H H' : Hp} {pre post : Os} {p : Addr} {c c' : Oc} {σ σ' : St} {ρ ρ' : List (Option Dt)} {ds : List Dt} {d : Dt} {D : Ends} {u : TS} {i j : Nat} {z : Int}
theorem S.evpR (s : S ps H0 (pre ++ (p, .lst ds) :: post) H σ ρ) (hi : ρ[i]? = some (some (.adr p))) {te : TE} (h : EvP te (ρ.set i (some (.lst ds))) (.int z)) {Q : VK} (q : ∀ H', Ex H H' → S ps H0 (pre ++ (p, .lst ds) :: post) H' σ ρ → Q (.int z) H') : te σ H Q :=
  (s.freeze hi).evp h fun v H' e s' r => by cases r; exact q H' e (s.ex e)
theorem S.evtR (s : S ps H0 (pre ++ (p, .lst ds) :: post) H σ ρ) (hi : ρ[i]? = some (some (.adr p))) {tt : TT} {b : Bool} (h : EvT tt (ρ.set i (some (.lst ds))) b) {Q : Bool → Hp → Prop} (q : ∀ H', Ex H H' → S ps H0 (pre ++ (p, .lst ds) :: post) H' σ ρ → Q b H') : tt σ H Q :=
  (s.freeze hi).evt h fun H' e s' => q H' e (s.ex e)
theorem rq_set {te : TE} (hi : ρ[i]? = some (some (.adr p))) (h : EvP te (ρ.set i (some (.lst ds))) (.int z)) (s : S ps H0 (pre ++ (p, .lst ds) :: post) H σ ρ) (k : ∀ σ' H', S ps H0 (pre ++ (p, .lst ds) :: post) H' σ' (ρ.set j (some (.int z))) → u D σ' H') : tSeq (tAsg te (gName j)) u D σ H :=
  s.evpR hi h fun H' e s' => k _ _ (s'.set j (.int z))
theorem r_put {te ta tb : TE} {k : Int} (hi : ρ[i]? = some (some (.adr p))) (h : EvP te (ρ.set i (some (.lst ds))) (.int z)) (ha : EvP ta ρ (.adr p)) (hb : EvP tb ρ (.int k)) (hj : ixN ds.length k = some j) (s : S ps H0 (pre ++ (p, .lst ds) :: post) H σ ρ)
    (kk : ∀ H', S ps H0 (pre ++ (p, .lst (ds.set j (.int z))) :: post) H' σ ρ → D.nx σ H') : tAsg te (gSub ta tb rSetL) D σ H := by
  refine s.evpR hi h fun H1 e1 s1 => ?_
  refine s1.evp ha fun o H2 e2 s2 r2 => ?_
  refine s2.evp hb fun x H3 e3 s3 r3 => ?_
  cases r2
  cases r3
  obtain ⟨xs, a, r⟩ := s3.own p (.lst ds) (by simp)
  exact ⟨p, xs, k, j, rfl, rfl, a, by rw [r.length]; exact hj, kk _ (s3.write ⟨_, upd_same, r.setv (.int z)⟩)⟩
theorem rq_put {te ta tb : TE} {k : Int} (hi : ρ[i]? = some (some (.adr p))) (h : EvP te (ρ.set i (some (.lst ds))) (.int z)) (ha : EvP ta ρ (.adr p)) (hb : EvP tb ρ (.int k)) (hj : ixN ds.length k = some j) (s : S ps H0 (pre ++ (p, .lst ds) :: post) H σ ρ)
    (kk : ∀ H', S ps H0 (pre ++ (p, .lst (ds.set j (.int z))) :: post) H' σ ρ → u D σ H') : tSeq (tAsg te (gSub ta tb rSetL)) u D σ H := r_put (D := { D with nx := u D }) hi h ha hb hj s kk
theorem r_if {tt : TT} {t w : TS} {b : Bool} (hi : ρ[i]? = some (some (.adr p))) (h : EvT tt (ρ.set i (some (.lst ds))) b) (s : S ps H0 (pre ++ (p, .lst ds) :: post) H σ ρ) (k1 : b = true → ∀ H', S ps H0 (pre ++ (p, .lst ds) :: post) H' σ ρ → t D σ H') (k2 : b = false → ∀ H', S ps H0 (pre ++ (p, .lst ds) :: post) H' σ ρ → w D σ H') : tIfS tt t w D σ H :=
  s.evtR hi h fun H' e s' => by
    cases b with
    | true => rw [if_pos rfl]; exact k1 rfl H' s'
    | false => rw [if_neg Bool.false_ne_true]; exact k2 rfl H' s'
/-- both ways come together -/
theorem rq_if {tt : TT} {t w : TS} {b : Bool} (I : St → Hp → Prop) (hi : ρ[i]? = some (some (.adr p))) (h : EvT tt (ρ.set i (some (.lst ds))) b) (s : S ps H0 (pre ++ (p, .lst ds) :: post) H σ ρ)
    (k1 : b = true → ∀ H', S ps H0 (pre ++ (p, .lst ds) :: post) H' σ ρ → ∀ D' : Ends, D'.rt = D.rt → (∀ σ H, I σ H → D'.nx σ H) → t D' σ H') (k2 : b = false → ∀ H', S ps H0 (pre ++ (p, .lst ds) :: post) H' σ ρ → ∀ D' : Ends, D'.rt = D.rt → (∀ σ H, I σ H → D'.nx σ H) → w D' σ H')
    (k : ∀ σ' H', I σ' H' → u D σ' H') : tSeq (tIfS tt t w) u D σ H :=
  r_if (D := { D with nx := u D }) hi h s (fun hb H' s' => k1 hb H' s' _ rfl k) fun hb H' s' => k2 hb H' s' _ rfl k
theorem mj_if {tt : TT} {t w : TS} {Post : Bool → Oc → Prop} (I : St → Hp → Prop) (h : EmT tt ρ p c Post) (s : S ps H0 (pre ++ (p, c) :: post) H σ ρ) (k1 : ∀ H' c', Post true c' → S ps H0 (pre ++ (p, c') :: post) H' σ ρ → ∀ D' : Ends, D'.rt = D.rt → (∀ σ H, I σ H → D'.nx σ H) → t D' σ H')
    (k2 : ∀ H' c', Post false c' → S ps H0 (pre ++ (p, c') :: post) H' σ ρ → ∀ D' : Ends, D'.rt = D.rt → (∀ σ H, I σ H → D'.nx σ H) → w D' σ H') (k : ∀ σ' H', I σ' H' → u D σ' H') : tSeq (tIfS tt t w) u D σ H :=
  mq_if h s (fun H' c' hb s' => k1 H' c' hb s' _ rfl k) fun H' c' hb s' => k2 H' c' hb s' _ rfl k
theorem j_if {os : Os} {tt : TT} {t w : TS} {b : Bool} (I : St → Hp → Prop) (h : EvT tt ρ b) (s : S ps H0 os H σ ρ) (k1 : b = true → ∀ H', S ps H0 os H' σ ρ → ∀ D' : Ends, D'.rt = D.rt → (∀ σ H, I σ H → D'.nx σ H) → t D' σ H')
    (k2 : b = false → ∀ H', S ps H0 os H' σ ρ → ∀ D' : Ends, D'.rt = D.rt → (∀ σ H, I σ H → D'.nx σ H) → w D' σ H') (k : ∀ σ' H', I σ' H' → u D σ' H') : tSeq (tIfS tt t w) u D σ H :=
  q_if h s (fun hb H' s' => k1 hb H' s' _ rfl k) fun hb H' s' => k2 hb H' s' _ rfl k
theorem S.conv (s : S ps H0 (pre ++ (p, c) :: post) H σ ρ) (h : ∀ G, c.ok G H p → c'.ok G H p) : S ps H0 (pre ++ (p, c') :: post) H σ ρ := by
  have ok := s.own p c (by simp)
  refine s.mpost (.refl _) ?_
  rw [hid_mid (c := c)]
  exact h _ ok
end
/-! ### the deck as a list -/
abbrev dkL (ns : List Int) (k : Nat) (gr mx : Int) (ct : Nat) : List Dt := [intsD ns, .int (k : Int), .int gr, .int mx, .int (ct : Int)]
structure DkOk (n : Nat) (ns : List Int) (k : Nat) (gr mx : Int) (ct : Nat) : Prop where
  len : ns.length ≤ 63
  hk : k ≤ ns.length
  hg : 0 ≤ gr
  hm0 : 0 ≤ mx
  hm : mx < 2 ^ 100 + (k : Int) * 2 ^ 64
  hc : ct ≤ n + 1
section
variable {ps : List Addr} {H0 H1 H H' : Hp} {pre post : Os} {p : Addr} {σ : St} {ρ : List (Option Dt)} {n m : Nat}
theorem S.toL (s : S ps H0 (pre ++ (p, .deck n) :: post) H σ ρ) : ∃ ns k gr mx ct, DkOk n ns k gr mx ct ∧ S ps H0 (pre ++ (p, .lst (dkL ns k gr mx ct)) :: post) H σ ρ := by
  obtain ⟨q, ns, k, gr, mx, ct, a, b, h1, h2, h3, h4, h5, h6⟩ := s.own p (.deck n) (by simp)
  refine ⟨ns, k, gr, mx, ct, ⟨h1, h2, h3, h4, h5, h6⟩, s.mpost (.refl _) ?_⟩
  rw [hid_mid (c := .deck n)]
  exact ⟨_, a, .cons (.lst b (RA.of_ints ns)) (.cons (.int _) (.cons (.int _) (.cons (.int _) (.cons (.int _) .nil))))⟩
theorem S.toD {ns : List Int} {k : Nat} {gr mx : Int} {ct : Nat} (s : S ps H0 (pre ++ (p, .lst (dkL ns k gr mx ct)) :: post) H σ ρ) (ok : DkOk n ns k gr mx ct) : S ps H0 (pre ++ (p, .deck n) :: post) H σ ρ :=
  s.conv fun G h => by
    obtain ⟨xs, a, r⟩ := h
    cases r with
    | cons r1 r =>
      cases r with
      | cons r2 r =>
        cases r with
        | cons r3 r =>
          cases r with
          | cons r4 r =>
            cases r with
            | cons r5 r =>
              cases r
              cases r2
              cases r3
              cases r4
              cases r5
              cases r1 with
              | lst hb rr =>
                rw [rr.ints] at hb
                exact ⟨_, ns, k, gr, mx, ct, a, hb, ok.len, ok.hk, ok.hg, ok.hm0, ok.hm, ok.hc⟩
theorem S.less (s : S ps H0 (pre ++ (p, .deck n) :: post) H σ ρ) (h : n ≤ m) : S ps H0 (pre ++ (p, .deck m) :: post) H σ ρ :=
  s.conv fun G h' => by
    obtain ⟨q, ns, k, gr, mx, ct, a, b, h1, h2, h3, h4, h5, h6⟩ := h'
    exact ⟨q, ns, k, gr, mx, ct, a, b, h1, h2, h3, h4, h5, by omega⟩
end
theorem em_less {te : TE} {ρ : List (Option Dt)} {p : Addr} {c : Oc} {P1 Post : Dt → Oc → Prop} (h : EvM te ρ p c P1) (k : ∀ d c', P1 d c' → ∃ m m', c' = .deck m ∧ m ≤ m' ∧ Post d (.deck m')) : EvM te ρ p c Post := fun ps H σ l hp ok s Q q =>
  h ps H σ l hp ok s Q fun v H' d c' h1 e ok' r => by
    obtain ⟨m, m', ec, le, hP⟩ := k d c' h1
    subst ec
    refine q v H' d (.deck m') hP e ?_ r
    obtain ⟨q, ns, k, gr, mx, ct, a, b, h1, h2, h3, h4, h5, h6⟩ := ok'
    exact ⟨q, ns, k, gr, mx, ct, a, b, h1, h2, h3, h4, h5, by omega⟩
/-! while -/
theorem q_while {ps : List Addr} {H0 H : Hp} {os : Os} {σ : St} {D : Ends} {u tb : TS} {c : TT} {α : Type} (I : α → List (Option Dt)) (mes : α → Nat) (P : α → Prop) (b : α → Bool) (hc : ∀ x, P x → EvT c (I x) (b x)) {x0 : α} (s : S ps H0 os H σ (I x0)) (h0 : P x0)
    (step : ∀ x, P x → b x = true → ∀ σ H, S ps H0 os H σ (I x) → ∀ D' : Ends, D'.rt = D.rt → (∀ y σ' H', P y → mes y < mes x → S ps H0 os H' σ' (I y) → D'.nx σ' H') → tb D' σ H)
    (done : ∀ x, P x → b x = false → ∀ σ H, S ps H0 os H σ (I x) → u D σ H) : tSeq (tWhile c tb) u D σ H := by
  refine ⟨fun m σ H => ∃ x, m = mes x ∧ P x ∧ S ps H0 os H σ (I x), ⟨mes x0, x0, rfl, h0, s⟩, ?_⟩
  rintro m σ H ⟨x, rfl, hP, s⟩
  refine s.evt (hc x hP) fun H1 e1 s1 => ?_
  cases e : b x with
  | true =>
    rw [if_pos rfl]
    exact ⟨fun σ' H' => ∃ y, P y ∧ mes y < mes x ∧ S ps H0 os H' σ' (I y), fun σ' H' ⟨y, h1, h2, h3⟩ => ⟨mes y, h2, y, rfl, h1, h3⟩, step x hP e σ H1 s1 _ rfl fun y σ' H' h1 h2 h3 => ⟨y, h1, h2, h3⟩⟩
  | false =>
    rw [if_neg Bool.false_ne_true]
    exact done x hP e σ H1 s1
theorem q_par {ps : List Addr} {H0 H : Hp} {os : Os} {σ : St} {ρ : List (Option Dt)} {D : Ends} {u : TS} {i j : Nat} {ta : TA} {d e : Dt} (h : EvA ta ρ [d, e]) (s : S ps H0 os H σ ρ) (k : ∀ σ' H', S ps H0 os H' σ' ((ρ.set i (some d)).set j (some e)) → u D σ' H') : tSeq (tPar i j ta) u D σ H :=
  s.eva h fun vs H' ex s' r => by
    cases r with
    | cons r1 r =>
      cases r with
      | cons r2 r =>
        cases r
        exact ⟨_, _, rfl, k _ _ ((s'.set i r1).set j r2)⟩
theorem s_par {ps : List Addr} {H0 H : Hp} {os : Os} {σ : St} {ρ : List (Option Dt)} {D : Ends} {i j : Nat} {ta : TA} {d e : Dt} (h : EvA ta ρ [d, e]) (s : S ps H0 os H σ ρ) (k : ∀ σ' H', S ps H0 os H' σ' ((ρ.set i (some d)).set j (some e)) → D.nx σ' H') : tPar i j ta D σ H :=
  s.eva h fun vs H' ex s' r => by
    cases r with
    | cons r1 r =>
      cases r with
      | cons r2 r =>
        cases r
        exact ⟨_, _, rfl, k _ _ ((s'.set i r1).set j r2)⟩
/-! a choice from a list -/
theorem od_pick {K : PySem.W.Frag} {ds : List Dt} {x : Int} (h0 : 0 ≤ x) (h1 : x < (ds.length : Int)) : ∃ d ∈ ds, OpD (rIx K) (.lst ds) (.int x) d := by
  obtain ⟨n, rfl⟩ : ∃ n : Nat, x = (n : Int) := ⟨x.toNat, by omega⟩
  have hx : n < ds.length := by omega
  exact ⟨ds[n], List.getElem_mem hx, od_ixl (atI_nat (List.getElem?_eq_getElem hx))⟩
/-! [e for x in range(n)], n and e with changes -/
theorem em_lcR {ρ : List (Option Dt)} {p : Addr} {c : Oc} {ta : TA} {i : Nat} {te : TE} {Pd : Dt → Prop} {PN : Nat → Oc → Prop} {Ic : Nat → Nat → Oc → Prop} {Post : Dt → Oc → Prop}
    (hn : EmA ta ρ p c (fun ds c' => ∃ n : Nat, n ≤ 100000 ∧ ds = [.int (n : Int)] ∧ PN n c')) (h0 : ∀ n c', PN n c' → Ic n 0 c')
    (he : ∀ n j c', j < n → Ic n j c' → EvM te ((ρ.set i none).set i (some (.int (j : Int)))) p c' (fun d c'' => Pd d ∧ Ic n (j + 1) c''))
    (hP : ∀ n c' ds, Ic n n c' → ds.length = n → (∀ d ∈ ds, Pd d) → Post (.lst ds) c') : EvM (tLc (iRng1 ta) (gName i) tYes te [i]) ρ p c Post := by
  intro ps H σ l hp ok s Q q
  refine hn ps H σ l hp ok s _ fun vs H1 ds c1 ⟨n, hnl, hds, hPN⟩ e1 ok1 r1 => ?_
  subst hds
  cases r1 with
  | cons r t =>
    cases t
    cases r
    refine ⟨(n : Int), rfl, by omega, by omega, fun D hD => ?_⟩
    have et : ((n : Int)).toNat = n := by omega
    rw [et]
    have l1 : Lv ps H1 := lv_m l hp e1
    have s1 : Sl (hid (p :: ps) H1) σ ρ := s.ex (ex_wide e1)
    have hDp : D ≠ p := fun z => by
      obtain ⟨o, ho⟩ := ok1.live
      rw [← z, hD] at ho; cases ho
    refine ⟨fun j m H' => j + m = n ∧ ∃ acc ds c', H' D = some (.lst acc) ∧ ds.length = j ∧ (∀ d ∈ ds, Pd d) ∧ Ic n j c' ∧ c'.ok (hid (p :: D :: ps) H') H' p ∧ RA (hid (p :: D :: ps) H') acc ds ∧ Ex (hid [p] H1) (hid [p, D] H'), ⟨n, by omega, [], [], c1, upd_same, rfl, (fun _ h => nomatch h), h0 n c1 hPN, ?_, .nil, ?_⟩, ?_⟩
    · refine ok1.mono (fun a o h => ?_) (upd_ne (Ne.symm hDp))
      obtain ⟨h, c⟩ := hid_some h
      have hne : a ≠ D := fun z => by rw [z, hD] at h; cases h
      exact hid_mk (by rw [upd_ne hne]; exact h) (by simp only [List.mem_cons, not_or] at c ⊢; exact ⟨c.1, hne, c.2⟩)
    · intro a o h
      obtain ⟨h, c⟩ := hid_some h
      have hne : a ≠ D := fun z => by rw [z, hD] at h; cases h
      exact hid_mk (by rw [upd_ne hne]; exact h) (by simp only [List.mem_singleton] at c; simp [c, hne])
    · rintro j m H' ⟨hjm, acc, ds, c', hacc, hlen, hPd, hIc, okc, hr, hx⟩
      by_cases hj : j < n
      · refine .inr ⟨hj, fun H'' => j + 1 + (m - 1) = n ∧ ∃ acc ds c', H'' D = some (.lst acc) ∧ ds.length = j + 1 ∧ (∀ d ∈ ds, Pd d) ∧ Ic n (j + 1) c' ∧ c'.ok (hid (p :: D :: ps) H'') H'' p ∧ RA (hid (p :: D :: ps) H'') acc ds ∧ Ex (hid [p] H1) (hid [p, D] H''), fun H'' h => ⟨m - 1, by omega, h⟩, fun v H2 y => ?_⟩
        obtain ⟨rfl, rfl⟩ := y
        have eW : Ex (hid (p :: ps) H1) (hid (p :: D :: ps) H2) := fun a o h => by
          obtain ⟨h, c⟩ := hid_some h
          simp only [List.mem_cons, not_or] at c
          obtain ⟨h2, c2⟩ := hid_some (hx a o (hid_mk h (by simpa using c.1)))
          simp only [List.mem_cons, List.not_mem_nil, not_or, or_false] at c2
          exact hid_mk h2 (by simp only [List.mem_cons, not_or]; exact ⟨c.1, c2.2, c.2⟩)
        have sW : Sl (hid (p :: D :: ps) H2) (wipe σ [i]) (ρ.set i none) := (s1.ex eW).unset i
        have lD : Lv (D :: ps) H2 := fun a ha z => by
          rcases List.mem_cons.mp ha with q | ha
          · subst q; rw [hacc] at z; cases z
          · have hpa : a ≠ p := fun q => hp (q ▸ ha)
            cases q : H1 a with
            | none => exact l1 a ha q
            | some o => rw [(hid_some (hx a o (hid_mk q (by simpa using hpa)))).1] at z; cases z
        have hpD : p ∉ D :: ps := fun z => by
          rcases List.mem_cons.mp z with q | q
          · exact hDp q.symm
          · exact hp q
        refine And.intro (a := wipe ((wipe σ [i]).set i (some (V.int (0 + (j : Int))))) [i] = wipe σ [i]) ((wipe_set_in (by simp)).trans (wipe_wipe [i] [i] fun _ h => h)) ?_
        have e0 : (0 : Int) + (j : Int) = (j : Int) := Int.zero_add _
        rw [e0]
        refine (show tYes _ H2 _ from ?_)
        refine et_yes (ρ := (ρ.set i none).set i (some (.int (j : Int)))) (p :: D :: ps) H2 ((wipe σ [i]).set i (some (V.int (j : Int)))) (lv_p lD okc) (sW.set i (.int _)) _ fun H3 e3 => ?_
        rw [if_pos rfl]
        refine he n j c' hj hIc (D :: ps) H3 ((wipe σ [i]).set i (some (V.int (j : Int)))) (lD.ex e3) hpD (ok_ex okc e3) ((sW.set i (.int _)).ex (hid_mono e3)) _ fun y H4 d c'' ⟨hd, hI'⟩ e4 ok4 r4 => ?_
        have hacc4 : H4 D = some (.lst acc) := (hid_some (e4 D _ (hid_mk (e3 _ _ hacc) (by simpa using hDp)))).1
        have hr4 := hr.ex ((hid_mono (ps := p :: D :: ps) e3).trans (ex_wide e4))
        refine ⟨acc, hacc4, by rw [hr.length, hlen, sizeLine_eq]; omega, by omega, acc ++ [y], ds ++ [d], c'', upd_same, by simp [hlen], fun d' hd' => ?_, hI', ?_, ?_, ?_⟩
        · rcases List.mem_append.mp hd' with q | q
          · exact hPd d' q
          · rw [List.mem_singleton] at q; subst q; exact hd
        · rw [show hid (p :: D :: ps) (upd H4 D (.lst (acc ++ [y]))) = hid (p :: D :: ps) H4 from hid_upd (by simp)]
          exact ok4.mono (.refl _) (upd_ne (Ne.symm hDp))
        · rw [show hid (p :: D :: ps) (upd H4 D (.lst (acc ++ [y]))) = hid (p :: D :: ps) H4 from hid_upd (by simp)]
          exact hr4.append (.one r4)
        · rw [show hid [p, D] (upd H4 D (.lst (acc ++ [y]))) = hid [p, D] H4 from hid_upd (by simp)]
          intro a o h
          obtain ⟨h2, c2⟩ := hid_some (hx a o h)
          simp only [List.mem_cons, List.not_mem_nil, not_or, or_false] at c2
          obtain ⟨h4, c4⟩ := hid_some (e4 a o (hid_mk (e3 _ _ h2) (by simpa using c2.1)))
          exact hid_mk h4 (by simp only [List.mem_cons, List.not_mem_nil, not_or, or_false]; exact c2)
      · have hjn : j = n := by omega
        subst hjn
        refine .inl ⟨Nat.le_refl _, q (.ref D) H' (.lst ds) c' (hP j c' ds hIc hlen hPd) ?_ ?_ ?_⟩
        · intro a o h
          obtain ⟨h1, c1'⟩ := hid_some (e1 a o h)
          obtain ⟨h2, c2⟩ := hid_some (hx a o (hid_mk h1 c1'))
          exact hid_mk h2 c1'
        · exact okc.mono (hid_sub _ fun a h => by simp only [List.mem_cons] at h ⊢; exact h.elim .inl fun h => .inr (.inr h)) rfl
        · refine .lst (hid_mk hacc ?_) (hr.ex (hid_sub _ fun a h => by simp only [List.mem_cons] at h ⊢; exact h.elim .inl fun h => .inr (.inr h)))
          intro z
          rcases List.mem_cons.mp z with z | z
          · exact hDp z
          · exact l1.new hD z
/-! numbers -/
theorem bits_small {x : Int} (h0 : 0 ≤ x) {k : Nat} (h : x < 2 ^ k) : Builtin.Int.intBits x ≤ k := by
  unfold Builtin.Int.intBits
  by_cases c : x = 0
  · subst c; simp
  · have : (x == 0) = false := by simpa using c
    rw [this]
    have hx : x.natAbs ≠ 0 := by omega
    have h2 : x.natAbs < 2 ^ k := by
      have : ((x.natAbs : Nat) : Int) < ((2 ^ k : Nat) : Int) := by rw [Int.natCast_pow]; rw [Int.natAbs_of_nonneg h0]; exact h
      omega
    have := (Nat.log2_lt hx).mpr h2
    simp
    omega
theorem log_small {x : Int} (h0 : 0 < x) (h : x < 2 ^ 200) : x.natAbs.log2 < 9000 := by
  have h2 : x.natAbs < 2 ^ 200 := by
    have : ((x.natAbs : Nat) : Int) < ((2 ^ 200 : Nat) : Int) := by rw [Int.natAbs_of_nonneg (by omega)]; exact h
    omega
  have := (Nat.log2_lt (by omega)).mpr h2
  omega
end Ck
namespace Ck
open PySem PySem.Spec L2
open PyProof.Rows hiding St
/-! ### for over an iterator that is there -/
section
variable {ps : List Addr} {H0 H1 H H' : Hp} {os os' pre post : Os} {p : Addr} {c : Oc} {σ σ' : St} {ρ ρ' : List (Option Dt)} {d : Dt} {D : Ends} {u : TS}
theorem s_forJ {α : Type} {J : It} {g : TG} {tb : TS} {js : List Nat} (xs : List α) (emb : α → Dt) (up : α → List (Option Dt) → List (Option Dt)) (I : Nat → Os → List (Option Dt) → Prop)
    (ok : ItOk J (hid (ps ++ ks os) H) (xs.map emb)) (tg : ∀ x ρ', TgD g js ρ' (emb x) (up x ρ')) (s : S ps H0 os H σ ρ) (h0 : I 0 os ρ)
    (step : ∀ H1, Ex H0 H1 → Lv ps H1 → ∀ (i : Nat) (x : α) os' ρ' H' σ', xs[i]? = some x → I i os' ρ' → S ps H1 os' H' σ' (up x ρ') →
      tb { D with nx := fun σ'' H'' => ∃ os'' ρ'', I (i + 1) os'' ρ'' ∧ S ps H1 os'' H'' σ'' ρ'', ct := fun σ'' H'' => ∃ os'' ρ'', I (i + 1) os'' ρ'' ∧ S ps H1 os'' H'' σ'' ρ'', bk := D.nx } σ' H')
    (done : ∀ os' ρ' H' σ', I xs.length os' ρ' → S ps H0 os' H' σ' ρ' → D.nx σ' H') : tFor (fun _ H T => T J H) g tb D σ H := by
  have sh := s.here
  rw [← vw_eq] at ok
  have eb : Ex H0 (hid (ks os) H) := s.base
  refine ⟨fun i m σ' H' => i + m = xs.length ∧ ∃ os' ρ', I i os' ρ' ∧ S ps (hid (ks os) H) os' H' σ' ρ', ⟨xs.length, by omega, os, ρ, h0, sh⟩, ?_⟩
  rintro i m σ' H' ⟨him, os', ρ', hI, s'⟩
  have hG : Ex (vw ps os H) (hid (ps ++ ks os') H') := by
    rw [← vw_eq]
    exact hid_mono s'.base
  obtain ⟨hgo, hstop, hy⟩ := ok (ps ++ ks os') H' s'.lv hG
  rw [List.length_map] at hgo hstop
  by_cases c : i < xs.length
  · refine .inr ⟨hgo i c, fun σ'' H'' => ∃ os'' ρ'', I (i + 1) os'' ρ'' ∧ S ps (hid (ks os) H) os'' H'' σ'' ρ'', fun σ'' H'' ⟨os'', ρ'', h1, h2⟩ => ⟨m - 1, by omega, by omega, os'', ρ'', h1, h2⟩, fun v H2 y => ?_⟩
    have hxi : xs[i]? = some xs[i] := List.getElem?_eq_getElem c
    obtain ⟨e2, rv⟩ := hy i v H2 (emb xs[i]) (by rw [List.getElem?_map, hxi]; rfl) y
    have s2 := s'.ex e2
    have sl2 := s2.sl
    rw [vw_eq] at sl2
    refine tg xs[i] ρ' (ps ++ ks os') H2 σ' v s2.lv sl2 rv _ fun σ2 sl3 _ => ?_
    exact step _ eb sh.live i xs[i] os' ρ' H2 σ2 hxi hI (s2.slots (by rw [vw_eq]; exact sl3))
  · have hn : i = xs.length := by omega
    subst hn
    exact .inl ⟨hstop, done os' ρ' H' σ' hI (s'.back s.live eb)⟩
end
end Ck
namespace Ck
open PySem PySem.Spec L2
open PyProof.Rows hiding St

/-! ### the draws of the law -/
def F_w_draw : List Dt → Addr → Oc → (Dt → Oc → Prop) → Prop := fun ds p c Post => ∃ (n : Nat) (b : Int), ds = [.adr p, .int b] ∧ c = .deck n ∧ n ≤ 2 ^ 30 ∧ 0 < b ∧ b < 2 ^ 200 ∧ Post = fun d c' => ∃ x, d = .int x ∧ 0 ≤ x ∧ x < b ∧ c' = .deck (n + 1)
section
variable {ρ : List (Option Dt)} {p : Addr} {n : Nat} {td te : TE} {b : Int} {Post : Dt → Oc → Prop} {E : XK}
theorem em_draw (hd : EvP td ρ (.adr p)) (hb : EvP te ρ (.int b)) (hn : n ≤ 2 ^ 30) (h0 : 0 < b) (h2 : b < 2 ^ 200) (q : ∀ x, 0 ≤ x → x < b → Post (.int x) (.deck (n + 1))) : EvM (tCall (spO F_w_draw) [] E (tCons td (tCons te tNil))) ρ p (.deck n) Post :=
  em_call (ema_pure (ea_cons hd (ea_cons hb ea_nil)) ⟨_, ⟨n, b, rfl, rfl, hn, h0, h2, rfl⟩, fun d c' ⟨x, e, hx, hb, ec⟩ => by subst e; subst ec; exact q x hx hb⟩)
theorem em_drawM {c : Oc} (hd : EvP td ρ (.adr p)) (hb : EvM te ρ p c (fun d c' => ∃ b m, d = .int b ∧ c' = .deck m ∧ m ≤ 2 ^ 30 ∧ 0 < b ∧ b < 2 ^ 200 ∧ ∀ x, 0 ≤ x → x < b → Post (.int x) (.deck (m + 1)))) : EvM (tCall (spO F_w_draw) [] E (tCons td (tCons te tNil))) ρ p c Post :=
  em_call (ema_cons (em_pure hd (Post := fun d c' => d = .adr p ∧ c' = c) ⟨rfl, rfl⟩) fun d c1 ⟨e, ec⟩ => by
    subst e
    subst ec
    exact ema_cons hb fun d c2 ⟨b, m, e, ec, hm, h0, h2, q⟩ => by
      subst e
      subst ec
      exact ema_nil ⟨_, ⟨m, b, rfl, rfl, hm, h0, h2, rfl⟩, fun d c' ⟨x, e, hx, hb, ec⟩ => by subst e; subst ec; exact q x hx hb⟩)
end
theorem od_mod {i j : Int} (h : 0 < j) : OpD (rI (fun _ j => 0 < j) fun i j => V.int (i % j)) (.int i) (.int j) (.int (i % j)) := od_I h
theorem od_div {i j : Int} (h : 0 < j) (h2 : j < 2 ^ 200) : OpD (rI CDivW fun i j => V.int (i / j)) (.int i) (.int j) (.int (i / j)) := od_I ⟨h, log_small h h2⟩
theorem od_cube {i : Int} (h : 0 ≤ i) (h2 : i < 2 ^ 200) : OpD (rI CPowW fun i j => V.int (i ^ j.toNat)) (.int i) (.int 3) (.int (i ^ 3)) := by
  refine od_I (g := fun i j => i ^ j.toNat) ⟨by decide, ?_⟩
  have := bits_small h h2
  omega
/-- the deck is made -/
def spDk (K : PySem.W.Frag) : Sp := fun vs H Q _ => ∃ (a : Addr) (ns : List Int), vs = [.ref a] ∧ SqL K H a (ns.map V.int) ∧ ns.length ≤ 63 ∧ ∀ p H', H p = none → Ex H H' → (Oc.deck 0).ok (hid [p] H') H' p → Q (.ref p) H'
theorem sql_ex {K : PySem.W.Frag} {H H' : Hp} {a : Addr} {xs : List V} (h : SqL K H a xs) (e : Ex H H') : SqL K H' a xs := by
  rcases h with (h | ⟨o, h⟩) | h
  · exact .inl (.inl (e _ _ h))
  · exact .inl (.inr ⟨o, e _ _ h⟩)
  · exact .inr h
theorem it_sql {K : PySem.W.Frag} {H : Hp} {a : Addr} {ns : List Int} (h : SqL K H a (ns.map V.int)) : ItOk (Itl K a) H (ns.map Dt.int) := fun ps H' l e => by
  have hs := sql_ex h (e.trans (hid_ex _ _))
  rw [List.length_map]
  refine ⟨fun i hi => ⟨_, .int ns[i], hs, by rw [List.getElem?_map, List.getElem?_eq_getElem hi]; rfl⟩, ⟨_, hs, by rw [List.length_map] <;> exact Nat.le_refl _⟩, fun i v H'' d hd y => ?_⟩
  obtain ⟨rfl, hy⟩ := y
  have hv := hy _ hs
  rw [List.getElem?_map] at hd hv
  cases e' : ns[i]? with
  | none => rw [e'] at hd; cases hd
  | some n =>
    rw [e'] at hd hv
    cases hd
    cases hv
    exact ⟨.refl _, .int n⟩
theorem q_forS {K : PySem.W.Frag} {H0 H : Hp} {σ : St} {ρ : List (Option Dt)} {D : Ends} {u tb : TS} {g : TG} {te : TE} {a : Addr} {ns : List Int} {js : List Nat} (up : Int → List (Option Dt) → List (Option Dt)) (I : Nat → Os → List (Option Dt) → Prop)
    (hte : EvP te ρ (.adr a)) (sq : SqL K H a (ns.map V.int)) (tg : ∀ x ρ', TgD g js ρ' (.int x) (up x ρ')) (s : S [] H0 [] H σ ρ) (h0 : I 0 [] ρ)
    (step : ∀ H1, Ex H0 H1 → Lv [] H1 → ∀ (i : Nat) (x : Int) os' ρ' H' σ', ns[i]? = some x → I i os' ρ' → S [] H1 os' H' σ' (up x ρ') → ∀ D' : Ends, D'.rt = D.rt → (∀ σ'' H'' os'' ρ'', I (i + 1) os'' ρ'' → S [] H1 os'' H'' σ'' ρ'' → D'.nx σ'' H'') → tb D' σ' H')
    (done : ∀ os' ρ' H' σ', I ns.length os' ρ' → S [] H0 os' H' σ' ρ' → u D σ' H') : tSeq (tFor (iList K te) g tb) u D σ H := by
  refine s.evp hte fun v H2 e2 s2 r2 => ?_
  cases r2
  have sq2 := sql_ex sq e2
  refine ⟨a, rfl, ⟨_, sq2⟩, ?_⟩
  refine s_forJ (D := { D with nx := u D }) (J := Itl K a) (js := js) ns Dt.int up I (by
    have : hid ([] ++ ks []) H2 = H2 := hid_nil H2
    rw [this]
    exact it_sql sq2) tg s2 h0 (fun H4 e l i x os' ρ' H' σ' hx hI s' => step H4 e l i x os' ρ' H' σ' hx hI s' _ rfl fun σ'' H'' os'' ρ'' h1 h2 => ⟨os'', ρ'', h1, h2⟩) done

section
variable {P : Program} {w : World} {K : PySem.W.Frag} {mg : Str → Option Value} {base : Heap} {k : Nat}

theorem sc_w_deck : FnScope ["_law_script", "_law_mixed", "_law_cell"] ["_law_script"] (defScope s_w_deck) := ⟨rfl, rfl, rfl, by decide +kernel, rfl, by decide +kernel, by decide +kernel⟩
theorem has_w_deck (T : Bt mg) (D : Dfn K mg "_law_deck" s_w_deck) : Has P w K mg base (k + 1) "_law_deck" ["_law_script"] (spDk K) := by
  have nd := (sc_w_deck).nd
  refine D.has sc_w_deck (fun _ _ _ _ _ _ us hl => match us, hl with | [_], _ => rfl) (fun vs H Q E h => ?_) (fun f cdv A outer s H vs Q E hr h => ?_)
  · obtain ⟨a, ns, rfl, _⟩ := h
    rfl
  · obtain ⟨a, ns, rfl, sq, hl, q⟩ := h
    have hu := hu_of hr
    refine ⟨_, (pss_cons (ps_set (i := 1) nd rfl (Or.inl rfl) pe_int)
    (pss_cons (ps_for PassesOwn.never rfl (k_piL (K := K) rfl (pv 0)) (pg_name (i := 2) nd rfl (Or.inl rfl)) (pss_one (ps_set (i := 1) nd rfl (Or.inl rfl) (pe_op op_mod (pe_callTy call_int1 (by rfl) T.int (by decide +kernel) (pa_cons (pe_op op_add (pe_op op_add (pe_op op_mul (pv 1) pe_int) (pe_callB (call_abs) (by rfl) T.abs (by decide +kernel) (pa_cons (pv 2) pa_nil))) pe_int) pa_nil)) (pe_op op_add (pe_op op_powW pe_int pe_int) pe_int)))))
    (pss_one (ps_ret (pe_lst (pa_cons (pe_callTy (k_list (K := K) rfl) (by rfl) T.list (by decide +kernel) (pa_cons (pv 0) pa_nil)) (pa_cons pe_int (pa_cons pe_int (pa_cons (pv 1) (pa_cons pe_int pa_nil)))))))))), ?_⟩
    have e00 : hid (ks []) H = H := hid_nil H
    have s0 : S [] H [] H (L2.start ["_law_script", "_law_mixed", "_law_cell"] [V.ref a]) [some (.adr a), none, none] := by
      refine ⟨(fun _ h => nomatch h), ?_, .nil, (fun p c h => by cases h), ?_⟩
      · rw [e00]; exact .refl H
      · show Sl (hid [] (hid (ks []) H)) _ _
        rw [e00]
        exact RA.start (ds := [.adr a]) (.cons (.adr a) .nil) ["_law_script", "_law_mixed", "_law_cell"]
    refine q_set ev_int s0 fun σ1 H1 s1 => ?_
    have i1 := s1.base
    rw [show hid (ks []) H1 = H1 from hid_nil H1] at i1
    refine q_forS (js := [2]) (ns := ns) (fun x ρ => ρ.set 2 (some (.int x))) (fun i os ρ => os = [] ∧ ∃ m e, ρ = [some (.adr a), some (.int m), e] ∧ 0 ≤ m ∧ m < 2 ^ 100) (ev_var (i := 0) rfl) (sql_ex sq i1) (fun x ρ' => tg_name) s1 ⟨rfl, 29, none, rfl, by decide, by decide +kernel⟩ ?_ ?_
    · rintro H4 e l i x os' ρ' H' σ' hx ⟨rfl, m, e2, rfl, h0, h1⟩ s4 D' hrt hnx
      refine s_set (ev_op (ev_cb (ea_cons (ev_op (ev_op (ev_op (ev_var (i := 1) rfl) ev_int (od_I (by unfold CMul; omega))) (ev_cb (ea_cons (ev_var (i := 2) rfl) ea_nil) cd_abs) od_add) ev_int od_add) ea_nil) cd_intI) (ev_op (ev_op ev_int ev_int (od_I (g := fun i j => i ^ j.toNat) ⟨by decide, by decide +kernel⟩)) ev_int od_add) (od_mod (by decide +kernel))) s4 fun σ5 H5 s5 => ?_
      exact hnx _ _ _ _ ⟨rfl, _, _, rfl, Int.emod_nonneg _ (by decide +kernel), Int.lt_trans (Int.emod_lt_of_pos _ (by decide +kernel)) (by decide +kernel)⟩ s5
    · rintro os' ρ' H' σ' ⟨rfl, m, e2, rfl, h0, h1⟩ s4
      have i4 := s4.base
      rw [show hid (ks []) H' = H' from hid_nil H'] at i4
      obtain ⟨v0, hv0, rv0⟩ := s4.sl.2 0 _ rfl
      cases rv0
      obtain ⟨v1, hv1, rv1⟩ := s4.sl.2 1 _ rfl
      cases rv1
      refine ⟨.ref a, hv0, a, ns.map V.int, rfl, .inl (sql_ex sq i4), fun b hb => ⟨.int m, hv1, Nat.le_trans (show 5 ≤ 100000 by omega) (by rw [sizeLine_eq]; omega), fun p hp => ?_⟩⟩
      have hbp : b ≠ p := fun z => by rw [z, upd_same] at hp; cases hp
      have ex1 : Ex H' (upd H' b (.lst (ns.map V.int))) := .new hb
      refine q p _ (none_of (i4.trans ex1) hp) ((i4.trans ex1).trans (.new hp)) ⟨b, ns, 0, 0, m, 1, upd_same, hid_mk (by rw [upd_ne hbp]; exact upd_same) (by simpa using hbp), hl, Nat.zero_le _, Int.le_refl _, h0, by omega, by omega⟩
theorem len_w_draw {ds : List Dt} {p : Addr} {c : Oc} {Post : Dt → Oc → Prop} (h : F_w_draw ds p c Post) : ds.length = 2 := by obtain ⟨_, _, rfl, _⟩ := h; rfl
theorem sc_w_draw : FnScope ["_law_deck_here", "_law_bound", "_law_cell", "_law_digit", "_law_stir"] ["_law_deck_here", "_law_bound"] (defScope s_w_draw) := ⟨rfl, rfl, rfl, by decide +kernel, rfl, by decide +kernel, by decide +kernel⟩
theorem has_w_draw (T : Bt mg) (D : Dfn K mg "_law_draw" s_w_draw) : Has P w K mg base (k + 1) "_law_draw" ["_law_deck_here", "_law_bound"] (spO F_w_draw) := by
  have nd := (sc_w_draw).nd
  refine D.hasM sc_w_draw (fun _ _ _ _ _ _ us hl => match us, hl with | [_, _], _ => rfl) ?_ (fun f cdv A outer s H E hr => ?_)
  · intro ds p c Post h
    exact len_w_draw h
  have hu := hu_of hr
  refine ⟨_, (pss_cons (ps_if (PW.pt (pw_and (pt_cmpR op_eq (pe_ix (k_ix (K := K) rfl) (pv 0) pe_int (fun _ _ => rfl)) pe_int (nomark _)) (pw_and1 (pt_cmpR op_lt (pe_ix (k_ix (K := K) rfl) (pv 0) pe_int (fun _ _ => rfl)) (pe_callB (k_len (K := K) rfl) (by rfl) T.len PySem.boot_len (pa_cons (pe_ix (k_ix (K := K) rfl) (pv 0) pe_int (fun _ _ => rfl)) pa_nil)) (nomark _))))) (pss_cons (ps_set (i := 2) nd rfl (Or.inl rfl) (pe_callB (call_abs) (by rfl) T.abs (by decide +kernel) (pa_cons (pe_ix (k_ix (K := K) rfl) (pe_ix (k_ix (K := K) rfl) (pv 0) pe_int (fun _ _ => rfl)) (pe_ix (k_ix (K := K) rfl) (pv 0) pe_int (fun _ _ => rfl)) (fun _ _ => rfl)) pa_nil)))
    (pss_cons (ps_asg (pe_op op_add (pe_ix (k_ix (K := K) rfl) (pv 0) pe_int (fun _ _ => rfl)) pe_int) (pg_sub (pv 0) pe_int set_list))
    (pss_one (ps_if (pt_cmpR op_ge (pv 2) (pe_op op_powW pe_int pe_int) (nomark _)) (pss_one (ps_asg (pe_op op_sub (pv 2) (pe_op op_powW pe_int pe_int)) (pg_sub (pv 0) pe_int set_list))) (pss_one (ps_asg (pe_op op_add (pe_op op_add (pe_ix (k_ix (K := K) rfl) (pv 0) pe_int (fun _ _ => rfl)) (pe_op op_mul pe_int (pv 2))) pe_int) (pg_sub (pv 0) pe_int set_list))))))) pss_nil)
    (pss_cons (ps_if (pt_cmpR op_gt (pe_ix (k_ix (K := K) rfl) (pv 0) pe_int (fun _ _ => rfl)) pe_int (nomark _)) (pss_cons (ps_set (i := 3) nd rfl (Or.inl rfl) (pe_op op_mod (pe_callTy call_int1 (by rfl) T.int (by decide +kernel) (pa_cons (pe_ix (k_ix (K := K) rfl) (pv 0) pe_int (fun _ _ => rfl)) pa_nil)) (pv 1)))
    (pss_cons (ps_asg (pe_op op_fdivW (pe_ix (k_ix (K := K) rfl) (pv 0) pe_int (fun _ _ => rfl)) (pv 1)) (pg_sub (pv 0) pe_int set_list))
    (pss_one (ps_ret (pv 3))))) pss_nil)
    (pss_cons (ps_asg (pe_op op_add (pe_ix (k_ix (K := K) rfl) (pv 0) pe_int (fun _ _ => rfl)) pe_int) (pg_sub (pv 0) pe_int set_list))
    (pss_cons (ps_set (i := 4) nd rfl (Or.inl rfl) (pe_op op_mod (pe_callTy call_int1 (by rfl) T.int (by decide +kernel) (pa_cons (pe_op op_add (pe_op op_powW (pe_op op_add (pe_ix (k_ix (K := K) rfl) (pv 0) pe_int (fun _ _ => rfl)) (pe_op op_mul pe_int (pe_ix (k_ix (K := K) rfl) (pv 0) pe_int (fun _ _ => rfl)))) pe_int) (pe_ix (k_ix (K := K) rfl) (pv 0) pe_int (fun _ _ => rfl))) pa_nil)) (pe_op op_add (pe_op op_powW pe_int pe_int) pe_int)))
    (pss_cons (ps_asg (pe_op op_mod (pe_callTy call_int1 (by rfl) T.int (by decide +kernel) (pa_cons (pe_op op_add (pe_op op_mul (pv 4) pe_int) (pe_ix (k_ix (K := K) rfl) (pv 0) pe_int (fun _ _ => rfl))) pa_nil)) (pe_op op_add (pe_op op_powW pe_int pe_int) pe_int)) (pg_sub (pv 0) pe_int set_list))
    (pss_one (ps_ret (pe_op op_mod (pe_op op_fdivW (pe_op op_mod (pe_callTy call_int1 (by rfl) T.int (by decide +kernel) (pa_cons (pe_op op_powW (pe_ix (k_ix (K := K) rfl) (pv 0) pe_int (fun _ _ => rfl)) pe_int) pa_nil)) (pe_op op_add (pe_op op_powW pe_int pe_int) pe_int)) pe_int) (pv 1))))))))), ?_⟩
  rintro ds p c Post ⟨n, b, rfl, rfl, hn, hb, hb2, rfl⟩ ps σ D H0 s rt nx
  obtain ⟨ns, k, gr, mx, ct, ok, s0⟩ := S.toL (pre := []) (post := []) s
  have s1 : S ps H0 ([] ++ (p, .lst (dkL ns k gr mx ct)) :: []) H σ [some (.adr p), some (.int b), none, none, none] := s0
  have hl63 := ok.len
  refine rq_if (i := 0) (fun σ' H' => ∃ k gr mx e2, DkOk n ns k gr mx ct ∧ S ps H0 ([] ++ (p, .lst (dkL ns k gr mx ct)) :: []) H' σ' [some (.adr p), some (.int b), e2, none, none]) rfl (et_and (et_T (ev_op (ev_op (ev_var (i := 0) rfl) ev_int (by first | exact od_ixt rfl | exact od_ixl rfl)) ev_int (by first | exact od_eqI | exact od_eqS | exact od_eqB))) fun _ => et_T (ev_op (ev_op (ev_var (i := 0) rfl) ev_int (by first | exact od_ixt rfl | exact od_ixl rfl)) (ev_cb (ea_cons (ev_op (ev_var (i := 0) rfl) ev_int (od_ixl (d := intsD ns) rfl)) ea_nil) cd_lenl) od_lt)) s1 ?_ ?_ ?_
  · intro hb H2 s2 D' hrt hnx
    rw [Bool.and_eq_true, decide_eq_true_eq, decide_eq_true_eq, List.length_map] at hb
    obtain ⟨hg0, hk⟩ := hb
    have hk' : k < ns.length := by omega
    have hcell : ns[k]? = some ns[k] := List.getElem?_eq_getElem hk'
    refine rq_set (i := 0) rfl (ev_cb (ea_cons (ev_op (ev_op (ev_var (i := 0) rfl) ev_int (od_ixl (d := intsD ns) rfl)) (ev_op (ev_var (i := 0) rfl) ev_int (by first | exact od_ixt rfl | exact od_ixl rfl)) (od_ixl (d := .int ns[k]) (atI_nat (by rw [List.getElem?_map, hcell]; rfl)))) ea_nil) cd_abs) s2 fun σ3 H3 s3 => ?_
    generalize hcv : (if ns[k] < 0 then -ns[k] else ns[k]) = cv at s3
    have hcv0 : 0 ≤ cv := by rw [← hcv]; split <;> omega
    refine rq_put (i := 0) (j := 1) (z := ((k + 1 : Nat) : Int)) rfl (ev_is (ev_op (ev_op (ev_var (i := 0) rfl) ev_int (by first | exact od_ixt rfl | exact od_ixl rfl)) ev_int od_add) (by congr 1)) (ev_var (i := 0) rfl) ev_int rfl s3 fun H4 s4 => ?_
    have s4' : S ps H0 ([] ++ (p, .lst (dkL ns (k + 1) gr mx ct)) :: []) H4 σ3 [some (.adr p), some (.int b), some (.int cv), none, none] := s4
    refine r_if (i := 0) rfl (et_T (ev_op (ev_var (i := 2) rfl) (ev_op ev_int ev_int (od_I (g := fun i j => i ^ j.toNat) ⟨by decide, by decide +kernel⟩)) od_ge)) s4' (fun hb H5 s5 => ?_) (fun hb H5 s5 => ?_)
    · refine r_put (i := 0) (j := 2) (z := cv - 10 ^ (18 : Int).toNat) rfl (ev_op (ev_var (i := 2) rfl) (ev_op ev_int ev_int (od_I (g := fun i j => i ^ j.toNat) ⟨by decide, by decide +kernel⟩)) od_sub) (ev_var (i := 0) rfl) ev_int rfl s5 fun H6 s6 => ?_
      refine hnx _ _ ⟨k + 1, _, _, _, ⟨hl63, by omega, ?_, ok.hm0, ?_, ok.hc⟩, s6⟩
      · have := of_decide_eq_true hb
        omega
      · have := ok.hm
        omega
    · refine r_put (i := 0) (j := 3) (z := mx + 11 * cv + 2) rfl (ev_op (ev_op (ev_op (ev_var (i := 0) rfl) ev_int (by first | exact od_ixt rfl | exact od_ixl rfl)) (ev_op ev_int (ev_var (i := 2) rfl) (od_I (by unfold CMul; omega))) od_add) ev_int od_add) (ev_var (i := 0) rfl) ev_int rfl s5 fun H6 s6 => ?_
      refine hnx _ _ ⟨k + 1, _, _, _, ⟨hl63, by omega, ok.hg, ?_, ?_, ok.hc⟩, s6⟩
      · have := ok.hm0
        omega
      · have h1 := ok.hm
        have h2 := of_decide_eq_false hb
        have h3 : (10 : Int) ^ (18 : Int).toNat = 1000000000000000000 := by decide +kernel
        rw [h3] at h2
        omega
  · intro hb H2 s2 D' hrt hnx
    exact hnx _ _ ⟨k, gr, mx, none, ok, s2⟩
  · rintro σ3 H3 ⟨k, gr, mx, e2, ok, s3⟩
    refine r_if (D := { D with nx := _ }) (i := 0) rfl (et_T (ev_op (ev_op (ev_var (i := 0) rfl) ev_int (by first | exact od_ixt rfl | exact od_ixl rfl)) ev_int od_gt)) s3 (fun hb H4 s4 => ?_) (fun hb H4 s4 => ?_)
    · refine rq_set (i := 0) (z := gr % b) rfl (ev_op (ev_cb (ea_cons (ev_op (ev_var (i := 0) rfl) ev_int (by first | exact od_ixt rfl | exact od_ixl rfl)) ea_nil) cd_intI) (ev_var (i := 1) rfl) (od_mod ‹0 < b›)) s4 fun σ5 H5 s5 => ?_
      refine rq_put (i := 0) (j := 2) (z := gr / b) rfl (ev_op (ev_op (ev_var (i := 0) rfl) ev_int (by first | exact od_ixt rfl | exact od_ixl rfl)) (ev_var (i := 1) rfl) (od_div ‹0 < b› hb2)) (ev_var (i := 0) rfl) ev_int rfl s5 fun H6 s6 => ?_
      have s7 := S.toD (pre := []) (post := []) (n := n + 1) (k := k) (gr := gr / b) (mx := mx) (ct := ct) s6 ⟨hl63, ok.hk, Int.ediv_nonneg ok.hg (by omega), ok.hm0, ok.hm, by have := ok.hc; omega⟩
      exact m_retP (pre := []) (post := []) (d := .int (gr % b)) (ev_var (i := 3) rfl) s7 rt ⟨_, rfl, Int.emod_nonneg _ (by omega), Int.emod_lt_of_pos _ ‹0 < b›, rfl⟩
    · have hct := ok.hc
      have hk63 : (k : Int) ≤ 63 := by have := ok.hk; omega
      refine rq_put (i := 0) (j := 4) (z := ((ct + 1 : Nat) : Int)) rfl (ev_is (ev_op (ev_op (ev_var (i := 0) rfl) ev_int (by first | exact od_ixt rfl | exact od_ixl rfl)) ev_int od_add) (by congr 1)) (ev_var (i := 0) rfl) ev_int rfl s4 fun H5 s5 => ?_
      have hbase0 : 0 ≤ mx + 60013 * ((ct + 1 : Nat) : Int) := by have := ok.hm0; omega
      have hbase : mx + 60013 * ((ct + 1 : Nat) : Int) < 2 ^ 200 := by have := ok.hm; omega
      refine rq_set (i := 0) (z := ((mx + 60013 * ((ct + 1 : Nat) : Int)) ^ 3 + ((ct + 1 : Nat) : Int)) % (10 ^ (32 : Int).toNat + 49)) rfl (ev_op (ev_cb (ea_cons (ev_op (ev_op (ev_op (ev_op (ev_var (i := 0) rfl) ev_int (by first | exact od_ixt rfl | exact od_ixl rfl)) (ev_op ev_int (ev_op (ev_var (i := 0) rfl) ev_int (by first | exact od_ixt rfl | exact od_ixl rfl)) (od_I (by unfold CMul; omega))) od_add) ev_int (od_cube hbase0 hbase)) (ev_op (ev_var (i := 0) rfl) ev_int (by first | exact od_ixt rfl | exact od_ixl rfl)) od_add) ea_nil) cd_intI) (ev_op (ev_op ev_int ev_int (od_I (g := fun i j => i ^ j.toNat) ⟨by decide, by decide +kernel⟩)) ev_int od_add) (od_mod (by decide +kernel))) s5 fun σ6 H6 s6 => ?_
      generalize ((mx + 60013 * ((ct + 1 : Nat) : Int)) ^ 3 + ((ct + 1 : Nat) : Int)) % (10 ^ (32 : Int).toNat + 49) = stir at s6
      refine rq_put (i := 0) (j := 3) (z := (stir * 33391 + mx) % (10 ^ (30 : Int).toNat + 57)) rfl (ev_op (ev_cb (ea_cons (ev_op (ev_op (ev_var (i := 4) rfl) ev_int (od_I (by unfold CMul; omega))) (ev_op (ev_var (i := 0) rfl) ev_int (by first | exact od_ixt rfl | exact od_ixl rfl)) od_add) ea_nil) cd_intI) (ev_op (ev_op ev_int ev_int (od_I (g := fun i j => i ^ j.toNat) ⟨by decide, by decide +kernel⟩)) ev_int od_add) (od_mod (by decide +kernel))) (ev_var (i := 0) rfl) ev_int rfl s6 fun H7 s7 => ?_
      have hm0 : 0 ≤ (stir * 33391 + mx) % (10 ^ (30 : Int).toNat + 57) := Int.emod_nonneg _ (by decide +kernel)
      have hm1 : (stir * 33391 + mx) % (10 ^ (30 : Int).toNat + 57) < 2 ^ 100 := Int.lt_trans (Int.emod_lt_of_pos _ (by decide +kernel)) (by decide +kernel)
      generalize (stir * 33391 + mx) % (10 ^ (30 : Int).toNat + 57) = m2 at s7 hm0 hm1
      refine S.evpR (pre := []) (post := []) (i := 0) s7 rfl (z := m2 ^ 3 % (10 ^ (35 : Int).toNat + 69) / 8209 % b) (ev_op (ev_op (ev_op (ev_cb (ea_cons (ev_op (ev_op (ev_var (i := 0) rfl) ev_int (by first | exact od_ixt rfl | exact od_ixl rfl)) ev_int (od_cube hm0 (by omega))) ea_nil) cd_intI) (ev_op (ev_op ev_int ev_int (od_I (g := fun i j => i ^ j.toNat) ⟨by decide, by decide +kernel⟩)) ev_int od_add) (od_mod (by decide +kernel))) ev_int (od_div (by decide) (by decide +kernel))) (ev_var (i := 1) rfl) (od_mod ‹0 < b›)) fun H8 e8 s8 => ?_
      have s9 := S.toD (pre := []) (post := []) (n := n + 1) (k := k) (gr := gr) (mx := m2) (ct := ct + 1) s8 ⟨hl63, ok.hk, ok.hg, hm0, by omega, by omega⟩
      exact rt _ _ [] [] _ _ _ _ s9 ⟨_, rfl, Int.emod_nonneg _ (by omega), Int.emod_lt_of_pos _ ‹0 < b›, rfl⟩ (.int _)
def F_w_fraction : List Dt → Dt → Prop := fun ds d => ∃ (a b : Nat), ds = [.int (a : Int), .int (b : Int)] ∧ 1 ≤ b ∧ b < 2 ^ 150 ∧ d = fr ((a / Nat.gcd a b : Nat) : Int) ((b / Nat.gcd a b : Nat) : Int)
theorem len_w_fraction {ds : List Dt} {d : Dt} (h : F_w_fraction ds d) : ds.length = 2 := by
  obtain ⟨a, b, rfl, _⟩ := h; rfl
theorem sc_w_fraction : FnScope ["_law_above", "_law_below", "_law_one", "_law_other"] ["_law_above", "_law_below"] (defScope s_w_fraction) := ⟨rfl, rfl, rfl, by decide +kernel, rfl, by decide +kernel, by decide +kernel⟩
theorem has_w_fraction (T : Bt mg) (D : Dfn K mg "_law_fraction" s_w_fraction) : Has P w K mg base (k + 1) "_law_fraction" ["_law_above", "_law_below"] (spP F_w_fraction) := by
  have nd := (sc_w_fraction).nd
  refine D.hasP sc_w_fraction (fun _ _ _ _ _ _ us hl => match us, hl with | [_, _], _ => rfl) ?_ (fun f cdv A outer s H E hr => ?_)
  · intro ds d h
    exact len_w_fraction h
  have hu := hu_of hr
  refine ⟨_, (pss_cons (ps_par (i := 2) (j := 3) (by rfl) nd rfl rfl (by decide) rfl rfl (pa_cons (pv 0) (pa_cons (pv 1) pa_nil)) (by rfl))
    (pss_cons (ps_while PassesOwn.never (pt_cmpR op_ne (pv 3) pe_int (nomark _)) (pss_one (ps_par (i := 2) (j := 3) (by rfl) nd rfl rfl (by decide) rfl rfl (pa_cons (pv 3) (pa_cons (pe_op op_mod (pe_callTy call_int1 (by rfl) T.int (by decide +kernel) (pa_cons (pv 2) pa_nil)) (pv 3)) pa_nil)) (by rfl))))
    (pss_one (ps_ret (pe_tup (pa_cons (pe_op op_fdivW (pv 0) (pv 2)) (pa_cons (pe_op op_fdivW (pv 1) (pv 2)) pa_nil))))))), ?_⟩
  rintro ds d ⟨a, b, rfl, hb, hb2, rfl⟩ ps σ D s rt nx
  refine q_par (ea_cons (ev_var (i := 0) rfl) (ea_cons (ev_var (i := 1) rfl) ea_nil)) s fun σ1 H1 s1 => ?_
  refine q_while (α := Nat × Nat) (fun x => [some (.int (a : Int)), some (.int (b : Int)), some (.int (x.1 : Int)), some (.int (x.2 : Int))]) (fun x => x.2) (fun x => Nat.gcd x.1 x.2 = Nat.gcd a b) (fun x => !decide ((x.2 : Int) = 0)) (fun x hx => (et_T (ev_op (ev_var (i := 3) rfl) ev_int (by first | exact od_neI | exact od_neS | exact od_neB)))) (x0 := (a, b)) s1 rfl ?_ ?_
  · rintro ⟨m, n⟩ hP hb σ2 H2 s2 D' hrt hnx
    have hn : 0 < n := by
      have : ¬ ((n : Int) = 0) := by simpa using hb
      omega
    refine s_par (ea_cons (ev_var (i := 3) rfl) (ea_cons (ev_op (ev_cb (ea_cons (ev_var (i := 2) rfl) ea_nil) cd_intI) (ev_var (i := 3) rfl) (od_mod (by show 0 < (n : Int); omega))) ea_nil)) s2 fun σ3 H3 s3 => ?_
    refine hnx (n, m % n) _ _ ?_ (Nat.mod_lt _ hn) s3
    show Nat.gcd n (m % n) = _
    rw [← hP]
    show Nat.gcd n (m % n) = Nat.gcd m n
    rw [Nat.gcd_comm n (m % n), ← Nat.gcd_rec, Nat.gcd_comm]
  · rintro ⟨m, n⟩ hP hz σ2 H2 s2
    have hn : n = 0 := by
      have : ((n : Int) = 0) := by simpa using hz
      omega
    subst hn
    have hg : m = Nat.gcd a b := by rw [← hP]; exact (Nat.gcd_zero_right m).symm
    subst hg
    have g0 : 0 < Nat.gcd a b := Nat.gcd_pos_of_pos_right _ hb
    have g1 : Nat.gcd a b ≤ b := Nat.gcd_le_right _ hb
    have g2 : ((Nat.gcd a b : Nat) : Int) < 2 ^ 200 := by omega
    exact s_ret (ev_tup (ea_cons (ev_op (ev_var (i := 0) rfl) (ev_var (i := 2) rfl) (od_div (by show 0 < ((Nat.gcd a b : Nat) : Int); omega) g2)) (ea_cons (ev_op (ev_var (i := 1) rfl) (ev_var (i := 2) rfl) (od_div (by show 0 < ((Nat.gcd a b : Nat) : Int); omega) g2)) ea_nil)) (Nat.le_of_ble_eq_true rfl)) s2 rt
end
end Ck
namespace Ck
open PySem PySem.Spec L2
open PyProof.Rows hiding St

theorem frac_ok {a b : Nat} (hb : 1 ≤ b) : FracOk ((a / Nat.gcd a b : Nat) : Int) ((b / Nat.gcd a b : Nat) : Int) := by
  have hg : 0 < Nat.gcd a b := Nat.gcd_pos_of_pos_right _ hb
  refine ⟨?_, ?_⟩
  · have : 0 < b / Nat.gcd a b := Nat.div_pos (Nat.gcd_le_right _ hb) hg
    omega
  · rw [Int.natAbs_natCast, Int.natAbs_natCast]
    exact Nat.gcd_div_gcd_div_gcd_of_pos_right hb
theorem share_ok {a b : Nat} (hb : 1 ≤ b) (h : a ≤ b) : ShareOk ((a / Nat.gcd a b : Nat) : Int) ((b / Nat.gcd a b : Nat) : Int) :=
  ⟨frac_ok hb, Int.natCast_nonneg _, Int.ofNat_le.mpr (Nat.div_le_div_right h)⟩
theorem frac_pos {a b : Nat} (ha : 1 ≤ a) : (0 : Int) < ((a / Nat.gcd a b : Nat) : Int) := by
  have : 0 < a / Nat.gcd a b := Nat.div_pos (Nat.gcd_le_left _ ha) (Nat.gcd_pos_of_pos_left _ ha)
  omega
theorem nat_of {x : Int} (h : 0 ≤ x) : ∃ n : Nat, x = (n : Int) := ⟨x.toNat, by omega⟩
/-- with draws, at most k of them -/
def F_w_share : List Dt → Addr → Oc → (Dt → Oc → Prop) → Prop := fun ds p c Post => ∃ n : Nat, ds = [.adr p] ∧ c = .deck n ∧ n ≤ 2 ^ 29 ∧ Post = fun d c' => ∃ a b, d = fr a b ∧ ShareOk a b ∧ c' = .deck (n + 8)
def F_w_amount : List Dt → Addr → Oc → (Dt → Oc → Prop) → Prop := fun ds p c Post => ∃ n : Nat, ds = [.adr p] ∧ c = .deck n ∧ n ≤ 2 ^ 29 ∧ Post = fun d c' => ∃ a b, d = fr a b ∧ FracOk a b ∧ 0 < a ∧ c' = .deck (n + 8)

section
variable {P : Program} {w : World} {K : PySem.W.Frag} {mg : Str → Option Value} {base : Heap} {k : Nat}

theorem len_w_share {ds : List Dt} {p : Addr} {c : Oc} {Post : Dt → Oc → Prop} (h : F_w_share ds p c Post) : ds.length = 1 := by obtain ⟨_, rfl, _⟩ := h; rfl
theorem len_w_amount {ds : List Dt} {p : Addr} {c : Oc} {Post : Dt → Oc → Prop} (h : F_w_amount ds p c Post) : ds.length = 1 := by obtain ⟨_, rfl, _⟩ := h; rfl
theorem sc_w_share : FnScope ["_law_deck_here", "_law_way", "_law_below"] ["_law_deck_here"] (defScope s_w_share) := ⟨rfl, rfl, rfl, by decide +kernel, rfl, by decide +kernel, by decide +kernel⟩
theorem has_w_share (T : Bt mg) (D : Dfn K mg "_law_share" s_w_share) (h_w_draw : Has P w K mg base k "_law_draw" ["_law_deck_here", "_law_bound"] (spO F_w_draw)) (h_w_fraction : Has P w K mg base k "_law_fraction" ["_law_above", "_law_below"] (spP F_w_fraction)) : Has P w K mg base (k + 1) "_law_share" ["_law_deck_here"] (spO F_w_share) := by
  have nd := (sc_w_share).nd
  refine D.hasM sc_w_share (fun _ _ _ _ _ _ us hl => match us, hl with | [_], _ => rfl) ?_ (fun f cdv A outer s H E hr => ?_)
  · intro ds p c Post h
    exact len_w_share h
  have hu := hu_of hr
  refine ⟨_, (pss_cons (ps_set (i := 1) nd rfl (Or.inl rfl) (pe_has h_w_draw hr (by rfl) (pa_cons (pv 0) (pa_cons pe_int pa_nil))))
    (pss_cons (ps_if (pt_cmpR op_lt (pv 1) pe_int (nomark _)) (pss_one (ps_ret (pe_tup (pa_cons (pv 1) (pa_cons pe_int pa_nil))))) pss_nil)
    (pss_cons (ps_set (i := 2) nd rfl (Or.inl rfl) pe_int)
    (pss_cons (ps_if (pt_cmpR op_gt (pv 1) pe_int (nomark _)) (pss_one (ps_set (i := 2) nd rfl (Or.inl rfl) (pe_op op_add pe_int (pe_has h_w_draw hr (by rfl) (pa_cons (pv 0) (pa_cons pe_int pa_nil)))))) pss_nil)
    (pss_cons (ps_if (PW.pt (pw_and (pt_cmpR op_eq (pv 1) pe_int (nomark _)) (pw_and1 (pt_cmpR op_eq (pe_has h_w_draw hr (by rfl) (pa_cons (pv 0) (pa_cons pe_int pa_nil))) pe_int (nomark _))))) (pss_one (ps_set (i := 2) nd rfl (Or.inl rfl) (pe_op op_add pe_int (pe_has h_w_draw hr (by rfl) (pa_cons (pv 0) (pa_cons (pe_op op_sub (pe_op op_powW pe_int pe_int) pe_int) pa_nil)))))) pss_nil)
    (pss_one (ps_ret (pe_has h_w_fraction hr (by rfl) (pa_cons (pe_has h_w_draw hr (by rfl) (pa_cons (pv 0) (pa_cons (pe_op op_add (pv 2) pe_int) pa_nil))) (pa_cons (pv 2) pa_nil)))))))))), ?_⟩
  rintro ds p c Post ⟨n, rfl, rfl, hn, rfl⟩ ps σ D H0 s rt nx
  refine mq_set (pre := []) (post := []) (Post := fun d c' => ∃ x, d = .int x ∧ 0 ≤ x ∧ x < 7 ∧ c' = .deck (n + 1)) (em_draw (ev_var (i := 0) rfl) ev_int (by omega) (by decide) (by decide +kernel) fun x h1 h2 => ⟨x, rfl, h1, h2, rfl⟩) s fun σ1 H1 d c' ⟨x, hd, hx0, hx7, hc⟩ s1 => ?_
  subst hd
  subst hc
  have s2 : S ps H0 ([] ++ (p, .deck (n + 1)) :: []) H1 σ1 [some (.adr p), some (.int x), none] := s1
  refine q_if (et_T (ev_op (ev_var (i := 1) rfl) ev_int od_lt)) s2 (fun hb H3 s3 => ?_) (fun hb H3 s3 => ?_)
  · have hx2 := of_decide_eq_true hb
    have s4 := S.less (pre := []) (post := []) (m := n + 8) s3 (by omega)
    exact m_retP (pre := []) (post := []) (ev_tup (ea_cons (ev_var (i := 1) rfl) (ea_cons ev_int ea_nil)) (Nat.le_of_ble_eq_true rfl)) s4 rt ⟨x, 1, rfl, ⟨⟨by decide, by simp⟩, hx0, by omega⟩, rfl⟩
  · refine q_set (os := [] ++ (p, .deck (n + 1)) :: []) ev_int s3 fun σ4 H4 s4 => ?_
    refine j_if (os := [] ++ (p, .deck (n + 1)) :: []) (fun σ' H' => ∃ b m, 2 ≤ b ∧ b ≤ 12 ∧ m ≤ n + 2 ∧ S ps H0 ([] ++ (p, .deck m) :: []) H' σ' [some (.adr p), some (.int x), some (.int b)]) (et_T (ev_op (ev_var (i := 1) rfl) ev_int od_gt)) s4 (fun hb H5 s5 D' hrt hnx => ?_) (fun hb H5 s5 D' hrt hnx => hnx _ _ ⟨2, n + 1, by decide, by decide, by omega, s5⟩) ?_
    · refine m_set (pre := []) (post := []) (Post := fun d c' => ∃ b, d = .int b ∧ 2 ≤ b ∧ b ≤ 12 ∧ c' = .deck (n + 2)) (em_op (em_pure ev_int (Post := fun d c' => d = .int 2 ∧ c' = .deck (n + 1)) ⟨rfl, rfl⟩) fun d c1 ⟨hd, hc⟩ => ?_) s5 fun σ6 H6 d c' ⟨b, hd, h1, h2, hc⟩ s6 => ?_
      · subst hd
        subst hc
        exact em_draw (ev_var (i := 0) rfl) ev_int (by omega) (by decide) (by decide +kernel) fun y h1 h2 => ⟨_, od_add, _, rfl, by omega, by omega, rfl⟩
      · subst hd
        subst hc
        exact hnx _ _ ⟨b, n + 2, h1, h2, by omega, s6⟩
    · rintro σ6 H6 ⟨b, m, hb2, hb12, hm, s6⟩
      refine mj_if (pre := []) (post := []) (fun σ' H' => ∃ b m, 1 ≤ b ∧ b < 2 ^ 101 ∧ m ≤ n + 5 ∧ S ps H0 ([] ++ (p, .deck m) :: []) H' σ' [some (.adr p), some (.int x), some (.int b)]) (Post := fun bb c' => ∃ m', c' = .deck m' ∧ m' ≤ n + 3) (emt_and (PB1 := fun bb c' => c' = .deck m) (emt_pure (et_T (ev_op (ev_var (i := 1) rfl) ev_int (by first | exact od_eqI | exact od_eqS | exact od_eqB))) rfl) (fun c1 hc => ?_) (fun c1 hc => ⟨m, hc, by omega⟩)) s6 (fun H7 c' ⟨m', hc, hm'⟩ s7 D' hrt hnx => ?_) (fun H7 c' ⟨m', hc, hm'⟩ s7 D' hrt hnx => ?_) ?_
      · subst hc
        exact emt_T (em_op (em_draw (Post := fun d c' => ∃ y, d = .int y ∧ c' = .deck (m + 1)) (ev_var (i := 0) rfl) ev_int (by omega) (by decide) (by decide +kernel) fun y h1 h2 => ⟨y, rfl, rfl⟩) fun d c2 ⟨y, hd, hc⟩ => by
          subst hd
          subst hc
          exact em_pure ev_int ⟨_, od_eqI, _, rfl, m + 1, rfl, by omega⟩)
      · subst hc
        refine m_set (pre := []) (post := []) (Post := fun d c' => ∃ b, d = .int b ∧ 1 ≤ b ∧ b < 2 ^ 101 ∧ c' = .deck (m' + 1)) (em_op (em_pure ev_int (Post := fun d c' => d = .int 1 ∧ c' = .deck m') ⟨rfl, rfl⟩) fun d c1 ⟨hd, hc⟩ => ?_) s7 fun σ8 H8 d c' ⟨b, hd, h1, h2, hc⟩ s8 => ?_
        · subst hd
          subst hc
          exact em_draw (ev_var (i := 0) rfl) (ev_op (ev_op ev_int ev_int (od_I (g := fun i j => i ^ j.toNat) ⟨by decide, by decide +kernel⟩)) ev_int od_sub) (by omega) (by decide +kernel) (by decide +kernel) fun y h1 h2 => ⟨_, od_add, _, rfl, by omega, by
            have : (10 : Int) ^ (30 : Int).toNat - 1 = 999999999999999999999999999999 := by decide +kernel
            rw [this] at h2
            omega, rfl⟩
        · subst hd
          subst hc
          exact hnx _ _ ⟨b, m' + 1, h1, h2, by omega, s8⟩
      · subst hc
        exact hnx _ _ ⟨b, m', by omega, by omega, by omega, s7⟩
      · rintro σ8 H8 ⟨b, m, hb1, hb2, hm, s8⟩
        obtain ⟨bn, rfl⟩ := nat_of (show 0 ≤ b by omega)
        refine m_ret (pre := []) (post := []) (P1 := fun d c' => ∃ a b, d = fr a b ∧ ShareOk a b ∧ c' = .deck (n + 8)) (em_less (P1 := fun d c' => ∃ a b, d = fr a b ∧ ShareOk a b ∧ c' = .deck (m + 1)) (em_callP (ema_cons (em_draw (Post := fun d c' => ∃ y, d = .int y ∧ 0 ≤ y ∧ y < (bn : Int) + 1 ∧ c' = .deck (m + 1)) (ev_var (i := 0) rfl) (ev_op (ev_var (i := 2) rfl) ev_int od_add) (by omega) (by omega) (by omega) fun y h1 h2 => ⟨y, rfl, h1, h2, rfl⟩) fun d c1 ⟨y, hd, hy0, hy1, hc⟩ => ?_)) fun d c' ⟨a, b, hd, hs, hc⟩ => ⟨m + 1, n + 8, hc, by omega, a, b, hd, hs, rfl⟩) s8 rt fun _ _ h => h
        subst hd
        subst hc
        obtain ⟨yn, rfl⟩ := nat_of hy0
        exact ema_pure (ea_cons (ev_var (i := 2) rfl) ea_nil) ⟨_, ⟨yn, bn, rfl, by omega, by omega, rfl⟩, _, _, rfl, share_ok (by omega) (by omega), rfl⟩
theorem sc_w_amount : FnScope ["_law_deck_here", "_law_most"] ["_law_deck_here"] (defScope s_w_amount) := ⟨rfl, rfl, rfl, by decide +kernel, rfl, by decide +kernel, by decide +kernel⟩
theorem has_w_amount (T : Bt mg) (D : Dfn K mg "_law_amount" s_w_amount) (h_w_fraction : Has P w K mg base k "_law_fraction" ["_law_above", "_law_below"] (spP F_w_fraction)) (h_w_draw : Has P w K mg base k "_law_draw" ["_law_deck_here", "_law_bound"] (spO F_w_draw)) : Has P w K mg base (k + 1) "_law_amount" ["_law_deck_here"] (spO F_w_amount) := by
  have nd := (sc_w_amount).nd
  refine D.hasM sc_w_amount (fun _ _ _ _ _ _ us hl => match us, hl with | [_], _ => rfl) ?_ (fun f cdv A outer s H E hr => ?_)
  · intro ds p c Post h
    exact len_w_amount h
  have hu := hu_of hr
  refine ⟨_, (pss_cons (ps_set (i := 1) nd rfl (Or.inl rfl) (pe_ix (k_ix (K := K) rfl) (pe_lst (pa_cons pe_int (pa_cons pe_int (pa_cons pe_int (pa_cons pe_int (pa_cons pe_int (pa_cons pe_int (pa_cons (pe_op op_powW pe_int pe_int) (pa_cons (pe_op op_sub (pe_op op_powW pe_int pe_int) pe_int) pa_nil))))))))) (pe_has h_w_draw hr (by rfl) (pa_cons (pv 0) (pa_cons pe_int pa_nil))) (fun _ _ => rfl)))
    (pss_one (ps_ret (pe_has h_w_fraction hr (by rfl) (pa_cons (pe_op op_add pe_int (pe_has h_w_draw hr (by rfl) (pa_cons (pv 0) (pa_cons (pv 1) pa_nil)))) (pa_cons (pe_op op_add pe_int (pe_has h_w_draw hr (by rfl) (pa_cons (pv 0) (pa_cons (pe_callB (call_min2 rfl) (by rfl) T.min (by decide +kernel) (pa_cons (pv 1) (pa_cons (pe_ix (k_ix (K := K) rfl) (pe_lst (pa_cons pe_int (pa_cons pe_int (pa_cons (pv 1) pa_nil)))) (pe_has h_w_draw hr (by rfl) (pa_cons (pv 0) (pa_cons pe_int pa_nil))) (fun _ _ => rfl)) pa_nil))) pa_nil)))) pa_nil)))))), ?_⟩
  rintro ds p c Post ⟨n, rfl, rfl, hn, rfl⟩ ps σ D H0 s rt nx
  have hbig : (10 : Int) ^ (30 : Int).toNat - 1 = 999999999999999999999999999999 := by decide +kernel
  have hbil : (10 : Int) ^ (9 : Int).toNat = 1000000000 := by decide +kernel
  refine mq_set (pre := []) (post := []) (Post := fun d c' => ∃ z, d = .int z ∧ 1 ≤ z ∧ z < 2 ^ 100 ∧ c' = .deck (n + 1)) (em_op (em_pure (ev_lst (ea_cons ev_int (ea_cons ev_int (ea_cons ev_int (ea_cons ev_int (ea_cons ev_int (ea_cons ev_int (ea_cons (ev_op ev_int ev_int (od_I (g := fun i j => i ^ j.toNat) ⟨by decide, by decide +kernel⟩)) (ea_cons (ev_op (ev_op ev_int ev_int (od_I (g := fun i j => i ^ j.toNat) ⟨by decide, by decide +kernel⟩)) ev_int od_sub) ea_nil)))))))) (Nat.le_of_ble_eq_true rfl)) (Post := fun d c' => d = .lst [.int 12, .int 12, .int 12, .int 12, .int 12, .int 60, .int (10 ^ (9 : Int).toNat), .int (10 ^ (30 : Int).toNat - 1)] ∧ c' = .deck n) ⟨rfl, rfl⟩) fun d c1 ⟨hd, hc⟩ => ?_) s fun σ1 H1 d c' ⟨z, hd, hz1, hz2, hc⟩ s1 => ?_
  · subst hd
    subst hc
    refine em_draw (ev_var (i := 0) rfl) ev_int (by omega) (by decide) (by decide +kernel) fun x h1 h2 => ?_
    obtain ⟨e, he, ho⟩ := od_pick (K := K) (ds := [.int 12, .int 12, .int 12, .int 12, .int 12, .int 60, .int (10 ^ (9 : Int).toNat), .int (10 ^ (30 : Int).toNat - 1)]) h1 h2
    rw [hbig, hbil] at he
    rw [hbig, hbil] at ho
    rw [hbig, hbil]
    simp only [List.mem_cons, List.not_mem_nil, or_false] at he
    rcases he with rfl | rfl | rfl | rfl | rfl | rfl | rfl | rfl <;> exact ⟨_, ho, _, rfl, by decide, by decide, rfl⟩
  · subst hd
    subst hc
    have s2 : S ps H0 ([] ++ (p, .deck (n + 1)) :: []) H1 σ1 [some (.adr p), some (.int z)] := s1
    refine m_ret (pre := []) (post := []) (P1 := fun d c' => ∃ a b, d = fr a b ∧ FracOk a b ∧ 0 < a ∧ c' = .deck (n + 8)) (em_less (P1 := fun d c' => ∃ a b, d = fr a b ∧ FracOk a b ∧ 0 < a ∧ c' = .deck (n + 4)) (em_callP (ema_cons (em_op (P1 := fun d c' => d = .int 1 ∧ c' = .deck (n + 1)) (Post := fun d c' => ∃ a, d = .int a ∧ 1 ≤ a ∧ c' = .deck (n + 2)) (em_pure ev_int ⟨rfl, rfl⟩) fun d c1 ⟨hd, hc⟩ => ?_) fun d c1 ⟨a, hd, ha, hc⟩ => ?_)) fun d c' ⟨a, b, hd, h1, h2, hc⟩ => ⟨n + 4, n + 8, hc, by omega, a, b, hd, h1, h2, rfl⟩) s2 rt fun _ _ h => h
    · subst hd
      subst hc
      exact em_draw (ev_var (i := 0) rfl) (ev_var (i := 1) rfl) (by omega) (by omega) (by omega) fun y h1 h2 => ⟨_, od_add, _, rfl, by omega, rfl⟩
    · subst hd
      subst hc
      obtain ⟨an, rfl⟩ := nat_of (show 0 ≤ a by omega)
      refine ema_cons (em_op (P1 := fun d c' => d = .int 1 ∧ c' = .deck (n + 2)) (Post := fun d c' => ∃ b, d = .int b ∧ 1 ≤ b ∧ b < 2 ^ 120 ∧ c' = .deck (n + 4)) (em_pure ev_int ⟨rfl, rfl⟩) fun d c1 ⟨hd, hc⟩ => ?_) fun d c1 ⟨b, hd, hb1, hb2, hc⟩ => ?_
      · subst hd
        subst hc
        refine em_drawM (ev_var (i := 0) rfl) (em_cb (ema_cons (em_pure (ev_var (i := 1) rfl) (Post := fun d c' => d = .int z ∧ c' = .deck (n + 2)) ⟨rfl, rfl⟩) fun d c1 ⟨hd, hc⟩ => ?_))
        subst hd
        subst hc
        refine ema_cons (em_op (P1 := fun d c' => d = .lst [.int 1, .int 4, .int z] ∧ c' = .deck (n + 2)) (Post := fun d c' => ∃ w, d = .int w ∧ 1 ≤ w ∧ c' = .deck (n + 3)) (em_pure (ev_lst (ea_cons ev_int (ea_cons ev_int (ea_cons (ev_var (i := 1) rfl) ea_nil))) (Nat.le_of_ble_eq_true rfl)) ⟨rfl, rfl⟩) fun d c1 ⟨hd, hc⟩ => ?_) fun d c1 ⟨w, hd, hw, hc⟩ => ?_
        · subst hd
          subst hc
          refine em_draw (ev_var (i := 0) rfl) ev_int (by omega) (by decide) (by decide +kernel) fun x h1 h2 => ?_
          obtain ⟨e, he, ho⟩ := od_pick (K := K) (ds := [.int 1, .int 4, .int z]) h1 h2
          simp only [List.mem_cons, List.not_mem_nil, or_false] at he
          rcases he with rfl | rfl | rfl
          · exact ⟨_, ho, _, rfl, by decide, rfl⟩
          · exact ⟨_, ho, _, rfl, by decide, rfl⟩
          · exact ⟨_, ho, _, rfl, hz1, rfl⟩
        · subst hd
          subst hc
          exact ema_nil ⟨_, cd_min2, _, n + 3, rfl, rfl, by omega, by omega, by omega, fun y h1 h2 => ⟨_, od_add, _, rfl, by omega, by omega, rfl⟩⟩
      · subst hd
        subst hc
        obtain ⟨bn, rfl⟩ := nat_of (show 0 ≤ b by omega)
        exact ema_nil ⟨_, ⟨an, bn, rfl, by omega, by omega, rfl⟩, _, _, rfl, frac_ok (by omega), frac_pos (by omega), rfl⟩
end
end Ck
namespace Ck
open PySem PySem.Spec L2
open PyProof.Rows hiding St

/-! ### texts in order -/
abbrev leS (a b : Str) : Prop := ¬ b.cps.toList < a.cps.toList
theorem leS_anti {a b : Str} (h1 : leS a b) (h2 : leS b a) : a = b := by
  have h : a.cps.toList = b.cps.toList := List.le_antisymm h1 h2
  cases a; cases b
  simp at h
  rw [h]
theorem leS_trans {a b c : Str} (h1 : leS a b) (h2 : leS b c) : leS a c := List.le_trans (l₁ := a.cps.toList) (l₂ := b.cps.toList) (l₃ := c.cps.toList) h1 h2
theorem leS_of_lt {a b : Str} (h : a.cps.toList < b.cps.toList) : leS a b := List.lt_asymm h
theorem lt_of_leS {a b : Str} (h : leS a b) (ne : a ≠ b) : a.cps.toList < b.cps.toList := Decidable.byContradiction fun z => ne (leS_anti h z)
def insS (x : Str) : List Str → List Str
  | [] => [x]
  | y :: l => if y.cps.toList < x.cps.toList then y :: insS x l else x :: y :: l
def srtS (l : List Str) : List Str := l.foldr insS []
theorem ins_perm (x : Str) : ∀ l : List Str, (insS x l).Perm (x :: l)
  | [] => List.Perm.refl _
  | y :: l => by
    unfold insS
    split
    · exact ((ins_perm x l).cons y).trans (List.Perm.swap x y l)
    · exact List.Perm.refl _
theorem srtS_perm : ∀ l : List Str, (srtS l).Perm l
  | [] => List.Perm.refl _
  | x :: l => (ins_perm x (srtS l)).trans ((srtS_perm l).cons x)
theorem ins_up (x : Str) : ∀ {l : List Str}, l.Pairwise leS → (insS x l).Pairwise leS
  | [], _ => List.pairwise_singleton _ _
  | y :: l, h => by
    have hy := List.pairwise_cons.mp h
    unfold insS
    split
    · rename_i hlt
      refine List.pairwise_cons.mpr ⟨fun z hz => ?_, ins_up x hy.2⟩
      rcases List.mem_cons.mp ((ins_perm x l).mem_iff.mp hz) with e | hz
      · subst e; exact leS_of_lt hlt
      · exact hy.1 z hz
    · rename_i hlt
      refine List.pairwise_cons.mpr ⟨fun z hz => ?_, h⟩
      rcases List.mem_cons.mp hz with e | hz
      · subst e; exact hlt
      · exact leS_trans hlt (hy.1 z hz)
theorem srtS_up : ∀ l : List Str, (srtS l).Pairwise leS
  | [] => .nil
  | x :: l => ins_up x (srtS_up l)
theorem rising_up : ∀ {p : Str} {l : List Str}, risingS p l = true → (p :: l).Pairwise leS
  | p, [], _ => List.pairwise_singleton _ _
  | p, x :: r, h => by
    have h' : (!ltCps x.cps.toList p.cps.toList && risingS x r) = true := h
    rw [Bool.and_eq_true, Bool.not_eq_true', ltCps_eq, decide_eq_false_iff_not] at h'
    have ih := rising_up h'.2
    refine List.pairwise_cons.mpr ⟨fun y hy => ?_, ih⟩
    rcases List.mem_cons.mp hy with e | hy
    · subst e; exact h'.1
    · exact leS_trans h'.1 ((List.pairwise_cons.mp ih).1 y hy)
theorem sortedS_up : ∀ {l : List Str}, sortedS l = true → l.Pairwise leS
  | [], _ => .nil
  | x :: r, h => rising_up h
theorem sortedS_one : ∀ {xs ys : List Str}, xs.Perm ys → xs.Pairwise leS → ys.Pairwise leS → xs = ys
  | [], ys, p, _, _ => (List.nil_perm.mp p).symm
  | x :: xs, [], p, _, _ => by have := p.length_eq; simp at this
  | x :: xs, y :: ys, p, hx, hy => by
    have h1 : leS x y := by
      have m : y ∈ x :: xs := p.mem_iff.mpr List.mem_cons_self
      rcases List.mem_cons.mp m with e | m
      · subst e; exact List.lt_irrefl _
      · exact (List.pairwise_cons.mp hx).1 y m
    have h2 : leS y x := by
      have m : x ∈ y :: ys := p.mem_iff.mp List.mem_cons_self
      rcases List.mem_cons.mp m with e | m
      · subst e; exact List.lt_irrefl _
      · exact (List.pairwise_cons.mp hy).1 x m
    have e := leS_anti h1 h2
    subst e
    rw [sortedS_one ((List.perm_cons x).mp p) (List.pairwise_cons.mp hx).2 (List.pairwise_cons.mp hy).2]
theorem cd_sortedD {kvs : List (Key × Dt)} {ks : List Str} (hk : kvs.map (·.1) = ks.map Sum.inr) (hl : ks.length < 64) : ClD (fun xs H Q => ∃ (a : Addr) (kvs : List (Key × V)) (ks : List Str), xs = [.ref a] ∧ Rd H a (.dK kvs) ∧ kvs.map (·.1) = ks.map Sum.inr ∧ ks.length < 64 ∧
    ∀ ys p, ys.Perm ks → sortedS ys = true → H p = none → Q (.ref p) (upd H p (.lst (ys.map V.str)))) [.dic kvs] (.lst ((srtS ks).map Dt.str)) := fun ps H vs l r Q q => by
  cases r with
  | cons r t =>
    cases t
    cases r with
    | dic ha r =>
      refine ⟨_, _, ks, rfl, ?_, by rw [r.keys]; exact hk, hl, fun ys p h1 h2 hp' => ?_⟩
      · exact (Ex.kp (hid_ex ps H)).d _ _ ha
      · have e : ys = srtS ks := sortedS_one (h1.trans (srtS_perm ks).symm) (sortedS_up h2) (srtS_up ks)
        rw [e]
        exact q _ _ (.new hp') (.lst (hid_mk upd_same (l.new hp')) (RA.of_strs _))

/-! ### join -/
abbrev rJoin (K : PySem.W.Frag) : V → List V → Hp → VK → Prop := fun x xs H Q => ∃ a p, ∃ ys : List Str, x = .str a ∧ xs = [.ref p] ∧ (SqL K H p (ys.map V.str) ∨ SqT K H p (ys.map V.str)) ∧
      (ys.map (·.length)).sum + ys.length * a.length ≤ 16777216 ∧ Q (.str (Txt.join a ys)) H
theorem k_join {X : Cx} {K : PySem.W.Frag} {o e : Expr} {to te : TE} {apos pos : Pos} (hK : X.K = K) (ho : PE X o to) (he : PE X e te) (hs : starEach [e] X.env = [(false, eval e X.env)] := by rfl) (hbase : attributeBase o "join" X.env (eval o X.env) = eval o X.env := by rfl) (hline : (apos.endLine == pos.line) = true := by rfl) :
    PE X (.Call (.Attribute o "join" apos) [e] [] pos) (tM1 (rJoin K) to te) := by subst hK; exact pe_join ho he hs hbase hline
/-- one sign each -/
abbrev sign (c : Nat) : Str := ⟨#[c]⟩
theorem sum_sign (cs : List Nat) : ((cs.map sign).map (·.length)).sum ≤ cs.length := by
  induction cs with
  | nil => simp
  | cons a cs ih =>
    rw [List.map_cons, List.map_cons, List.sum_cons, List.length_cons]
    have : (sign a).length = 1 := rfl
    omega
theorem em_join {K : PySem.W.Frag} {ρ : List (Option Dt)} {p : Addr} {c : Oc} {to te : TE} {Post : Dt → Oc → Prop} (ho : EvP to ρ (.str (Str.ofString ""))) (he : EvM te ρ p c (fun d c' => ∃ cs : List Nat, d = .lst ((cs.map sign).map Dt.str) ∧ cs.length ≤ 1000 ∧ Post (.str (Txt.join (Str.ofString "") (cs.map sign))) c')) : EvM (tM1 (rJoin K) to te) ρ p c Post := fun ps H σ l hp ok s Q q =>
  ho (p :: ps) H σ (lv_p l ok) s _ fun v H1 e1 r1 => by
    cases r1
    refine ⟨⟨_, rfl⟩, he ps H1 σ (l.ex e1) hp (ok_ex ok e1) (s.ex (hid_mono e1)) _ fun w H2 d c' ⟨cs, hd, hl, hP⟩ e2 ok2 r2 => ?_⟩
    subst hd
    cases r2 with
    | lst ha r =>
      rw [r.strs] at ha
      refine ⟨_, _, cs.map sign, rfl, rfl, .inl (.of (hid_some ha).1), ?_, q _ H2 _ c' hP ((hid_mono e1).trans e2) ok2 (.str _)⟩
      have := sum_sign cs
      have e0 : (Str.ofString "").length = 0 := rfl
      rw [e0]
      omega
theorem join_cps (cs : List Nat) : (Txt.join (Str.ofString "") (cs.map sign)).cps.toList = cs := by
  rw [TL.join_eq]
  show TL.tl (Str.join (Str.ofString "") (cs.map sign)) = cs
  rw [TL.tl_join]
  induction cs with
  | nil => rfl
  | cons c cs ih =>
    cases cs with
    | nil => rfl
    | cons c' cs =>
      rw [List.map_cons, List.map_cons, List.map_cons, List.map_cons] at *
      show [c] ++ ([] ++ TL.joinL (TL.tl (Str.ofString "")) _) = _
      rw [List.nil_append]
      exact congrArg (List.cons c) ih
theorem join_kind {cs : List Nat} (h1 : 1 ≤ cs.length) (h8 : cs.length ≤ 8) (h : ∀ c ∈ cs, 97 ≤ c ∧ c ≤ 122) : KindOk (Txt.join (Str.ofString "") (cs.map sign)) := by
  have e := join_cps cs
  have el : (Txt.join (Str.ofString "") (cs.map sign)).length = cs.length := by
    show (Txt.join (Str.ofString "") (cs.map sign)).cps.size = cs.length
    rw [← Array.length_toList, e]
  exact ⟨by rw [el]; exact h1, by rw [el]; exact h8, by rw [e]; exact h⟩
/-- a letter -/
theorem od_letter {K : PySem.W.Frag} {x : Int} (h0 : 0 ≤ x) (h1 : x < 26) : ∃ c : Nat, 97 ≤ c ∧ c ≤ 122 ∧ OpD (rIx K) (.str (Str.ofString "abcdefghijklmnopqrstuvwxyz")) (.int x) (.str (sign c)) := by
  obtain ⟨n, rfl⟩ := nat_of h0
  refine ⟨97 + n, by omega, by omega, od_ixs (by rw [sizeLine_eq]; decide +kernel) ?_⟩
  have e : ((Str.ofString "abcdefghijklmnopqrstuvwxyz").cps.toList) = (List.range 26).map (97 + ·) := by decide +kernel
  rw [e]
  exact atI_nat (by rw [List.getElem?_map, List.getElem?_range (by omega)]; rfl)

/-! ### a fill as it grows -/
abbrev kvF (fl : Fill) : List (Key × Dt) := fl.map fun e => (Sum.inr e.1, fr e.2.1 e.2.2)
structure RawOk (k : Nat) (fl : Fill) : Prop where
  few : fl.length ≤ k
  nd : (fl.map (·.1)).Nodup
  ent : ∀ e ∈ fl, KindOk e.1 ∧ FracOk e.2.1 e.2.2 ∧ 0 < e.2.1
theorem raw_put {k : Nat} {fl : Fill} {z : Str} {a b : Int} (h : RawOk k fl) (hz : KindOk z) (hf : FracOk a b) (ha : 0 < a) : ∃ fl', putD (kvF fl) (.inr z) (fr a b) = kvF fl' ∧ RawOk (k + 1) fl' := by
  unfold putD
  by_cases c : ((kvF fl).any fun kv => decide (kv.1 = Sum.inr z)) = true
  · rw [if_pos c]
    refine ⟨fl.map fun e => if e.1 = z then (e.1, a, b) else e, ?_, ?_, ?_, ?_⟩
    · rw [kvF, kvF, List.map_map, List.map_map]
      refine List.map_congr_left fun e _ => ?_
      show (if (Sum.inr e.1 : Key) = Sum.inr z then _ else _) = _
      by_cases q : e.1 = z
      · rw [if_pos (by rw [q])]
        simp only [Function.comp, if_pos q]
      · rw [if_neg fun h => q (Sum.inr.inj h)]
        simp only [Function.comp, if_neg q]
    · rw [List.length_map]; exact Nat.le_succ_of_le h.few
    · have e : (fl.map fun e => if e.1 = z then (e.1, a, b) else e).map (·.1) = fl.map (·.1) := by
        rw [List.map_map]
        refine List.map_congr_left fun e _ => ?_
        show (if e.1 = z then (e.1, a, b) else e).1 = e.1
        split <;> rfl
      rw [e]
      exact h.nd
    · intro e he
      obtain ⟨e', he', q⟩ := List.mem_map.mp he
      by_cases r : e'.1 = z
      · rw [if_pos r] at q
        subst q
        exact ⟨r ▸ hz, hf, ha⟩
      · rw [if_neg r] at q
        subst q
        exact h.ent _ he'
  · rw [if_neg c]
    refine ⟨fl ++ [(z, a, b)], by rw [kvF, kvF, List.map_append]; rfl, by rw [List.length_append]; have := h.few; simp; omega, ?_, ?_⟩
    · rw [List.map_append]
      refine List.nodup_append.mpr ⟨h.nd, by simp, fun x hx y hy e => ?_⟩
      rw [List.map_cons, List.map_nil, List.mem_singleton] at hy
      subst e
      subst hy
      obtain ⟨e, he, q⟩ := List.mem_map.mp hx
      exact c (List.any_eq_true.mpr ⟨(Sum.inr e.1, fr e.2.1 e.2.2), List.mem_map.mpr ⟨e, he, rfl⟩, decide_eq_true (by rw [q])⟩)
    · intro e he
      rcases List.mem_append.mp he with q | q
      · exact h.ent _ q
      · rw [List.mem_singleton] at q
        subst q
        exact ⟨hz, hf, ha⟩
def getF (fl : Fill) (z : Str) : Str × Int × Int := (fl.find? fun e => decide (e.1 = z)).getD (z, 1, 1)
theorem getF_mem {fl : Fill} {z : Str} (h : z ∈ fl.map (·.1)) : getF fl z ∈ fl ∧ (getF fl z).1 = z ∧ look (kvF fl) (.inr z) = some (fr (getF fl z).2.1 (getF fl z).2.2) := by
  induction fl with
  | nil => simp at h
  | cons e fl ih =>
    by_cases c : e.1 = z
    · have eg : getF (e :: fl) z = e := by unfold getF; rw [List.find?_cons_of_pos (by simpa using c)]; rfl
      rw [eg]
      refine ⟨List.mem_cons_self, c, ?_⟩
      unfold look kvF
      rw [List.map_cons, List.find?_cons_of_pos (by simpa using c)]
      rfl
    · have eg : getF (e :: fl) z = getF fl z := by unfold getF; rw [List.find?_cons_of_neg (by simpa using c)]
      have h' : z ∈ fl.map (·.1) := by
        rw [List.map_cons, List.mem_cons] at h
        exact h.resolve_left fun q => c q.symm
      obtain ⟨h1, h2, h3⟩ := ih h'
      rw [eg]
      refine ⟨List.mem_cons_of_mem _ h1, h2, ?_⟩
      unfold look kvF at h3 ⊢
      rw [List.map_cons, List.find?_cons_of_neg (by simpa using fun q : (Sum.inr e.1 : Key) = Sum.inr z => c (Sum.inr.inj q))]
      exact h3
def fillOf (fl : Fill) : Fill := (srtS (fl.map (·.1))).map (getF fl)
theorem fill_of {k : Nat} {fl : Fill} (h : RawOk k fl) (hk : k ≤ 100) : FillOk (fillOf fl) := by
  have hp := srtS_perm (fl.map (·.1))
  have hm : ∀ z ∈ srtS (fl.map (·.1)), z ∈ fl.map (·.1) := fun z hz => hp.mem_iff.mp hz
  refine ⟨?_, fun e he => ?_, fun i e e' h1 h2 => ?_⟩
  · unfold fillOf
    rw [List.length_map, hp.length_eq, List.length_map]
    have := h.few
    omega
  · obtain ⟨z, hz, q⟩ := List.mem_map.mp he
    subst q
    exact h.ent _ (getF_mem (hm z hz)).1
  · unfold fillOf at h1 h2
    rw [List.getElem?_map] at h1 h2
    obtain ⟨z, hz, q⟩ := Option.map_eq_some_iff.mp h1
    obtain ⟨z', hz', q'⟩ := Option.map_eq_some_iff.mp h2
    subst q
    subst q'
    rw [(getF_mem (hm z (List.mem_of_getElem? hz))).2.1, (getF_mem (hm z' (List.mem_of_getElem? hz'))).2.1]
    have nd : (srtS (fl.map (·.1))).Nodup := hp.nodup_iff.mpr h.nd
    obtain ⟨l1, v1⟩ := List.getElem?_eq_some_iff.mp hz
    obtain ⟨l2, v2⟩ := List.getElem?_eq_some_iff.mp hz'
    have up := List.pairwise_iff_getElem.mp (srtS_up (fl.map (·.1))) i (i + 1) l1 l2 (by omega)
    rw [v1, v2] at up
    refine lt_of_leS up fun e => ?_
    have := (List.getElem?_inj (i := i) (j := i + 1) l1 nd).mp (by rw [hz, hz', e])
    omega
/-- d[k] = e, e with changes of p, d another's -/
theorem m_dput {ps : List Addr} {H0 H : Hp} {p pf : Addr} {c : Oc} {kvs : List (Key × Dt)} {σ : St} {ρ : List (Option Dt)} {D : Ends} {k : Key} {td ty tv : TE} {Post : Dt → Oc → Prop} (s : S ps H0 [(p, c), (pf, .dic kvs)] H σ ρ) (hv : EvM tv ρ p c Post) (hd : EvP td ρ (.adr pf)) (hy : EvP ty ρ (kD k)) (hl : kvs.length ≤ 100000)
    (kk : ∀ H' d c', Post d c' → S ps H0 [(p, c'), (pf, .dic (putD kvs k d))] H' σ ρ → D.nx σ H') : sDPut td ty tv D σ H := by
  refine S.evm (pre := []) (post := [(pf, .dic kvs)]) s hv fun v H1 d c1 hP s1 r1 => ?_
  refine s1.evp hd fun x H2 e2 s2 r2 => ?_
  refine s2.evp hy fun y H3 e3 s3 r3 => ?_
  cases r2
  cases kD_v r3
  have s3' : S ps H0 ([(p, c1)] ++ (pf, .dic kvs) :: []) H3 σ ρ := s3
  obtain ⟨es, a, r⟩ := s3'.own pf (.dic kvs) (by simp)
  refine ⟨pf, _, rfl, .k a (by rw [r.length, sizeLine_eq]; omega), kk _ d c1 hP (s3'.write ⟨_, upd_same, r.put (r1.ex ?_)⟩)⟩
  exact hid_mono (hid_mono (e2.trans e3))
theorem list_of {α : Type} {f : α → Dt} {P : α → Prop} : ∀ {ds : List Dt}, (∀ d ∈ ds, ∃ x, d = f x ∧ P x) → ∃ xs : List α, ds = xs.map f ∧ ∀ x ∈ xs, P x
  | [], _ => ⟨[], rfl, fun _ h => nomatch h⟩
  | d :: ds, h => by
    obtain ⟨x, e, hx⟩ := h d List.mem_cons_self
    obtain ⟨xs, e', hxs⟩ := list_of fun d hd => h d (List.mem_cons_of_mem _ hd)
    refine ⟨x :: xs, by rw [e, e', List.map_cons], fun y hy => ?_⟩
    rcases List.mem_cons.mp hy with q | q
    · subst q; exact hx
    · exact hxs y q
end Ck
namespace Ck
open PySem PySem.Spec L2
open PyProof.Rows hiding St

def F_w_kind : List Dt → Addr → Oc → (Dt → Oc → Prop) → Prop := fun ds p c Post => ∃ n : Nat, ds = [.adr p] ∧ c = .deck n ∧ n ≤ 2 ^ 29 ∧ Post = fun d c' => ∃ z, d = .str z ∧ KindOk z ∧ c' = .deck (n + 16)
def F_w_fill : List Dt → Addr → Oc → (Dt → Oc → Prop) → Prop := fun ds p c Post => ∃ n : Nat, ds = [.adr p, .int 2] ∧ c = .deck n ∧ n ≤ 2 ^ 28 ∧ Post = fun d c' => ∃ f, d = fillD f ∧ FillOk f ∧ c' = .deck (n + 60)
def F_w_cellar : List Dt → Addr → Oc → (Dt → Oc → Prop) → Prop := fun ds p c Post => ∃ n : Nat, ds = [.adr p, .int 1] ∧ c = .deck n ∧ n ≤ 2 ^ 27 ∧ Post = fun d c' => ∃ cl, d = cellarD cl ∧ CellarOk cl ∧ c' = .deck (n + 600)
def F_w_deed : List Dt → Addr → Oc → (Dt → Oc → Prop) → Prop := fun ds p c Post => ∃ n N : Nat, ds = [.adr p, .int (N : Int)] ∧ c = .deck n ∧ n ≤ 2 ^ 27 ∧ 1 ≤ N ∧ N ≤ 8 ∧ Post = fun d c' => ∃ x, d = deedD x ∧ DeedOk N x ∧ c' = .deck (n + 80)
theorem mq_forR {ps : List Addr} {H0 H : Hp} {pre post : Os} {p : Addr} {c : Oc} {σ : St} {ρ : List (Option Dt)} {D : Ends} {u : TS} {ta : TA} {g : TG} {tb : TS} {js : List Nat} {Post : Nat → Oc → Prop} (up : Nat → List (Option Dt) → List (Option Dt)) (I : Nat → Nat → Os → List (Option Dt) → Prop)
    (hi : EmA ta ρ p c (fun ds c' => ∃ n : Nat, n ≤ 100000 ∧ ds = [.int (n : Int)] ∧ Post n c')) (tg : ∀ (x : Nat) ρ', TgD g js ρ' (.int (x : Int)) (up x ρ')) (s : S ps H0 (pre ++ (p, c) :: post) H σ ρ)
    (h0 : ∀ n c', Post n c' → I n 0 (pre ++ (p, c') :: post) ρ)
    (step : ∀ n H1, Ex H0 H1 → Lv ps H1 → ∀ (i : Nat) os' ρ' H' σ', i < n → I n i os' ρ' → S ps H1 os' H' σ' (up i ρ') → ∀ D' : Ends, D'.rt = D.rt → (∀ σ'' H'' os'' ρ'', I n (i + 1) os'' ρ'' → S ps H1 os'' H'' σ'' ρ'' → D'.nx σ'' H'') → tb D' σ' H')
    (done : ∀ n os' ρ' H' σ', I n n os' ρ' → S ps H0 os' H' σ' ρ' → u D σ' H') : tSeq (tFor (iRng1 ta) g tb) u D σ H := m_forR (D := { D with nx := u D }) up I hi tg s h0 step done
theorem kinds_ok : ∀ d ∈ [Dt.str "red", .str "white", .str "old", .str "a", .str "zz", .str "re"], ∃ z, d = .str z ∧ KindOk z := by
  intro d hd
  simp only [List.mem_cons, List.not_mem_nil, or_false] at hd
  rcases hd with rfl | rfl | rfl | rfl | rfl | rfl <;> exact ⟨_, rfl, ⟨by decide +kernel, by decide +kernel, by decide +kernel⟩⟩

section
variable {P : Program} {w : World} {K : PySem.W.Frag} {mg : Str → Option Value} {base : Heap} {k : Nat}

theorem len_w_kind {ds : List Dt} {p : Addr} {c : Oc} {Post : Dt → Oc → Prop} (h : F_w_kind ds p c Post) : ds.length = 1 := by obtain ⟨_, rfl, _⟩ := h; rfl
theorem len_w_fill {ds : List Dt} {p : Addr} {c : Oc} {Post : Dt → Oc → Prop} (h : F_w_fill ds p c Post) : ds.length = 2 := by obtain ⟨_, rfl, _⟩ := h; rfl
theorem len_w_cellar {ds : List Dt} {p : Addr} {c : Oc} {Post : Dt → Oc → Prop} (h : F_w_cellar ds p c Post) : ds.length = 2 := by obtain ⟨_, rfl, _⟩ := h; rfl
theorem len_w_deed {ds : List Dt} {p : Addr} {c : Oc} {Post : Dt → Oc → Prop} (h : F_w_deed ds p c Post) : ds.length = 2 := by obtain ⟨_, _, rfl, _⟩ := h; rfl
theorem sc_w_kind : FnScope ["_law_deck_here", "_law_letters", "_law_turn"] ["_law_deck_here"] (defScope s_w_kind) := ⟨rfl, rfl, rfl, by decide +kernel, rfl, by decide +kernel, by decide +kernel⟩
theorem has_w_kind (T : Bt mg) (D : Dfn K mg "_law_kind" s_w_kind) (h_w_draw : Has P w K mg base k "_law_draw" ["_law_deck_here", "_law_bound"] (spO F_w_draw)) : Has P w K mg base (k + 1) "_law_kind" ["_law_deck_here"] (spO F_w_kind) := by
  have nd := (sc_w_kind).nd
  refine D.hasM sc_w_kind (fun _ _ _ _ _ _ us hl => match us, hl with | [_], _ => rfl) ?_ (fun f cdv A outer s H E hr => ?_)
  · intro ds p c Post h
    exact len_w_kind h
  have hu := hu_of hr
  refine ⟨_, (pss_cons (ps_if (pt_cmpR op_gt (pe_has h_w_draw hr (by rfl) (pa_cons (pv 0) (pa_cons pe_int pa_nil))) pe_int (nomark _)) (pss_one (ps_ret (pe_ix (k_ix (K := K) rfl) (pe_lst (pa_cons pe_str (pa_cons pe_str (pa_cons pe_str (pa_cons pe_str (pa_cons pe_str (pa_cons pe_str pa_nil))))))) (pe_has h_w_draw hr (by rfl) (pa_cons (pv 0) (pa_cons pe_int pa_nil))) (fun _ _ => rfl)))) pss_nil)
    (pss_cons (ps_set (i := 1) nd rfl (Or.inr rfl) pe_str)
    (pss_one (ps_ret (k_join (K := K) rfl pe_str (pe_lc (own := [("_law_turn", 2)]) (g := (gName 2)) (tt := tYes) rfl nd (pi_range1 (by rfl) T.range (pa_cons (pe_op op_add pe_int (pe_has h_w_draw hr (by rfl) (pa_cons (pv 0) (pa_cons pe_int pa_nil)))) pa_nil)) (blkOk_by (N := ["_law_deck_here", "_law_letters", "_law_turn"]) (sc := defScope s_w_kind) (by decide +kernel)) (fun _ _ _ _ _ => (pg_name (i := 2) nd rfl (Or.inl rfl))) (fun _ _ _ _ _ => pts_nil) (fun _ _ _ _ _ => (pe_ix (k_ix (K := K) rfl) (pv 1) (pe_has h_w_draw hr (by rfl) (pa_cons (pv 0) (pa_cons pe_int pa_nil))) (fun _ _ => rfl))))))))), ?_⟩
  rintro ds p c Post ⟨n, rfl, rfl, hn, rfl⟩ ps σ D H0 s rt nx
  refine mq_if (pre := []) (post := []) (Post := fun b c' => c' = .deck (n + 1)) (emt_T (em_op (P1 := fun d c' => ∃ y, d = .int y ∧ c' = .deck (n + 1)) (em_draw (ev_var (i := 0) rfl) ev_int (by omega) (by decide) (by decide +kernel) fun y h1 h2 => ⟨y, rfl, rfl⟩) fun d c1 ⟨y, hd, hc⟩ => by
    subst hd
    subst hc
    exact em_pure ev_int ⟨_, od_gt, _, rfl, rfl⟩)) s (fun H1 c' hc s1 => ?_) (fun H1 c' hc s1 => ?_)
  · subst hc
    refine m_ret (pre := []) (post := []) (P1 := fun d c' => ∃ z, d = .str z ∧ KindOk z ∧ c' = .deck (n + 16)) (em_less (P1 := fun d c' => ∃ z, d = .str z ∧ KindOk z ∧ c' = .deck (n + 2)) (em_op (P1 := fun d c' => d = .lst [.str "red", .str "white", .str "old", .str "a", .str "zz", .str "re"] ∧ c' = .deck (n + 1)) (em_pure (ev_lst (ea_cons ev_str (ea_cons ev_str (ea_cons ev_str (ea_cons ev_str (ea_cons ev_str (ea_cons ev_str ea_nil)))))) (Nat.le_of_ble_eq_true rfl)) ⟨rfl, rfl⟩) fun d c1 ⟨hd, hc⟩ => ?_) fun d c' ⟨z, h1, h2, h3⟩ => ⟨n + 2, n + 16, h3, by omega, z, h1, h2, rfl⟩) s1 rt fun _ _ h => h
    subst hd
    subst hc
    refine em_draw (ev_var (i := 0) rfl) ev_int (by omega) (by decide) (by decide +kernel) fun x h1 h2 => ?_
    obtain ⟨e, he, ho⟩ := od_pick (K := K) (ds := [.str "red", .str "white", .str "old", .str "a", .str "zz", .str "re"]) h1 h2
    obtain ⟨z, rfl, hz⟩ := kinds_ok e he
    exact ⟨_, ho, z, rfl, hz, rfl⟩
  · subst hc
    refine q_set (os := [] ++ (p, .deck (n + 1)) :: []) ev_str s1 fun σ2 H2 s2 => ?_
    refine m_ret (pre := []) (post := []) (P1 := fun d c' => ∃ z, d = .str z ∧ KindOk z ∧ c' = .deck (n + 16)) (em_less (P1 := fun d c' => ∃ z, d = .str z ∧ KindOk z ∧ ∃ m, c' = .deck m ∧ m ≤ n + 12) (em_join ev_str (em_lcR (Pd := fun d => ∃ c : Nat, d = .str (sign c) ∧ 97 ≤ c ∧ c ≤ 122) (PN := fun k c' => 1 ≤ k ∧ k ≤ 8 ∧ c' = .deck (n + 2)) (Ic := fun k j c' => 1 ≤ k ∧ k ≤ 8 ∧ c' = .deck (n + 2 + j)) (ema_cons (em_op (P1 := fun d c' => d = .int 1 ∧ c' = .deck (n + 1)) (Post := fun d c' => ∃ k : Nat, d = .int (k : Int) ∧ 1 ≤ k ∧ k ≤ 8 ∧ c' = .deck (n + 2)) (em_pure ev_int ⟨rfl, rfl⟩) fun d c1 ⟨hd, hc⟩ => ?_) fun d c1 ⟨k, hd, hk1, hk8, hc⟩ => ?_) (fun k c' ⟨h1, h2, h3⟩ => ⟨h1, h2, h3⟩) (fun k j c' hj ⟨h1, h2, h3⟩ => ?_) (fun k c' ds ⟨h1, h2, h3⟩ hl hP => ?_))) fun d c' ⟨z, h1, h2, m, h3, h4⟩ => ⟨m, n + 16, h3, by omega, z, h1, h2, rfl⟩) s2 rt fun _ _ h => h
    · subst hd
      subst hc
      refine em_draw (ev_var (i := 0) rfl) ev_int (by omega) (by decide) (by decide +kernel) fun x h1 h2 => ?_
      obtain ⟨xn, rfl⟩ := nat_of h1
      exact ⟨_, od_add, xn + 1, by congr 1; omega, by omega, by omega, rfl⟩
    · subst hd
      subst hc
      exact ema_nil ⟨k, by omega, rfl, hk1, hk8, rfl⟩
    · subst h3
      refine em_op (P1 := fun d c' => d = .str (Str.ofString "abcdefghijklmnopqrstuvwxyz") ∧ c' = .deck (n + 2 + j)) (em_pure (ev_var (i := 1) rfl) ⟨rfl, rfl⟩) fun d c1 ⟨hd, hc⟩ => ?_
      subst hd
      subst hc
      refine em_draw (ev_var (i := 0) rfl) ev_int (by omega) (by decide) (by decide +kernel) fun x h1 h2 => ?_
      obtain ⟨c, hc1, hc2, ho⟩ := od_letter (K := K) h1 h2
      exact ⟨_, ho, ⟨c, rfl, hc1, hc2⟩, ‹1 ≤ k›, ‹k ≤ 8›, by rw [Nat.add_assoc]⟩
    · obtain ⟨cs, e, hcs⟩ := list_of (f := fun c => Dt.str (sign c)) (P := fun c => 97 ≤ c ∧ c ≤ 122) hP
      subst e
      rw [List.length_map] at hl
      exact ⟨cs, by rw [List.map_map]; rfl, by omega, _, rfl, join_kind (by omega) (by omega) hcs, _, h3, by omega⟩
theorem sc_w_fill : FnScope ["_law_deck_here", "_law_most", "_law_found", "_law_turn", "_law_kind_here"] ["_law_deck_here", "_law_most"] (defScope s_w_fill) := ⟨rfl, rfl, rfl, by decide +kernel, rfl, by decide +kernel, by decide +kernel⟩
theorem has_w_fill (T : Bt mg) (D : Dfn K mg "_law_fill" s_w_fill) (h_w_draw : Has P w K mg base k "_law_draw" ["_law_deck_here", "_law_bound"] (spO F_w_draw)) (h_w_kind : Has P w K mg base k "_law_kind" ["_law_deck_here"] (spO F_w_kind)) (h_w_amount : Has P w K mg base k "_law_amount" ["_law_deck_here"] (spO F_w_amount)) : Has P w K mg base (k + 1) "_law_fill" ["_law_deck_here", "_law_most"] (spO F_w_fill) := by
  have nd := (sc_w_fill).nd
  refine D.hasM sc_w_fill (fun _ _ _ _ _ _ us hl => match us, hl with | [_, _], _ => rfl) ?_ (fun f cdv A outer s H E hr => ?_)
  · intro ds p c Post h
    exact len_w_fill h
  have hu := hu_of hr
  refine ⟨_, (pss_cons (ps_set (i := 2) nd rfl (Or.inr rfl) pe_dnewK)
    (pss_cons (ps_for PassesOwn.never rfl (pi_range1 (by rfl) T.range (pa_cons (pe_has h_w_draw hr (by rfl) (pa_cons (pv 0) (pa_cons (pe_op op_add (pv 1) pe_int) pa_nil))) pa_nil)) (pg_name (i := 3) nd rfl (Or.inl rfl)) (pss_cons (ps_set (i := 4) nd rfl (Or.inl rfl) (pe_has h_w_kind hr (by rfl) (pa_cons (pv 0) pa_nil)))
    (pss_one (ps_dput hu (pv 2) (pv 4) (pe_has h_w_amount hr (by rfl) (pa_cons (pv 0) pa_nil)) rfl))))
    (pss_one (ps_ret (pe_callTy (k_tuple (K := K) rfl) (by rfl) T.tuple (by decide +kernel) (pa_cons (pe_lc (own := [("_law_kind_here", 4)]) (g := (gName 4)) (tt := tYes) rfl nd (k_piL (K := K) rfl (pe_callB (call_sortedD rfl) (by rfl) T.sorted (by decide +kernel) (pa_cons (pv 2) pa_nil))) (blkOk_by (N := ["_law_deck_here", "_law_most", "_law_found", "_law_turn", "_law_kind_here"]) (sc := defScope s_w_fill) (by decide +kernel)) (fun _ _ _ _ _ => (pg_name (i := 4) nd rfl (Or.inl rfl))) (fun _ _ _ _ _ => pts_nil) (fun _ _ _ _ _ => (pe_tup (pa_cons (pv 4) (pa_cons (pe_dget hu (pv 2) (pv 4) (fun _ _ => rfl)) pa_nil))))) pa_nil)))))), ?_⟩
  rintro ds p c Post ⟨n, rfl, rfl, hn, rfl⟩ ps σ D H0 s rt nx
  refine q_ownD (pre := [(p, .deck n)]) (post := []) s fun pf σ1 H1 s1 => ?_
  refine mq_forR (pre := []) (post := [(pf, .dic [])]) (js := [3]) (Post := fun k c' => k ≤ 2 ∧ c' = .deck (n + 1)) (fun x ρ => ρ.set 3 (some (.int (x : Int)))) (fun k i os ρ => k ≤ 2 ∧ ∃ fl e3 e4, RawOk i fl ∧ os = [(p, .deck (n + 1 + 24 * i)), (pf, .dic (kvF fl))] ∧ ρ = [some (.adr p), some (.int 2), some (.adr pf), e3, e4]) (ema_cons (em_draw (Post := fun d c' => ∃ k : Nat, d = .int (k : Int) ∧ k ≤ 2 ∧ c' = .deck (n + 1)) (ev_var (i := 0) rfl) (ev_op (ev_var (i := 1) rfl) ev_int od_add) (by omega) (by decide) (by decide +kernel) fun x h1 h2 => ?_) fun d c1 ⟨k, hd, hk, hc⟩ => ?_) (fun x ρ' => tg_name) s1 (fun k c' ⟨hk, hc⟩ => ⟨hk, [], none, none, ⟨Nat.le_refl _, .nil, fun _ h => nomatch h⟩, by rw [hc]; rfl, rfl⟩) ?_ ?_
  · obtain ⟨xn, rfl⟩ := nat_of h1
    exact ⟨xn, rfl, by omega, rfl⟩
  · subst hd
    subst hc
    exact ema_nil ⟨k, by omega, rfl, hk, rfl⟩
  · rintro k H4 e l i os' ρ' H' σ' hi ⟨hk, fl, e3, e4, raw, rfl, rfl⟩ s4 D' hrt hnx
    refine mq_set (pre := []) (post := [(pf, .dic (kvF fl))]) (Post := fun d c' => ∃ z, d = .str z ∧ KindOk z ∧ c' = .deck (n + 1 + 24 * i + 16)) (em_call (ema_pure (ea_cons (ev_var (i := 0) rfl) ea_nil) ⟨_, ⟨_, rfl, rfl, by omega, rfl⟩, fun _ _ h => h⟩)) s4 fun σ5 H5 d c' ⟨z, hd, hz, hc⟩ s5 => ?_
    subst hd
    subst hc
    have hfew := raw.few
    refine m_dput (k := .inr z) (Post := fun d c' => ∃ a b, d = fr a b ∧ FracOk a b ∧ 0 < a ∧ c' = .deck (n + 1 + 24 * i + 24)) s5 (em_call (ema_pure (ea_cons (ev_var (i := 0) rfl) ea_nil) ⟨_, ⟨_, rfl, rfl, by omega, rfl⟩, fun _ _ ⟨a, b, h1, h2, h3, h4⟩ => ⟨a, b, h1, h2, h3, h4⟩⟩)) (ev_var (i := 2) rfl) (ev_var (i := 4) rfl) (by rw [List.length_map]; omega) fun H6 d c' ⟨a, b, hd, hf, ha, hc⟩ s6 => ?_
    subst hd
    subst hc
    obtain ⟨fl', e', raw'⟩ := raw_put raw hz hf ha
    exact hnx _ _ _ _ ⟨hk, fl', _, _, raw', by rw [e']; rfl, rfl⟩ s6
  · rintro k os' ρ' H' σ' ⟨hk, fl, e3, e4, raw, rfl, rfl⟩ s4
    have s5 := S.freezeD (pre := [(p, _)]) (post := []) (i := 2) s4 rfl
    have s6 := S.less (pre := []) (post := []) (m := n + 60) s5 (by omega)
    have hkeys : ∀ z ∈ srtS (fl.map (·.1)), z ∈ fl.map (·.1) := fun z hz => (srtS_perm _).mem_iff.mp hz
    have hlen : (srtS (fl.map (·.1))).length ≤ 2 := by
      rw [(srtS_perm _).length_eq, List.length_map]
      have := raw.few
      omega
    refine m_retP (pre := []) (post := []) (d := fillD (fillOf fl)) (ev_is (ev_cb (ea_cons (ev_lc0 (srtS (fl.map (·.1))) Dt.str (fun z => entD (getF fl z)) (fun z => [some (.adr p), some (.int 2), some (.dic (kvF fl)), e3, some (.str z)]) (ei_list (ev_cb (ea_cons (ev_var (i := 2) rfl) ea_nil) (cd_sortedD (ks := fl.map (·.1)) (by rw [List.map_map, List.map_map]; rfl) (by rw [List.length_map]; have := raw.few; omega)))) (js := [4]) (by simp) (fun z _ => tg_name) (fun z hz => ?_) (by omega)) ea_nil) cd_tuple) (by rw [fillD, fillOf, List.map_map]; rfl)) s6 rt ⟨fillOf fl, rfl, fill_of raw (by omega), rfl⟩
    obtain ⟨g1, g2, g3⟩ := getF_mem (hkeys z hz)
    exact ev_is (ev_tup (ea_cons (ev_var (i := 4) rfl) (ea_cons (ev_dget (k := .inr z) (ev_var (i := 2) rfl) (ev_var (i := 4) rfl) g3) ea_nil)) (Nat.le_of_ble_eq_true rfl)) (by rw [entD, g2])
theorem sc_w_cellar : FnScope ["_law_deck_here", "_law_least", "_law_cask"] ["_law_deck_here", "_law_least"] (defScope s_w_cellar) := ⟨rfl, rfl, rfl, by decide +kernel, rfl, by decide +kernel, by decide +kernel⟩
theorem has_w_cellar (T : Bt mg) (D : Dfn K mg "_law_cellar" s_w_cellar) (h_w_fill : Has P w K mg base k "_law_fill" ["_law_deck_here", "_law_most"] (spO F_w_fill)) (h_w_draw : Has P w K mg base k "_law_draw" ["_law_deck_here", "_law_bound"] (spO F_w_draw)) : Has P w K mg base (k + 1) "_law_cellar" ["_law_deck_here", "_law_least"] (spO F_w_cellar) := by
  have nd := (sc_w_cellar).nd
  refine D.hasM sc_w_cellar (fun _ _ _ _ _ _ us hl => match us, hl with | [_, _], _ => rfl) ?_ (fun f cdv A outer s H E hr => ?_)
  · intro ds p c Post h
    exact len_w_cellar h
  have hu := hu_of hr
  refine ⟨_, (pss_one (ps_ret (pe_callTy (k_tuple (K := K) rfl) (by rfl) T.tuple (by decide +kernel) (pa_cons (pe_lc (own := [("_law_cask", 2)]) (g := (gName 2)) (tt := tYes) rfl nd (pi_range1 (by rfl) T.range (pa_cons (pe_op op_add (pv 1) (pe_has h_w_draw hr (by rfl) (pa_cons (pv 0) (pa_cons (pe_op op_sub pe_int (pv 1)) pa_nil)))) pa_nil)) (blkOk_by (N := ["_law_deck_here", "_law_least", "_law_cask"]) (sc := defScope s_w_cellar) (by decide +kernel)) (fun _ _ _ _ _ => (pg_name (i := 2) nd rfl (Or.inl rfl))) (fun _ _ _ _ _ => pts_nil) (fun _ _ _ _ _ => (pe_has h_w_fill hr (by rfl) (pa_cons (pv 0) (pa_cons pe_int pa_nil))))) pa_nil)))), ?_⟩
  rintro ds p c Post ⟨n, rfl, rfl, hn, rfl⟩ ps σ D H0 s rt nx
  refine m_ret (pre := []) (post := []) (P1 := fun d c' => ∃ cl, d = cellarD cl ∧ CellarOk cl ∧ c' = .deck (n + 600)) (em_less (P1 := fun d c' => ∃ cl, d = cellarD cl ∧ CellarOk cl ∧ ∃ m, c' = .deck m ∧ m ≤ n + 600) (em_cb (ema_cons (em_lcR (Post := fun d c' => ∃ cl : List Fill, d = .lst (cl.map fillD) ∧ CellarOk cl ∧ ∃ m, c' = .deck m ∧ m ≤ n + 600) (Pd := fun d => ∃ f, d = fillD f ∧ FillOk f) (PN := fun k c' => 1 ≤ k ∧ k ≤ 8 ∧ c' = .deck (n + 1)) (Ic := fun k j c' => 1 ≤ k ∧ k ≤ 8 ∧ c' = .deck (n + 1 + 60 * j)) (ema_cons (em_op (P1 := fun d c' => d = .int 1 ∧ c' = .deck n) (Post := fun d c' => ∃ k : Nat, d = .int (k : Int) ∧ 1 ≤ k ∧ k ≤ 8 ∧ c' = .deck (n + 1)) (em_pure (ev_var (i := 1) rfl) ⟨rfl, rfl⟩) fun d c1 ⟨hd, hc⟩ => ?_) fun d c1 ⟨k, hd, hk1, hk8, hc⟩ => ?_) (fun k c' ⟨h1, h2, h3⟩ => ⟨h1, h2, h3⟩) (fun k j c' hj ⟨h1, h2, h3⟩ => ?_) (fun k c' ds ⟨h1, h2, h3⟩ hl hP => ?_)) fun d c1 ⟨cl, hd, hcl, m, hc, hm⟩ => ?_)) fun d c' ⟨cl, h1, h2, m, h3, h4⟩ => ⟨m, n + 600, h3, h4, cl, h1, h2, rfl⟩) s rt fun _ _ h => h
  · subst hd
    subst hc
    refine em_draw (ev_var (i := 0) rfl) (ev_op ev_int (ev_var (i := 1) rfl) od_sub) (by omega) (by decide) (by decide +kernel) fun x h1 h2 => ?_
    obtain ⟨xn, rfl⟩ := nat_of h1
    exact ⟨_, od_add, xn + 1, by congr 1; omega, by omega, by omega, rfl⟩
  · subst hd
    subst hc
    exact ema_nil ⟨k, by omega, rfl, hk1, hk8, rfl⟩
  · subst h3
    exact em_call (ema_pure (ea_cons (ev_var (i := 0) rfl) (ea_cons ev_int ea_nil)) ⟨_, ⟨_, rfl, rfl, by omega, rfl⟩, fun d c' ⟨f, e1, e2, e3⟩ => ⟨⟨f, e1, e2⟩, ‹1 ≤ k›, ‹k ≤ 8›, e3.trans (congrArg Oc.deck (by omega))⟩⟩)
  · obtain ⟨cl, e, hcl⟩ := list_of (f := fillD) (P := FillOk) hP
    subst e
    rw [List.length_map] at hl
    exact ⟨cl, rfl, ⟨by omega, by omega, hcl⟩, _, h3, by omega⟩
  · subst hd
    subst hc
    exact ema_nil ⟨_, cd_tuple, cl, rfl, hcl, m, rfl, hm⟩
theorem sc_w_deed : FnScope ["_law_deck_here", "_law_casks", "_law_word", "_law_one", "_law_other"] ["_law_deck_here", "_law_casks"] (defScope s_w_deed) := ⟨rfl, rfl, rfl, by decide +kernel, rfl, by decide +kernel, by decide +kernel⟩
theorem has_w_deed (T : Bt mg) (D : Dfn K mg "_law_deed" s_w_deed) (h_w_draw : Has P w K mg base k "_law_draw" ["_law_deck_here", "_law_bound"] (spO F_w_draw)) (h_w_share : Has P w K mg base k "_law_share" ["_law_deck_here"] (spO F_w_share)) (h_w_fill : Has P w K mg base k "_law_fill" ["_law_deck_here", "_law_most"] (spO F_w_fill)) : Has P w K mg base (k + 1) "_law_deed" ["_law_deck_here", "_law_casks"] (spO F_w_deed) := by
  have nd := (sc_w_deed).nd
  refine D.hasM sc_w_deed (fun _ _ _ _ _ _ us hl => match us, hl with | [_, _], _ => rfl) ?_ (fun f cdv A outer s H E hr => ?_)
  · intro ds p c Post h
    exact len_w_deed h
  have hu := hu_of hr
  refine ⟨_, (pss_cons (ps_set (i := 2) nd rfl (Or.inl rfl) (pe_ix (k_ix (K := K) rfl) (pe_lst (pa_cons pe_str (pa_cons pe_str (pa_cons pe_str (pa_cons pe_str (pa_cons pe_str (pa_cons pe_str (pa_cons pe_str pa_nil)))))))) (pe_has h_w_draw hr (by rfl) (pa_cons (pv 0) (pa_cons pe_int pa_nil))) (fun _ _ => rfl)))
    (pss_cons (ps_set (i := 3) nd rfl (Or.inl rfl) (pe_has h_w_draw hr (by rfl) (pa_cons (pv 0) (pa_cons (pv 1) pa_nil))))
    (pss_cons (ps_if (pt_cmpR op_eq (pv 2) pe_str (nomark _)) (pss_one (ps_ret (pe_tup (pa_cons pe_str (pa_cons (pv 3) (pa_cons (pe_has h_w_fill hr (by rfl) (pa_cons (pv 0) (pa_cons pe_int pa_nil))) pa_nil)))))) pss_nil)
    (pss_cons (ps_if (PW.pt (pw_and (pt_cmpR (k_in (K := K) rfl) (pv 2) (pe_tup (pa_cons pe_str (pa_cons pe_str pa_nil))) (by rfl)) (pw_and1 (pt_cmpR op_gt (pv 1) pe_int (nomark _))))) (pss_cons (ps_set (i := 4) nd rfl (Or.inl rfl) (pe_op op_mod (pe_callTy call_int1 (by rfl) T.int (by decide +kernel) (pa_cons (pe_op op_add (pe_op op_add (pv 3) pe_int) (pe_has h_w_draw hr (by rfl) (pa_cons (pv 0) (pa_cons (pe_op op_sub (pv 1) pe_int) pa_nil)))) pa_nil)) (pv 1)))
    (pss_one (ps_ret (pe_tup (pa_cons (pv 2) (pa_cons (pv 3) (pa_cons (pv 4) (pa_cons (pe_has h_w_share hr (by rfl) (pa_cons (pv 0) pa_nil)) pa_nil)))))))) pss_nil)
    (pss_one (ps_ret (pe_tup (pa_cons (pe_ifExp (pt_cmpR op_eq (pv 2) pe_str (nomark _)) pe_str pe_str) (pa_cons (pv 3) (pa_cons (pe_has h_w_share hr (by rfl) (pa_cons (pv 0) pa_nil)) pa_nil)))))))))), ?_⟩
  rintro ds p c Post ⟨n, N, rfl, rfl, hn, hN, hN8, rfl⟩ ps σ D H0 s rt nx
  refine mq_set (pre := []) (post := []) (Post := fun d c' => (d = .str "move" ∨ d = .str "swap" ∨ d = .str "draw" ∨ d = .str "keep" ∨ d = .str "add") ∧ c' = .deck (n + 1)) (em_op (P1 := fun d c' => d = .lst [.str "move", .str "move", .str "swap", .str "draw", .str "draw", .str "keep", .str "add"] ∧ c' = .deck n) (em_pure (ev_lst (ea_cons ev_str (ea_cons ev_str (ea_cons ev_str (ea_cons ev_str (ea_cons ev_str (ea_cons ev_str (ea_cons ev_str ea_nil))))))) (Nat.le_of_ble_eq_true rfl)) ⟨rfl, rfl⟩) fun d c1 ⟨hd, hc⟩ => ?_) s fun σ1 H1 d c' ⟨hd, hc⟩ s1 => ?_
  · subst hd
    subst hc
    refine em_draw (ev_var (i := 0) rfl) ev_int (by omega) (by decide) (by decide +kernel) fun x h1 h2 => ?_
    obtain ⟨e, he, ho⟩ := od_pick (K := K) (ds := [.str "move", .str "move", .str "swap", .str "draw", .str "draw", .str "keep", .str "add"]) h1 h2
    simp only [List.mem_cons, List.not_mem_nil, or_false] at he
    refine ⟨e, ho, ?_, rfl⟩
    rcases he with rfl | rfl | rfl | rfl | rfl | rfl | rfl <;> simp
  · subst hc
    refine mq_set (pre := []) (post := []) (Post := fun d c' => ∃ o : Nat, d = .int (o : Int) ∧ o < N ∧ c' = .deck (n + 2)) (em_draw (ev_var (i := 0) rfl) (ev_var (i := 1) rfl) (by omega) (by omega) (by omega) fun x h1 h2 => ?_) s1 fun σ2 H2 d' c' ⟨o, hd', ho, hc⟩ s2 => ?_
    · obtain ⟨xn, rfl⟩ := nat_of h1
      exact ⟨xn, rfl, by omega, rfl⟩
    subst hd'
    subst hc
    have s3 : S ps H0 ([] ++ (p, .deck (n + 2)) :: []) H2 σ2 [some (.adr p), some (.int (N : Int)), some d, some (.int (o : Int)), none] := s2
    rcases hd with rfl | rfl | rfl | rfl | rfl
    · refine q_gd (et_is (et_T (ev_op (ev_var (i := 2) rfl) ev_str (by first | exact od_eqI | exact od_eqS | exact od_eqB))) (by decide +kernel)) s3 fun H4 s4 => ?_
      have s4' : S ps H0 ([] ++ (p, .deck (n + 2)) :: []) H4 σ2 [some (.adr p), some (.int (N : Int)), some (.str "move"), some (.int (o : Int)), none] := s4
      refine q_if (et_and (et_T (ev_op (ev_var (i := 2) rfl) (ev_tup (ea_cons ev_str (ea_cons ev_str ea_nil)) (Nat.le_of_ble_eq_true rfl)) (od_inSt ["move", "swap"]))) fun _ => (et_T (ev_op (ev_var (i := 1) rfl) ev_int od_gt))) s4' (fun hb H5 s5 => ?_) (fun hb H5 s5 => ?_)
      · rw [Bool.and_eq_true, decide_eq_true_eq, decide_eq_true_eq] at hb
        have hN1 : (1 : Int) < (N : Int) := hb.2
        refine mq_set (pre := []) (post := []) (Post := fun d c' => ∃ j : Nat, d = .int (j : Int) ∧ j < N ∧ j ≠ o ∧ c' = .deck (n + 3)) (em_op (P1 := fun d c' => ∃ y, d = .int y ∧ (o : Int) + 1 ≤ y ∧ y < (o : Int) + N ∧ c' = .deck (n + 3)) (em_cb (ema_cons (em_op (P1 := fun d c' => d = .int ((o : Int) + 1) ∧ c' = .deck (n + 2)) (Post := fun d c' => ∃ y, d = .int y ∧ (o : Int) + 1 ≤ y ∧ y < (o : Int) + N ∧ c' = .deck (n + 3)) (em_pure (ev_op (ev_var (i := 3) rfl) ev_int od_add) ⟨rfl, rfl⟩) fun d c1 ⟨hd, hc⟩ => ?_) fun d c1 ⟨y, hd, hy1, hy2, hc⟩ => ?_)) fun d c1 ⟨y, hd, hy1, hy2, hc⟩ => ?_) s5 fun σ6 H6 d c' ⟨j, hd, hj, hne, hc⟩ s6 => ?_
        · subst hd
          subst hc
          exact em_draw (ev_var (i := 0) rfl) (ev_op (ev_var (i := 1) rfl) ev_int od_sub) (by omega) (by omega) (by omega) fun y h1 h2 => ⟨_, od_add, _, rfl, by omega, by omega, rfl⟩
        · subst hd
          subst hc
          exact ema_nil ⟨_, cd_intI, y, rfl, hy1, hy2, rfl⟩
        · subst hd
          subst hc
          refine em_pure (ev_var (i := 1) rfl) ⟨_, od_mod (by omega), ?_⟩
          by_cases hlt : y < (N : Int)
          · exact ⟨y.toNat, by rw [Int.emod_eq_of_lt (by omega) hlt]; congr 1; omega, by omega, by omega, rfl⟩
          · have e : y % (N : Int) = y - N := by
              rw [← Int.sub_emod_right, Int.emod_eq_of_lt (by omega) (by omega)]
            exact ⟨(y - N).toNat, by rw [e]; congr 1; omega, by omega, by omega, rfl⟩
        · subst hd
          subst hc
          refine m_ret (pre := []) (post := []) (P1 := fun d c' => ∃ x, d = deedD x ∧ DeedOk N x ∧ c' = .deck (n + 80)) (em_less (P1 := fun d c' => ∃ x, d = deedD x ∧ DeedOk N x ∧ c' = .deck (n + 11)) (em_tup (ema_cons (em_pure (ev_var (i := 2) rfl) (Post := fun d c' => d = .str "move" ∧ c' = .deck (n + 3)) ⟨rfl, rfl⟩) fun d1 c1 ⟨hd1, hc1⟩ => ?_)) fun d c' ⟨x, h1, h2, h3⟩ => ⟨n + 11, n + 80, h3, by omega, x, h1, h2, rfl⟩) s6 rt fun _ _ h => h
          subst hd1
          subst hc1
          refine ema_cons (em_pure (ev_var (i := 3) rfl) (Post := fun d c' => d = .int (o : Int) ∧ c' = .deck (n + 3)) ⟨rfl, rfl⟩) fun d2 c2 ⟨hd2, hc2⟩ => ?_
          subst hd2
          subst hc2
          refine ema_cons (em_pure (ev_var (i := 4) rfl) (Post := fun d c' => d = .int (j : Int) ∧ c' = .deck (n + 3)) ⟨rfl, rfl⟩) fun d2 c2 ⟨hd2, hc2⟩ => ?_
          subst hd2
          subst hc2
          refine ema_cons (em_call (Post := fun d c' => ∃ a b, d = fr a b ∧ ShareOk a b ∧ c' = .deck (n + 11)) (ema_pure (ea_cons (ev_var (i := 0) rfl) ea_nil) ⟨_, ⟨_, rfl, rfl, by omega, rfl⟩, fun _ _ h => h⟩)) fun d3 c3 ⟨a, b, hd3, hs3, hc3⟩ => ?_
          subst hd3
          subst hc3
          exact ema_nil ⟨Nat.le_of_ble_eq_true rfl, .move o j a b, rfl, ⟨ho, hj, fun e => hne e.symm, hs3⟩, rfl⟩
      · exact m_ret (pre := []) (post := []) (P1 := fun d c' => ∃ x, d = deedD x ∧ DeedOk N x ∧ c' = .deck (n + 80)) (em_less (P1 := fun d c' => ∃ x, d = deedD x ∧ DeedOk N x ∧ c' = .deck (n + 10)) (em_tup (ema_cons (em_pure (d := .str "draw") (ev_if (b := false) (et_is (et_T (ev_op (ev_var (i := 2) rfl) ev_str (by first | exact od_eqI | exact od_eqS | exact od_eqB))) (by decide +kernel)) (fun z => absurd z (by decide)) (fun z => ev_str)) (Post := fun d c' => d = .str "draw" ∧ c' = .deck (n + 2)) ⟨rfl, rfl⟩) fun d1 c1 ⟨hd1, hc1⟩ => by
          subst hd1
          subst hc1
          exact ema_cons (em_pure (ev_var (i := 3) rfl) (Post := fun d c' => d = .int (o : Int) ∧ c' = .deck (n + 2)) ⟨rfl, rfl⟩) fun d2 c2 ⟨hd2, hc2⟩ => by
            subst hd2
            subst hc2
            exact ema_cons (em_call (Post := fun d c' => ∃ a b, d = fr a b ∧ ShareOk a b ∧ c' = .deck (n + 10)) (ema_pure (ea_cons (ev_var (i := 0) rfl) ea_nil) ⟨_, ⟨_, rfl, rfl, by omega, rfl⟩, fun _ _ h => h⟩)) fun d3 c3 ⟨a, b, hd3, hs3, hc3⟩ => by
              subst hd3
              subst hc3
              exact ema_nil ⟨Nat.le_of_ble_eq_true rfl, .draw o a b, rfl, ⟨ho, hs3⟩, rfl⟩)) fun d c' ⟨x, h1, h2, h3⟩ => ⟨n + 10, n + 80, h3, by omega, x, h1, h2, rfl⟩) s5 rt fun _ _ h => h
    · refine q_gd (et_is (et_T (ev_op (ev_var (i := 2) rfl) ev_str (by first | exact od_eqI | exact od_eqS | exact od_eqB))) (by decide +kernel)) s3 fun H4 s4 => ?_
      have s4' : S ps H0 ([] ++ (p, .deck (n + 2)) :: []) H4 σ2 [some (.adr p), some (.int (N : Int)), some (.str "swap"), some (.int (o : Int)), none] := s4
      refine q_if (et_and (et_T (ev_op (ev_var (i := 2) rfl) (ev_tup (ea_cons ev_str (ea_cons ev_str ea_nil)) (Nat.le_of_ble_eq_true rfl)) (od_inSt ["move", "swap"]))) fun _ => (et_T (ev_op (ev_var (i := 1) rfl) ev_int od_gt))) s4' (fun hb H5 s5 => ?_) (fun hb H5 s5 => ?_)
      · rw [Bool.and_eq_true, decide_eq_true_eq, decide_eq_true_eq] at hb
        have hN1 : (1 : Int) < (N : Int) := hb.2
        refine mq_set (pre := []) (post := []) (Post := fun d c' => ∃ j : Nat, d = .int (j : Int) ∧ j < N ∧ j ≠ o ∧ c' = .deck (n + 3)) (em_op (P1 := fun d c' => ∃ y, d = .int y ∧ (o : Int) + 1 ≤ y ∧ y < (o : Int) + N ∧ c' = .deck (n + 3)) (em_cb (ema_cons (em_op (P1 := fun d c' => d = .int ((o : Int) + 1) ∧ c' = .deck (n + 2)) (Post := fun d c' => ∃ y, d = .int y ∧ (o : Int) + 1 ≤ y ∧ y < (o : Int) + N ∧ c' = .deck (n + 3)) (em_pure (ev_op (ev_var (i := 3) rfl) ev_int od_add) ⟨rfl, rfl⟩) fun d c1 ⟨hd, hc⟩ => ?_) fun d c1 ⟨y, hd, hy1, hy2, hc⟩ => ?_)) fun d c1 ⟨y, hd, hy1, hy2, hc⟩ => ?_) s5 fun σ6 H6 d c' ⟨j, hd, hj, hne, hc⟩ s6 => ?_
        · subst hd
          subst hc
          exact em_draw (ev_var (i := 0) rfl) (ev_op (ev_var (i := 1) rfl) ev_int od_sub) (by omega) (by omega) (by omega) fun y h1 h2 => ⟨_, od_add, _, rfl, by omega, by omega, rfl⟩
        · subst hd
          subst hc
          exact ema_nil ⟨_, cd_intI, y, rfl, hy1, hy2, rfl⟩
        · subst hd
          subst hc
          refine em_pure (ev_var (i := 1) rfl) ⟨_, od_mod (by omega), ?_⟩
          by_cases hlt : y < (N : Int)
          · exact ⟨y.toNat, by rw [Int.emod_eq_of_lt (by omega) hlt]; congr 1; omega, by omega, by omega, rfl⟩
          · have e : y % (N : Int) = y - N := by
              rw [← Int.sub_emod_right, Int.emod_eq_of_lt (by omega) (by omega)]
            exact ⟨(y - N).toNat, by rw [e]; congr 1; omega, by omega, by omega, rfl⟩
        · subst hd
          subst hc
          refine m_ret (pre := []) (post := []) (P1 := fun d c' => ∃ x, d = deedD x ∧ DeedOk N x ∧ c' = .deck (n + 80)) (em_less (P1 := fun d c' => ∃ x, d = deedD x ∧ DeedOk N x ∧ c' = .deck (n + 11)) (em_tup (ema_cons (em_pure (ev_var (i := 2) rfl) (Post := fun d c' => d = .str "swap" ∧ c' = .deck (n + 3)) ⟨rfl, rfl⟩) fun d1 c1 ⟨hd1, hc1⟩ => ?_)) fun d c' ⟨x, h1, h2, h3⟩ => ⟨n + 11, n + 80, h3, by omega, x, h1, h2, rfl⟩) s6 rt fun _ _ h => h
          subst hd1
          subst hc1
          refine ema_cons (em_pure (ev_var (i := 3) rfl) (Post := fun d c' => d = .int (o : Int) ∧ c' = .deck (n + 3)) ⟨rfl, rfl⟩) fun d2 c2 ⟨hd2, hc2⟩ => ?_
          subst hd2
          subst hc2
          refine ema_cons (em_pure (ev_var (i := 4) rfl) (Post := fun d c' => d = .int (j : Int) ∧ c' = .deck (n + 3)) ⟨rfl, rfl⟩) fun d2 c2 ⟨hd2, hc2⟩ => ?_
          subst hd2
          subst hc2
          refine ema_cons (em_call (Post := fun d c' => ∃ a b, d = fr a b ∧ ShareOk a b ∧ c' = .deck (n + 11)) (ema_pure (ea_cons (ev_var (i := 0) rfl) ea_nil) ⟨_, ⟨_, rfl, rfl, by omega, rfl⟩, fun _ _ h => h⟩)) fun d3 c3 ⟨a, b, hd3, hs3, hc3⟩ => ?_
          subst hd3
          subst hc3
          exact ema_nil ⟨Nat.le_of_ble_eq_true rfl, .swap o j a b, rfl, ⟨ho, hj, fun e => hne e.symm, hs3⟩, rfl⟩
      · exact m_ret (pre := []) (post := []) (P1 := fun d c' => ∃ x, d = deedD x ∧ DeedOk N x ∧ c' = .deck (n + 80)) (em_less (P1 := fun d c' => ∃ x, d = deedD x ∧ DeedOk N x ∧ c' = .deck (n + 10)) (em_tup (ema_cons (em_pure (d := .str "draw") (ev_if (b := false) (et_is (et_T (ev_op (ev_var (i := 2) rfl) ev_str (by first | exact od_eqI | exact od_eqS | exact od_eqB))) (by decide +kernel)) (fun z => absurd z (by decide)) (fun z => ev_str)) (Post := fun d c' => d = .str "draw" ∧ c' = .deck (n + 2)) ⟨rfl, rfl⟩) fun d1 c1 ⟨hd1, hc1⟩ => by
          subst hd1
          subst hc1
          exact ema_cons (em_pure (ev_var (i := 3) rfl) (Post := fun d c' => d = .int (o : Int) ∧ c' = .deck (n + 2)) ⟨rfl, rfl⟩) fun d2 c2 ⟨hd2, hc2⟩ => by
            subst hd2
            subst hc2
            exact ema_cons (em_call (Post := fun d c' => ∃ a b, d = fr a b ∧ ShareOk a b ∧ c' = .deck (n + 10)) (ema_pure (ea_cons (ev_var (i := 0) rfl) ea_nil) ⟨_, ⟨_, rfl, rfl, by omega, rfl⟩, fun _ _ h => h⟩)) fun d3 c3 ⟨a, b, hd3, hs3, hc3⟩ => by
              subst hd3
              subst hc3
              exact ema_nil ⟨Nat.le_of_ble_eq_true rfl, .draw o a b, rfl, ⟨ho, hs3⟩, rfl⟩)) fun d c' ⟨x, h1, h2, h3⟩ => ⟨n + 10, n + 80, h3, by omega, x, h1, h2, rfl⟩) s5 rt fun _ _ h => h
    · refine q_gd (et_is (et_T (ev_op (ev_var (i := 2) rfl) ev_str (by first | exact od_eqI | exact od_eqS | exact od_eqB))) (by decide +kernel)) s3 fun H4 s4 => ?_
      have s4' : S ps H0 ([] ++ (p, .deck (n + 2)) :: []) H4 σ2 [some (.adr p), some (.int (N : Int)), some (.str "draw"), some (.int (o : Int)), none] := s4
      refine q_gd (et_is (et_and (b := false) (et_T (ev_op (ev_var (i := 2) rfl) (ev_tup (ea_cons ev_str (ea_cons ev_str ea_nil)) (Nat.le_of_ble_eq_true rfl)) (od_inSt ["move", "swap"]))) fun z => absurd z (by decide +kernel)) (by decide +kernel)) s4' fun H5 s5 => ?_
      exact m_ret (pre := []) (post := []) (P1 := fun d c' => ∃ x, d = deedD x ∧ DeedOk N x ∧ c' = .deck (n + 80)) (em_less (P1 := fun d c' => ∃ x, d = deedD x ∧ DeedOk N x ∧ c' = .deck (n + 10)) (em_tup (ema_cons (em_pure (d := .str "draw") (ev_if (b := false) (et_is (et_T (ev_op (ev_var (i := 2) rfl) ev_str (by first | exact od_eqI | exact od_eqS | exact od_eqB))) (by decide +kernel)) (fun z => absurd z (by decide)) (fun z => ev_str)) (Post := fun d c' => d = .str "draw" ∧ c' = .deck (n + 2)) ⟨rfl, rfl⟩) fun d1 c1 ⟨hd1, hc1⟩ => by
          subst hd1
          subst hc1
          exact ema_cons (em_pure (ev_var (i := 3) rfl) (Post := fun d c' => d = .int (o : Int) ∧ c' = .deck (n + 2)) ⟨rfl, rfl⟩) fun d2 c2 ⟨hd2, hc2⟩ => by
            subst hd2
            subst hc2
            exact ema_cons (em_call (Post := fun d c' => ∃ a b, d = fr a b ∧ ShareOk a b ∧ c' = .deck (n + 10)) (ema_pure (ea_cons (ev_var (i := 0) rfl) ea_nil) ⟨_, ⟨_, rfl, rfl, by omega, rfl⟩, fun _ _ h => h⟩)) fun d3 c3 ⟨a, b, hd3, hs3, hc3⟩ => by
              subst hd3
              subst hc3
              exact ema_nil ⟨Nat.le_of_ble_eq_true rfl, .draw o a b, rfl, ⟨ho, hs3⟩, rfl⟩)) fun d c' ⟨x, h1, h2, h3⟩ => ⟨n + 10, n + 80, h3, by omega, x, h1, h2, rfl⟩) s5 rt fun _ _ h => h
    · refine q_gd (et_is (et_T (ev_op (ev_var (i := 2) rfl) ev_str (by first | exact od_eqI | exact od_eqS | exact od_eqB))) (by decide +kernel)) s3 fun H4 s4 => ?_
      have s4' : S ps H0 ([] ++ (p, .deck (n + 2)) :: []) H4 σ2 [some (.adr p), some (.int (N : Int)), some (.str "keep"), some (.int (o : Int)), none] := s4
      refine q_gd (et_is (et_and (b := false) (et_T (ev_op (ev_var (i := 2) rfl) (ev_tup (ea_cons ev_str (ea_cons ev_str ea_nil)) (Nat.le_of_ble_eq_true rfl)) (od_inSt ["move", "swap"]))) fun z => absurd z (by decide +kernel)) (by decide +kernel)) s4' fun H5 s5 => ?_
      exact m_ret (pre := []) (post := []) (P1 := fun d c' => ∃ x, d = deedD x ∧ DeedOk N x ∧ c' = .deck (n + 80)) (em_less (P1 := fun d c' => ∃ x, d = deedD x ∧ DeedOk N x ∧ c' = .deck (n + 10)) (em_tup (ema_cons (em_pure (d := .str "keep") (ev_if (b := true) (et_is (et_T (ev_op (ev_var (i := 2) rfl) ev_str (by first | exact od_eqI | exact od_eqS | exact od_eqB))) (by decide +kernel)) (fun z => ev_str) (fun z => absurd z (by decide))) (Post := fun d c' => d = .str "keep" ∧ c' = .deck (n + 2)) ⟨rfl, rfl⟩) fun d1 c1 ⟨hd1, hc1⟩ => by
          subst hd1
          subst hc1
          exact ema_cons (em_pure (ev_var (i := 3) rfl) (Post := fun d c' => d = .int (o : Int) ∧ c' = .deck (n + 2)) ⟨rfl, rfl⟩) fun d2 c2 ⟨hd2, hc2⟩ => by
            subst hd2
            subst hc2
            exact ema_cons (em_call (Post := fun d c' => ∃ a b, d = fr a b ∧ ShareOk a b ∧ c' = .deck (n + 10)) (ema_pure (ea_cons (ev_var (i := 0) rfl) ea_nil) ⟨_, ⟨_, rfl, rfl, by omega, rfl⟩, fun _ _ h => h⟩)) fun d3 c3 ⟨a, b, hd3, hs3, hc3⟩ => by
              subst hd3
              subst hc3
              exact ema_nil ⟨Nat.le_of_ble_eq_true rfl, .keep o a b, rfl, ⟨ho, hs3⟩, rfl⟩)) fun d c' ⟨x, h1, h2, h3⟩ => ⟨n + 10, n + 80, h3, by omega, x, h1, h2, rfl⟩) s5 rt fun _ _ h => h
    · refine q_gt (et_is (et_T (ev_op (ev_var (i := 2) rfl) ev_str (by first | exact od_eqI | exact od_eqS | exact od_eqB))) (by decide +kernel)) s3 fun H4 s4 => ?_
      refine m_ret (pre := []) (post := []) (P1 := fun d c' => ∃ x, d = deedD x ∧ DeedOk N x ∧ c' = .deck (n + 80)) (em_less (P1 := fun d c' => ∃ x, d = deedD x ∧ DeedOk N x ∧ c' = .deck (n + 62)) (em_tup (ema_cons (em_pure ev_str (Post := fun d c' => d = .str "add" ∧ c' = .deck (n + 2)) ⟨rfl, rfl⟩) fun d1 c1 ⟨hd1, hc1⟩ => ?_)) fun d c' ⟨x, h1, h2, h3⟩ => ⟨n + 62, n + 80, h3, by omega, x, h1, h2, rfl⟩) s4 rt fun _ _ h => h
      subst hd1
      subst hc1
      refine ema_cons (em_pure (ev_var (i := 3) rfl) (Post := fun d c' => d = .int (o : Int) ∧ c' = .deck (n + 2)) ⟨rfl, rfl⟩) fun d2 c2 ⟨hd2, hc2⟩ => ?_
      subst hd2
      subst hc2
      refine ema_cons (em_call (Post := fun d c' => ∃ f, d = fillD f ∧ FillOk f ∧ c' = .deck (n + 62)) (ema_pure (ea_cons (ev_var (i := 0) rfl) (ea_cons ev_int ea_nil)) ⟨_, ⟨_, rfl, rfl, by omega, rfl⟩, fun _ _ h => h⟩)) fun d3 c3 ⟨f, hd3, hf, hc3⟩ => ?_
      subst hd3
      subst hc3
      exact ema_nil ⟨Nat.le_of_ble_eq_true rfl, .add o f, rfl, ⟨ho, hf⟩, rfl⟩
end
end Ck
namespace Ck
open PySem PySem.Spec L2
open PyProof.Rows hiding St

/-! ### for over a list that an expression with changes makes -/
section
variable {ps : List Addr} {H0 H1 H H' : Hp} {os os' pre post : Os} {p : Addr} {c : Oc} {σ σ' : St} {ρ ρ' : List (Option Dt)} {d : Dt} {D : Ends} {u : TS}
/-- the list depends on what was drawn: x -/
theorem mq_forL {K : PySem.W.Frag} {β α : Type} {te : TE} {g : TG} {tb : TS} {js : List Nat} (xs : β → List α) (emb : α → Dt) (Post : β → Oc → Prop) (up : α → List (Option Dt) → List (Option Dt)) (I : β → Nat → Os → List (Option Dt) → Prop)
    (hi : EvM te ρ p c (fun d c' => ∃ x, d = .lst ((xs x).map emb) ∧ Post x c')) (tg : ∀ x ρ', TgD g js ρ' (emb x) (up x ρ')) (s : S ps H0 (pre ++ (p, c) :: post) H σ ρ) (h0 : ∀ x c', Post x c' → I x 0 (pre ++ (p, c') :: post) ρ)
    (step : ∀ b H1, Ex H0 H1 → Lv ps H1 → ∀ (i : Nat) (x : α) os' ρ' H' σ', (xs b)[i]? = some x → I b i os' ρ' → S ps H1 os' H' σ' (up x ρ') → ∀ D' : Ends, D'.rt = D.rt → (∀ σ'' H'' os'' ρ'', I b (i + 1) os'' ρ'' → S ps H1 os'' H'' σ'' ρ'' → D'.nx σ'' H'') → tb D' σ' H')
    (done : ∀ b os' ρ' H' σ', I b (xs b).length os' ρ' → S ps H0 os' H' σ' ρ' → u D σ' H') : tSeq (tFor (iList K te) g tb) u D σ H := by
  refine s.evm hi fun v H1 d c1 ⟨x, hd, hP⟩ s1 r1 => ?_
  subst hd
  cases r1 with
  | lst ha r =>
    refine ⟨_, rfl, ⟨_, .of (hid_some (hid_some ha).1).1⟩, ?_⟩
    rw [vw_eq] at ha r
    exact s_forJ (D := { D with nx := u D }) (J := Itl K _) (xs x) emb up (I x) (it_list ha r) tg s1 (h0 x c1 hP) (fun H2 e l i y os' ρ' H' σ' hx hI s' => step x H2 e l i y os' ρ' H' σ' hx hI s' _ rfl fun σ'' H'' os'' ρ'' h1 h2 => ⟨os'', ρ'', h1, h2⟩) (done x)
/-- x.append(e), e with changes of p, x one's own at pf -/
theorem m_app {K : PySem.W.Frag} {pf : Addr} {ds : List Dt} {to te : TE} {Post : Dt → Oc → Prop} (s : S ps H0 [(p, c), (pf, .lst ds)] H σ ρ) (ho : EvP to ρ (.adr pf)) (he : EvM te ρ p c Post) (hl : ds.length ≤ 100000)
    (k : ∀ H' d c', Post d c' → S ps H0 [(p, c'), (pf, .lst (ds ++ [d]))] H' σ ρ → D.nx σ H') : tDrop (tBM K "list" rAppend to (tCons te tNil)) D σ H := by
  refine s.evp ho fun v H1 e1 s1 r1 => ?_
  cases r1
  obtain ⟨xs, a, r⟩ := s1.own pf (.lst ds) (by simp)
  refine ⟨.inl ⟨rfl, xs, .of a⟩, ?_⟩
  refine S.evm (pre := []) (post := [(pf, .lst ds)]) s1 he fun v H2 d c2 hP s2 r2 => ?_
  have s2' : S ps H0 ([(p, c2)] ++ (pf, .lst ds) :: []) H2 σ ρ := s2
  obtain ⟨xs, a, r⟩ := s2'.own pf (.lst ds) (by simp)
  exact ⟨pf, xs, v, rfl, rfl, a, by rw [r.length, sizeLine_eq]; omega, k _ d c2 hP (s2'.write ⟨_, upd_same, r.append (.one r2)⟩)⟩
end
theorem em_sortset {K : PySem.W.Frag} {w : World} {ρ : List (Option Dt)} {p : Addr} {c : Oc} {te : TE} {Post : Dt → Oc → Prop} (h : EvM te ρ p c (fun d c' => ∃ ns : List Int, d = intsD ns ∧ ns.length ≤ 50 ∧ (srt ns).length < 64 ∧ Post (intsD (srt ns)) c')) :
    EvM (tCB (rSortedSet w) (tCons (tCB (rSetOfLZ K w) (tCons te tNil)) tNil)) ρ p c Post := fun ps H σ l hp ok s Q q => by
  refine h ps H σ l hp ok s _ fun v H1 d c1 ⟨ns, hd, hl, h64, hP⟩ e1 ok1 r1 => ?_
  subst hd
  cases r1 with
  | lst ha r =>
    rw [r.ints] at ha
    refine ⟨_, ns, srt ns, rfl, .of (hid_some ha).1, by omega, srt_up, fun k => mem_srt, fun a hn => ?_⟩
    refine ⟨a, _, (srt ns).length, rfl, upd_same, h64, fun ns' b pw mem _ hb => ?_⟩
    have e : ns' = srt ns := strict_one pw srt_up fun k => by rw [mem, mem_srt]; simp
    rw [e]
    have ex1 : Ex H1 (upd H1 a (SetO w a (fun j => decide (j ∈ ns)) (srt ns).length)) := .new hn
    have ex2 : Ex (upd H1 a (SetO w a (fun j => decide (j ∈ ns)) (srt ns).length)) (upd (upd H1 a (SetO w a (fun j => decide (j ∈ ns)) (srt ns).length)) b (.lst ((srt ns).map V.int))) := .new hb
    have lp : Lv (p :: ps) (upd H1 a (SetO w a (fun j => decide (j ∈ ns)) (srt ns).length)) := (lv_p (lv_m l hp e1) ok1).ex ex1
    exact q _ _ _ c1 hP (e1.trans (hid_mono (ex1.trans ex2))) (ok_ex ok1 (ex1.trans ex2)) (.lst (hid_mk upd_same (lp.new hb)) (RA.of_ints _))
theorem put_len (x : Int) : ∀ l : List Int, (put x l).length ≤ l.length + 1
  | [] => by simp [put]
  | y :: l => by
    unfold put
    split
    · simp
    · split
      · simp
      · have := put_len x l
        simp only [List.length_cons]
        omega
theorem srt_len : ∀ l : List Int, (srt l).length ≤ l.length
  | [] => Nat.le_refl _
  | x :: l => by
    have h1 := put_len x (srt l)
    have h2 := srt_len l
    show (put x (srt l)).length ≤ _
    rw [List.length_cons]
    omega
/-! ### stories -/
def cntF (c : List Fill) : Nat := (c.filter fun f => !f.isEmpty).length
def cntA (s : List Deed) : Nat := (s.filter Deed.adds).length
theorem zip_cnt {α : Type} (P : α → Bool) : ∀ (xs : List α) (n : Nat), ((xs.zipIdx n).filter fun p => P p.1).length = (xs.filter P).length
  | [], _ => rfl
  | x :: xs, n => by
    rw [List.zipIdx_cons]
    by_cases c : P x = true
    · rw [List.filter_cons_of_pos (by simpa using c), List.filter_cons_of_pos c, List.length_cons, List.length_cons, zip_cnt P xs (n + 1)]
    · rw [List.filter_cons_of_neg (by simpa using c), List.filter_cons_of_neg c, zip_cnt P xs (n + 1)]
theorem every_cnt (c : List Fill) (s : List Deed) : (everyLot c s).length = cntF c + cntA s := by
  unfold everyLot cntF cntA
  rw [List.length_append, List.length_reverse, List.length_map, List.length_map, zip_cnt (fun f : Fill => !f.isEmpty) c 0, zip_cnt Deed.adds s 0]
theorem cntF_le (c : List Fill) : cntF c ≤ c.length := List.length_filter_le _ _
theorem cntA_add (s : List Deed) (x : Deed) : cntA (s ++ [x]) = cntA s + if x.adds then 1 else 0 := by
  unfold cntA
  rw [List.filter_append, List.length_append]
  cases h : x.adds <;> simp [h]
def cntD (s : List Deed) : Nat := (s.filter Deed.draws).length
theorem cntD_add (s : List Deed) (x : Deed) : cntD (s ++ [x]) = cntD s + if x.draws then 1 else 0 := by
  unfold cntD
  rw [List.filter_append, List.length_append]
  cases h : x.draws <;> simp [h]
def Deed.place : Deed → Nat
  | .move i _ _ _ => i
  | .swap i _ _ _ => i
  | .draw i _ _ => i
  | .keep i _ _ => i
  | .add i _ => i
theorem place_lt {n : Nat} {x : Deed} (h : DeedOk n x) : x.place < n := by
  cases x <;> exact h.1
section
variable {K : PySem.W.Frag} {ρ : List (Option Dt)}
theorem ev_place {i : Nat} {x : Deed} (h : ρ[i]? = some (some (deedD x))) : EvP (tOp (rIx K) (tVar i) (tC (.int 1))) ρ (.int (x.place : Int)) := by
  cases x <;> exact ev_op (ev_var h) ev_int (od_ixt rfl)
theorem ev_draws {i : Nat} {x : Deed} (h : ρ[i]? = some (some (deedD x))) : EvP (tOp rEq (tOp (rIx K) (tVar i) (tC (.int 0))) (tC (.str "draw"))) ρ (.bl x.draws) := by
  cases x <;> exact ev_is (ev_op (ev_op (ev_var h) ev_int (od_ixt rfl)) ev_str od_eqS) rfl
theorem ev_adds {n i : Nat} {x : Deed} (h : ρ[i]? = some (some (deedD x))) (ok : DeedOk n x) :
    EvP (tAndV (tOp rEq (tOp (rIx K) (tVar i) (tC (.int 0))) (tC (.str "add"))) (tOp (rNeD K) (tOp (rIx K) (tVar i) (tC (.int 2))) (tTup tNil))) ρ (.bl x.adds) := by
  cases x with
  | add k f => exact ev_is (ev_andb (ev_op (ev_op (ev_var h) ev_int (od_ixt rfl)) ev_str od_eqS) fun _ => ev_op (ev_op (ev_var h) ev_int (od_ixt (d := fillD f) rfl)) (ev_tup ea_nil (Nat.zero_le _)) (ne_nil ok.2)) rfl
  | move k j a b => exact ev_is (ev_andb (b := false) (ev_op (ev_op (ev_var h) ev_int (od_ixt rfl)) ev_str od_eqS) fun z => absurd z (by decide +kernel)) (by rw [Bool.and_false]; rfl)
  | swap k j a b => exact ev_is (ev_andb (b := false) (ev_op (ev_op (ev_var h) ev_int (od_ixt rfl)) ev_str od_eqS) fun z => absurd z (by decide +kernel)) (by rw [Bool.and_false]; rfl)
  | draw k a b => exact ev_is (ev_andb (b := false) (ev_op (ev_op (ev_var h) ev_int (od_ixt rfl)) ev_str od_eqS) fun z => absurd z (by decide +kernel)) (by rw [Bool.and_false]; rfl)
  | keep k a b => exact ev_is (ev_andb (b := false) (ev_op (ev_op (ev_var h) ev_int (od_ixt rfl)) ev_str od_eqS) fun z => absurd z (by decide +kernel)) (by rw [Bool.and_false]; rfl)
theorem ints_ok : ∀ ns : List Int, okDL (ns.map Dt.int) = true
  | [] => rfl
  | n :: ns => by simp only [List.map_cons, okDL, okD, ints_ok ns, Bool.and_self]
theorem ints_shape (ns : List Int) : SeqAt.shaped (toPy (intsD ns)) = true := by
  have sh : ∀ ns : List Int, PyData.canLayAll0 (toPyL (ns.map Dt.int)) = true ∧ PyData.depthAll (toPyL (ns.map Dt.int)) = 0 := fun ns => by
    induction ns with
    | nil => exact ⟨rfl, rfl⟩
    | cons n ns ih => simp only [List.map_cons, toPyL, toPy, PyData.canLayAll0, PyData.canLay0, PyData.depthAll, PyData.depth, ih.1, ih.2, Bool.and_self, Nat.max_self, and_self]
  unfold SeqAt.shaped
  rw [Bool.and_eq_true, decide_eq_true_eq]
  simp only [intsD, toPy, PyData.canLay0, PyData.depth]
  exact ⟨(sh ns).1, by rw [(sh ns).2]; omega⟩
theorem ne_nilI {ns : List Int} : OpD (rNeD K) (intsD ns) (.lst []) (.bl (!ns.isEmpty)) :=
  od_neD (by simp only [intsD, okD, ints_ok]) rfl (ints_shape ns) (by decide +kernel) (by
    cases ns with
    | nil => simp [intsD, toPy, toPyL, PyData.eqv, PyData.eqvAll]
    | cons n ns => simp [intsD, toPy, toPyL, PyData.eqv, PyData.eqvAll])
theorem ints_eqv : ∀ ns ms : List Int, PyData.eqvAll (toPyL (ns.map Dt.int)) (toPyL (ms.map Dt.int)) = decide (ns = ms)
  | [], [] => by simp [toPyL, PyData.eqvAll]
  | [], m :: ms => by simp [toPyL, PyData.eqvAll]
  | n :: ns, [] => by simp [toPyL, PyData.eqvAll]
  | n :: ns, m :: ms => by
    simp only [List.map_cons, toPyL, toPy, PyData.eqvAll, PyData.eqv, ints_eqv ns ms]
    by_cases h : n = m
    · subst h; simp
    · have : (n == m) = false := by simpa using h
      rw [this]
      simp [h]
theorem eq_ints {ns ms : List Int} : OpD (rEqD K) (intsD ns) (intsD ms) (.bl (decide (ns = ms))) :=
  od_eqD (by simp only [intsD, okD, ints_ok]) (by simp only [intsD, okD, ints_ok]) (ints_shape ns) (ints_shape ms) (by simp only [intsD, toPy, PyData.eqv, ints_eqv])
end
end Ck
namespace Ck
open PySem PySem.Spec L2
open PyProof.Rows hiding St

structure TaleOk (c : List Fill) (st : List Deed) : Prop where
  cel : CellarOk c
  sto : StoryOk c.length st
  few : (everyLot c st).length ≤ 16
def F_w_story : List Dt → Addr → Oc → (Dt → Oc → Prop) → Prop := fun ds p c Post => ∃ (n : Nat) (cl : List Fill), ds = [.adr p, cellarD cl, .int 24] ∧ c = .deck n ∧ n ≤ 2 ^ 26 ∧ CellarOk cl ∧ Post = fun d c' => ∃ st, d = storyD st ∧ TaleOk cl st ∧ c' = .deck (n + 2000)
def F_w_parting : List Dt → Addr → Oc → (Dt → Oc → Prop) → Prop := fun ds p c Post => ∃ n : Nat, ds = [.adr p] ∧ c = .deck n ∧ n ≤ 2 ^ 26 ∧ Post = fun d c' => ∃ cl st, d = .tup [cellarD cl, storyD st] ∧ TaleOk cl st ∧ c' = .deck (n + 30)
def F_w_told : List Dt → Addr → Oc → (Dt → Oc → Prop) → Prop := fun ds p c Post => ∃ (n : Nat) (known : List Int) (car : Car), ds = [.adr p, intsD known, carD car] ∧ c = .deck n ∧ n ≤ 2 ^ 26 ∧ known.length ≤ 1000 ∧ car.length ≤ 60 ∧ (car.map (·.1)).Pairwise (· < ·) ∧ Post = fun d c' => ∃ t, d = toldD t ∧ t.length ≤ 2 ∧ (∀ q ∈ t, q.1 ∈ car.map (·.1)) ∧ c' = .deck (n + 20)
def vatF (i : Nat) : Fill := [(Str.ofString "a", 1 + (i : Int), 1)]
theorem a_kind : KindOk (Str.ofString "a") := ⟨by decide +kernel, by decide +kernel, by decide +kernel⟩
theorem vat_ok (i : Nat) : FillOk (vatF i) := by
  refine ⟨by simp [vatF], fun e he => ?_, fun j e e' h1 h2 => ?_⟩
  · rw [vatF, List.mem_singleton] at he
    subst he
    exact ⟨a_kind, ⟨Int.le_refl 1, by simp⟩, by simp only; omega⟩
  · simp [vatF] at h2
theorem none_ok : FillOk [] := ⟨Nat.zero_le _, (fun _ h => nomatch h), fun _ _ _ h => by simp at h⟩
def vats (m : Nat) : List Fill := (List.range m).map vatF ++ [[]]
theorem vats_ok {m : Nat} (h4 : 4 ≤ m) (h6 : m ≤ 6) : CellarOk (vats m) ∧ (vats m).length = m + 1 ∧ cntF (vats m) ≤ 6 := by
  have hl : (vats m).length = m + 1 := by simp [vats]
  refine ⟨⟨by omega, by omega, fun f hf => ?_⟩, hl, ?_⟩
  · rcases List.mem_append.mp hf with q | q
    · obtain ⟨i, _, e⟩ := List.mem_map.mp q
      subst e
      exact vat_ok i
    · rw [List.mem_singleton] at q
      subst q
      exact none_ok
  · unfold cntF vats
    rw [List.filter_append, List.length_append]
    have h1 := List.length_filter_le (fun f : Fill => !f.isEmpty) ((List.range m).map vatF)
    rw [List.length_map, List.length_range] at h1
    have h2 : (([[]] : List Fill).filter fun f => !f.isEmpty).length = 0 := rfl
    omega

section
variable {P : Program} {w : World} {K : PySem.W.Frag} {mg : Str → Option Value} {base : Heap} {k : Nat}

theorem len_w_story {ds : List Dt} {p : Addr} {c : Oc} {Post : Dt → Oc → Prop} (h : F_w_story ds p c Post) : ds.length = 3 := by obtain ⟨_, _, rfl, _⟩ := h; rfl
theorem len_w_parting {ds : List Dt} {p : Addr} {c : Oc} {Post : Dt → Oc → Prop} (h : F_w_parting ds p c Post) : ds.length = 1 := by obtain ⟨_, rfl, _⟩ := h; rfl
theorem len_w_told {ds : List Dt} {p : Addr} {c : Oc} {Post : Dt → Oc → Prop} (h : F_w_told ds p c Post) : ds.length = 3 := by obtain ⟨_, _, _, rfl, _⟩ := h; rfl
theorem sc_w_story : FnScope ["_law_deck_here", "_law_cellar_here", "_law_most", "_law_found", "_law_many", "_law_fill_here", "_law_draws", "_law_turn", "_law_deed_here", "_law_is_lot"] ["_law_deck_here", "_law_cellar_here", "_law_most"] (defScope s_w_story) := ⟨rfl, rfl, rfl, by decide +kernel, rfl, by decide +kernel, by decide +kernel⟩
theorem has_w_story (T : Bt mg) (D : Dfn K mg "_law_story" s_w_story) (h_w_draw : Has P w K mg base k "_law_draw" ["_law_deck_here", "_law_bound"] (spO F_w_draw)) (h_w_deed : Has P w K mg base k "_law_deed" ["_law_deck_here", "_law_casks"] (spO F_w_deed)) : Has P w K mg base (k + 1) "_law_story" ["_law_deck_here", "_law_cellar_here", "_law_most"] (spO F_w_story) := by
  have nd := (sc_w_story).nd
  refine D.hasM sc_w_story (fun _ _ _ _ _ _ us hl => match us, hl with | [_, _, _], _ => rfl) ?_ (fun f cdv A outer s H E hr => ?_)
  · intro ds p c Post h
    exact len_w_story h
  have hu := hu_of hr
  refine ⟨_, (pss_cons (ps_set (i := 3) nd rfl (Or.inl rfl) (pe_lst pa_nil))
    (pss_cons (ps_set (i := 4) nd rfl (Or.inl rfl) (pe_callB (k_len (K := K) rfl) (by rfl) T.len PySem.boot_len (pa_cons (pe_lc (own := [("_law_fill_here", 5)]) (g := (gName 5)) rfl nd (k_piT (K := K) rfl (pv 1)) (blkOk_by (N := ["_law_deck_here", "_law_cellar_here", "_law_most", "_law_found", "_law_many", "_law_fill_here", "_law_draws", "_law_turn", "_law_deed_here", "_law_is_lot"]) (sc := defScope s_w_story) (by decide +kernel)) (fun _ _ _ _ _ => (pg_name (i := 5) nd rfl (Or.inl rfl))) (fun _ _ _ _ _ => (pts_one (pt_cmpR (k_neD (K := K) rfl hr.units) (pv 5) (pe_tup pa_nil) (nomark _)))) (fun _ _ _ _ _ => (pv 5))) pa_nil)))
    (pss_cons (ps_set (i := 6) nd rfl (Or.inl rfl) pe_int)
    (pss_cons (ps_for PassesOwn.never rfl (pi_range1 (by rfl) T.range (pa_cons (pe_has h_w_draw hr (by rfl) (pa_cons (pv 0) (pa_cons (pe_op op_add (pv 2) pe_int) pa_nil))) pa_nil)) (pg_name (i := 7) nd rfl (Or.inl rfl)) (pss_cons (ps_set (i := 8) nd rfl (Or.inl rfl) (pe_has h_w_deed hr (by rfl) (pa_cons (pv 0) (pa_cons (pe_callB (k_len (K := K) rfl) (by rfl) T.len PySem.boot_len (pa_cons (pv 1) pa_nil)) pa_nil))))
    (pss_cons (ps_set (i := 9) nd rfl (Or.inl rfl) (pe_and (pe_cmpR op_eq (pe_ix (k_ix (K := K) rfl) (pv 8) pe_int (fun _ _ => rfl)) pe_str (nomark _)) (pe_one (pe_cmpR (k_neD (K := K) rfl hr.units) (pe_ix (k_ix (K := K) rfl) (pv 8) pe_int (fun _ _ => rfl)) (pe_tup pa_nil) (nomark _)))))
    (pss_cons (ps_if (PW.pt (pw_or (PW.pt (pw_and (pt_cmpR op_eq (pe_ix (k_ix (K := K) rfl) (pv 8) pe_int (fun _ _ => rfl)) pe_str (nomark _)) (pw_and1 (pt_cmpR op_eq (pv 6) pe_int (nomark _))))) (pw_or1 (PW.pt (pw_and (pt_val (pv 9)) (pw_and1 (pt_cmpR op_eq (pv 4) pe_int (nomark _)))))))) (pss_one (ps_set (i := 8) nd rfl (Or.inl rfl) (pe_tup (pa_cons pe_str (pa_cons (pe_ix (k_ix (K := K) rfl) (pv 8) pe_int (fun _ _ => rfl)) (pa_cons (pe_tup (pa_cons pe_int (pa_cons pe_int pa_nil))) pa_nil)))))) pss_nil)
    (pss_cons (ps_set (i := 6) nd rfl (Or.inl rfl) (pe_op op_add (pv 6) (pe_callTy call_int1 (by rfl) T.int (by decide +kernel) (pa_cons (pe_cmpR op_eq (pe_ix (k_ix (K := K) rfl) (pv 8) pe_int (fun _ _ => rfl)) pe_str (nomark _)) pa_nil))))
    (pss_cons (ps_set (i := 4) nd rfl (Or.inl rfl) (pe_op op_add (pv 4) (pe_callTy call_int1 (by rfl) T.int (by decide +kernel) (pa_cons (pe_and (pe_cmpR op_eq (pe_ix (k_ix (K := K) rfl) (pv 8) pe_int (fun _ _ => rfl)) pe_str (nomark _)) (pe_one (pe_cmpR (k_neD (K := K) rfl hr.units) (pe_ix (k_ix (K := K) rfl) (pv 8) pe_int (fun _ _ => rfl)) (pe_tup pa_nil) (nomark _)))) pa_nil))))
    (pss_one (ps_expr (k_app (K := K) rfl (pv 3) (pv 8))))))))))
    (pss_one (ps_ret (pe_callTy (k_tuple (K := K) rfl) (by rfl) T.tuple (by decide +kernel) (pa_cons (pv 3) pa_nil)))))))), ?_⟩
  rintro ds p c Post ⟨n, cl, rfl, rfl, hn, okc, rfl⟩ ps σ D H0 s rt nx
  have h1 := okc.lo
  have h8 := okc.hi
  refine q_own (pre := [(p, .deck n)]) (post := []) s fun pf σ1 H1 s1 => ?_
  have s1' : S ps H0 [(p, .deck n), (pf, .lst [])] H1 σ1 [some (.adr p), some (cellarD cl), some (.int 24), some (.adr pf), none, none, none, none, none, none] := s1
  refine q_set (d := .int ((cntF cl : Nat) : Int)) (ev_is (ev_cb (ea_cons (ev_lc cl fillD (fun f => !f.isEmpty) fillD (fun f => [some (.adr p), some (cellarD cl), some (.int 24), some (.adr pf), none, some (fillD f), none, none, none, none]) (ei_tup (ev_var (i := 1) rfl)) (js := [5]) (by simp) (fun f _ => tg_name) (fun f hf => et_T (ev_op (ev_var (i := 5) rfl) (ev_tup ea_nil (Nat.le_of_ble_eq_true rfl)) (ne_nil (okc.all f hf)))) (fun f _ _ => (ev_var (i := 5) rfl)) (by omega)) ea_nil) cd_lenl) (by rw [List.length_map]; rfl)) s1' fun σ2 H2 s2 => ?_
  refine q_set ev_int s2 fun σ3 H3 s3 => ?_
  refine mq_forR (pre := []) (post := [(pf, .lst [])]) (js := [7]) (Post := fun k c' => k ≤ 24 ∧ c' = .deck (n + 1)) (fun x ρ => ρ.set 7 (some (.int (x : Int)))) (fun k i os ρ => k ≤ 24 ∧ ∃ (st : List Deed) (e7 e8 e9 : Option Dt), st.length = i ∧ (∀ x ∈ st, DeedOk cl.length x) ∧ cntF cl + cntA st ≤ 10 ∧ os = [(p, .deck (n + 1 + 80 * i)), (pf, .lst (st.map deedD))] ∧ ρ = [some (.adr p), some (cellarD cl), some (.int 24), some (.adr pf), some (.int ((cntF cl + cntA st : Nat) : Int)), none, some (.int ((cntD st : Nat) : Int)), e7, e8, e9]) (ema_cons (em_draw (Post := fun d c' => ∃ k : Nat, d = .int (k : Int) ∧ k ≤ 24 ∧ c' = .deck (n + 1)) (ev_var (i := 0) rfl) (ev_op (ev_var (i := 2) rfl) ev_int od_add) (by omega) (by decide) (by decide +kernel) fun x h1 h2 => ?_) fun d c1 ⟨k, hd, hk, hc⟩ => ?_) (fun x ρ' => tg_name) s3 (fun k c' ⟨hk, hc⟩ => ⟨hk, [], none, none, none, rfl, (fun _ h => nomatch h), by have := cntF_le cl; show cntF cl + 0 ≤ 10; omega, by rw [hc]; rfl, rfl⟩) ?_ ?_
  · obtain ⟨xn, rfl⟩ := nat_of h1
    exact ⟨xn, rfl, by omega, rfl⟩
  · subst hd
    subst hc
    exact ema_nil ⟨k, by omega, rfl, hk, rfl⟩
  · rintro k H4 e l i os' ρ' H' σ' hi ⟨hk, st, e7, e8, e9, hsl, hst, hcnt, rfl, rfl⟩ s4 D' hrt hnx
    refine mq_set (pre := []) (post := [(pf, .lst (st.map deedD))]) (Post := fun d c' => ∃ x, d = deedD x ∧ DeedOk cl.length x ∧ c' = .deck (n + 1 + 80 * i + 80)) (em_call (ema_pure (ds := [.adr p, .int (cl.length : Int)]) (ea_cons (ev_var (i := 0) rfl) (ea_cons (ev_is (ev_cb (ea_cons (ev_var (i := 1) rfl) ea_nil) cd_lent) (by rw [List.length_map])) ea_nil)) ⟨_, ⟨_, cl.length, rfl, rfl, by omega, h1, h8, rfl⟩, fun _ _ h => h⟩)) s4 fun σ5 H5 d c' ⟨x, hd, hx, hc⟩ s5 => ?_
    subst hd
    subst hc
    have s5' : S ps H4 [(p, .deck (n + 1 + 80 * i + 80)), (pf, .lst (st.map deedD))] H5 σ5 [some (.adr p), some (cellarD cl), some (.int 24), some (.adr pf), some (.int ((cntF cl + cntA st : Nat) : Int)), none, some (.int ((cntD st : Nat) : Int)), some (.int (i : Int)), some (deedD x), e9] := s5
    refine q_set (ev_adds (n := cl.length) rfl hx) s5' fun σ6 H6 s6 => ?_
    have s6' : S ps H4 [(p, .deck (n + 1 + 80 * i + 80)), (pf, .lst (st.map deedD))] H6 σ6 [some (.adr p), some (cellarD cl), some (.int 24), some (.adr pf), some (.int ((cntF cl + cntA st : Nat) : Int)), none, some (.int ((cntD st : Nat) : Int)), some (.int (i : Int)), some (deedD x), some (.bl x.adds)] := s6
    refine j_if (fun σ' H' => ∃ y, DeedOk cl.length y ∧ (y.adds = true → cntF cl + cntA st < 10) ∧ S ps H4 [(p, .deck (n + 1 + 80 * i + 80)), (pf, .lst (st.map deedD))] H' σ' [some (.adr p), some (cellarD cl), some (.int 24), some (.adr pf), some (.int ((cntF cl + cntA st : Nat) : Int)), none, some (.int ((cntD st : Nat) : Int)), some (.int (i : Int)), some (deedD y), some (.bl x.adds)]) (et_or (et_and (et_T (ev_draws rfl)) fun _ => (et_T (ev_op (ev_var (i := 6) rfl) ev_int (by first | exact od_eqI | exact od_eqS | exact od_eqB)))) fun _ => et_and (et_B (ev_var (i := 9) rfl)) fun _ => (et_T (ev_op (ev_var (i := 4) rfl) ev_int (by first | exact od_eqI | exact od_eqS | exact od_eqB)))) s6' (fun hb H7 s7 D'' hrt' hnx' => ?_) (fun hb H7 s7 D'' hrt' hnx' => ?_) ?_
    · refine s_set (d := deedD (.keep x.place 1 1)) (ev_tup (ea_cons ev_str (ea_cons (ev_place rfl) (ea_cons (ev_tup (ea_cons ev_int (ea_cons ev_int ea_nil)) (Nat.le_of_ble_eq_true rfl)) ea_nil))) (Nat.le_of_ble_eq_true rfl)) s7 fun σ8 H8 s8 => ?_
      exact hnx' _ _ ⟨.keep x.place 1 1, ⟨place_lt hx, ⟨by decide, by decide⟩, by decide, by decide⟩, (fun h => nomatch h), s8⟩
    · refine hnx' _ _ ⟨x, hx, fun hadd => ?_, s7⟩
      rw [Bool.or_eq_false_iff] at hb
      have h2 := hb.2
      rw [hadd, Bool.true_and, decide_eq_false_iff_not] at h2
      omega
    · rintro σ8 H8 ⟨y, hy, hlt, s8⟩
      refine q_set (d := .int ((cntD (st ++ [y]) : Nat) : Int)) (ev_is (ev_op (ev_var (i := 6) rfl) (ev_cb (ea_cons (ev_draws (i := 8) rfl) ea_nil) cd_intB) od_add) (by rw [cntD_add]; cases y.draws <;> simp)) s8 fun σ9 H9 s9 => ?_
      refine q_set (d := .int ((cntF cl + cntA (st ++ [y]) : Nat) : Int)) (ev_is (ev_op (ev_var (i := 4) rfl) (ev_cb (ea_cons (ev_adds (n := cl.length) (i := 8) (x := y) rfl hy) ea_nil) cd_intB) od_add) (by rw [cntA_add]; cases y.adds <;> simp <;> omega)) s9 fun σ10 H10 s10 => ?_
      refine s_app (pre := [(p, _)]) (post := []) (p := pf) (d := deedD y) s10 (ev_var (i := 3) rfl) (ev_var (i := 8) rfl) (by rw [List.length_map]; omega) fun H11 s11 => ?_
      refine hnx _ _ _ _ ⟨hk, st ++ [y], _, _, _, by rw [List.length_append, hsl]; rfl, fun z hz => ?_, ?_, ?_, rfl⟩ s11
      · rcases List.mem_append.mp hz with q | q
        · exact hst z q
        · rw [List.mem_singleton] at q; subst q; exact hy
      · rw [cntA_add]
        cases hya : y.adds with
        | true => have := hlt hya; simp; omega
        | false => simpa using hcnt
      · rw [List.map_append]
        show [(p, Oc.deck (n + 1 + 80 * i + 80)), _] = _
        rw [show n + 1 + 80 * (i + 1) = n + 1 + 80 * i + 80 by omega]
        rfl
  · rintro k os' ρ' H' σ' ⟨hk, st, e7, e8, e9, hsl, hst, hcnt, rfl, rfl⟩ s4
    have s5 := S.freeze (pre := [(p, _)]) (post := []) (i := 3) s4 rfl
    have s6 := S.less (pre := []) (post := []) (m := n + 2000) s5 (by omega)
    exact m_retP (pre := []) (post := []) (d := storyD st) (ev_cb (ea_cons (ev_var (i := 3) rfl) ea_nil) cd_tuple) s6 rt ⟨st, rfl, ⟨okc, ⟨by omega, hst⟩, by rw [every_cnt]; omega⟩, rfl⟩
theorem sc_w_parting : FnScope ["_law_deck_here", "_law_many", "_law_cellar_here", "_law_cask", "_law_found", "_law_turn", "_law_lot"] ["_law_deck_here"] (defScope s_w_parting) := ⟨rfl, rfl, rfl, by decide +kernel, rfl, by decide +kernel, by decide +kernel⟩
theorem has_w_parting (T : Bt mg) (D : Dfn K mg "_law_parting" s_w_parting) (h_w_draw : Has P w K mg base k "_law_draw" ["_law_deck_here", "_law_bound"] (spO F_w_draw)) : Has P w K mg base (k + 1) "_law_parting" ["_law_deck_here"] (spO F_w_parting) := by
  have nd := (sc_w_parting).nd
  refine D.hasM sc_w_parting (fun _ _ _ _ _ _ us hl => match us, hl with | [_], _ => rfl) ?_ (fun f cdv A outer s H E hr => ?_)
  · intro ds p c Post h
    exact len_w_parting h
  have hu := hu_of hr
  refine ⟨_, (pss_cons (ps_set (i := 1) nd rfl (Or.inl rfl) (pe_op op_add pe_int (pe_has h_w_draw hr (by rfl) (pa_cons (pv 0) (pa_cons pe_int pa_nil)))))
    (pss_cons (ps_set (i := 2) nd rfl (Or.inl rfl) (pe_callTy (k_tuple (K := K) rfl) (by rfl) T.tuple (by decide +kernel) (pa_cons (pe_op op_cat (pe_lc (own := [("_law_cask", 3)]) (g := (gName 3)) (tt := tYes) rfl nd (pi_range1 (by rfl) T.range (pa_cons (pv 1) pa_nil)) (blkOk_by (N := ["_law_deck_here", "_law_many", "_law_cellar_here", "_law_cask", "_law_found", "_law_turn", "_law_lot"]) (sc := defScope s_w_parting) (by decide +kernel)) (fun _ _ _ _ _ => (pg_name (i := 3) nd rfl (Or.inl rfl))) (fun _ _ _ _ _ => pts_nil) (fun _ _ _ _ _ => (pe_tup (pa_cons (pe_tup (pa_cons pe_str (pa_cons (pe_tup (pa_cons (pe_op op_add pe_int (pv 3)) (pa_cons pe_int pa_nil))) pa_nil))) pa_nil)))) (pe_lst (pa_cons (pe_tup pa_nil) pa_nil))) pa_nil)))
    (pss_cons (ps_set (i := 4) nd rfl (Or.inl rfl) (pe_lst pa_nil))
    (pss_cons (ps_for PassesOwn.never rfl (pi_range1 (by rfl) T.range (pa_cons (pe_op op_add pe_int (pe_has h_w_draw hr (by rfl) (pa_cons (pv 0) (pa_cons pe_int pa_nil)))) pa_nil)) (pg_name (i := 5) nd rfl (Or.inl rfl)) (pss_cons (ps_for PassesOwn.never rfl (k_piL (K := K) rfl (pe_callB (k_sortedSet (w := w) rfl rfl) (by rfl) T.sorted (by decide +kernel) (pa_cons (pe_callTy (k_setOfLZ (K := K) (w := w) rfl rfl rfl) (by rfl) T.set (by decide +kernel) (pa_cons (pe_lst (pa_cons (pe_has h_w_draw hr (by rfl) (pa_cons (pv 0) (pa_cons (pv 1) pa_nil))) (pa_cons (pe_has h_w_draw hr (by rfl) (pa_cons (pv 0) (pa_cons (pv 1) pa_nil))) pa_nil))) pa_nil)) pa_nil))) (pg_name (i := 6) nd rfl (Or.inl rfl)) (pss_one (ps_expr (k_app (K := K) rfl (pv 4) (pe_tup (pa_cons pe_str (pa_cons (pv 6) (pa_cons (pv 1) (pa_cons (pe_tup (pa_cons pe_int (pa_cons pe_int pa_nil))) pa_nil)))))))))
    (pss_one (ps_expr (k_app (K := K) rfl (pv 4) (pe_tup (pa_cons pe_str (pa_cons (pv 1) (pa_cons (pe_tup (pa_cons pe_int (pa_cons pe_int pa_nil))) pa_nil)))))))))
    (pss_one (ps_ret (pe_tup (pa_cons (pv 2) (pa_cons (pe_callTy (k_tuple (K := K) rfl) (by rfl) T.tuple (by decide +kernel) (pa_cons (pv 4) pa_nil)) pa_nil))))))))), ?_⟩
  rintro ds p c Post ⟨n, rfl, rfl, hn, rfl⟩ ps σ D H0 s rt nx
  refine mq_set (pre := []) (post := []) (Post := fun d c' => ∃ m : Nat, d = .int (m : Int) ∧ 4 ≤ m ∧ m ≤ 6 ∧ c' = .deck (n + 1)) (em_op (P1 := fun d c' => d = .int 4 ∧ c' = .deck n) (em_pure ev_int ⟨rfl, rfl⟩) fun d c1 ⟨hd, hc⟩ => ?_) s fun σ1 H1 d c' ⟨m, hd, h4, h6, hc⟩ s1 => ?_
  · subst hd
    subst hc
    refine em_draw (ev_var (i := 0) rfl) ev_int (by omega) (by decide) (by decide +kernel) fun x h1 h2 => ?_
    obtain ⟨xn, rfl⟩ := nat_of h1
    exact ⟨_, od_add, xn + 4, by congr 1; omega, by omega, by omega, rfl⟩
  subst hd
  subst hc
  obtain ⟨vok, vlen, vcnt⟩ := vats_ok h4 h6
  have s1' : S ps H0 ([] ++ (p, .deck (n + 1)) :: []) H1 σ1 [some (.adr p), some (.int (m : Int)), none, none, none, none, none] := s1
  refine q_set (d := cellarD (vats m)) (ev_is (ev_cb (ea_cons (ev_op (ev_lc0 (List.range m) (fun (i : Nat) => .int (0 + (i : Int))) (fun i => fillD (vatF i)) (fun i => [some (.adr p), some (.int (m : Int)), none, some (.int (i : Int)), none, none, none]) (ei_rng1 (ea_cons (ev_var (i := 1) rfl) ea_nil) (by omega)) (js := [3]) (by simp) (fun i _ => (show _ = _ from congrArg Dt.int (Int.zero_add (i : Int))) ▸ tg_name) (fun i _ => (ev_tup (ea_cons (ev_tup (ea_cons ev_str (ea_cons (ev_tup (ea_cons (ev_op ev_int (ev_var (i := 3) rfl) od_add) (ea_cons ev_int ea_nil)) (Nat.le_of_ble_eq_true rfl)) ea_nil)) (Nat.le_of_ble_eq_true rfl)) ea_nil) (Nat.le_of_ble_eq_true rfl))) (by rw [List.length_range]; omega)) (ev_lst (ea_cons (ev_tup ea_nil (Nat.le_of_ble_eq_true rfl)) ea_nil) (Nat.le_of_ble_eq_true rfl)) (od_cat (by rw [List.length_map, List.length_range]; show m + 1 ≤ 100000; omega))) ea_nil) cd_tuple) (by rw [cellarD, vats, List.map_append, List.map_map]; rfl)) s1' fun σ2 H2 s2 => ?_
  refine q_own (pre := [(p, .deck (n + 1))]) (post := []) s2 fun pf σ3 H3 s3 => ?_
  refine mq_forR (pre := []) (post := [(pf, .lst [])]) (js := [5]) (Post := fun k c' => k ≤ 8 ∧ c' = .deck (n + 2)) (fun x ρ => ρ.set 5 (some (.int (x : Int)))) (fun k i os ρ => k ≤ 8 ∧ ∃ (st : List Deed) (e5 e6 : Option Dt), st.length ≤ 3 * i ∧ (∀ x ∈ st, DeedOk (m + 1) x) ∧ cntA st = 0 ∧ os = [(p, .deck (n + 2 + 2 * i)), (pf, .lst (st.map deedD))] ∧ ρ = [some (.adr p), some (.int (m : Int)), some (cellarD (vats m)), none, some (.adr pf), e5, e6]) (ema_cons (em_op (P1 := fun d c' => d = .int 2 ∧ c' = .deck (n + 1)) (Post := fun d c' => ∃ k : Nat, d = .int (k : Int) ∧ k ≤ 8 ∧ c' = .deck (n + 2)) (em_pure ev_int ⟨rfl, rfl⟩) fun d c1 ⟨hd, hc⟩ => ?_) fun d c1 ⟨k, hd, hk, hc⟩ => ?_) (fun x ρ' => tg_name) s3 (fun k c' ⟨hk, hc⟩ => ⟨hk, [], none, none, Nat.zero_le _, (fun _ h => nomatch h), rfl, by rw [hc]; rfl, rfl⟩) ?_ ?_
  · subst hd
    subst hc
    refine em_draw (ev_var (i := 0) rfl) ev_int (by omega) (by decide) (by decide +kernel) fun x h1 h2 => ?_
    obtain ⟨xn, rfl⟩ := nat_of h1
    exact ⟨_, od_add, xn + 2, by congr 1; omega, by omega, rfl⟩
  · subst hd
    subst hc
    exact ema_nil ⟨k, by omega, rfl, hk, rfl⟩
  · rintro k H4 e l i os' ρ' H' σ' hi ⟨hk, st, e5, e6, hsl, hst, hcnt, rfl, rfl⟩ s4 D' hrt hnx
    refine mq_forL (pre := []) (post := [(pf, .lst (st.map deedD))]) (js := [6]) (β := List Int) (fun ns => srt ns) Dt.int (fun ns c' => ns.length = 2 ∧ (∀ x ∈ ns, 0 ≤ x ∧ x < (m : Int)) ∧ c' = .deck (n + 2 + 2 * i + 2)) (fun x ρ => ρ.set 6 (some (.int x))) (fun ns j os ρ => ns.length = 2 ∧ (∀ x ∈ ns, 0 ≤ x ∧ x < (m : Int)) ∧ ∃ (st' : List Deed) (e6 : Option Dt), st'.length ≤ 3 * i + j ∧ (∀ x ∈ st', DeedOk (m + 1) x) ∧ cntA st' = 0 ∧ os = [(p, .deck (n + 2 + 2 * i + 2)), (pf, .lst (st'.map deedD))] ∧ ρ = [some (.adr p), some (.int (m : Int)), some (cellarD (vats m)), none, some (.adr pf), some (.int (i : Int)), e6])
      (em_sortset (em_lst (ema_cons (em_draw (Post := fun d c' => ∃ x, d = .int x ∧ 0 ≤ x ∧ x < (m : Int) ∧ c' = .deck (n + 2 + 2 * i + 1)) (ev_var (i := 0) rfl) (ev_var (i := 1) rfl) (by omega) (by omega) (by omega) fun x h1 h2 => ⟨x, rfl, h1, h2, rfl⟩) fun d1 c1 ⟨x, hd1, hx1, hx2, hc1⟩ => ?_))) (fun x ρ' => tg_name) s4 (fun ns c' ⟨h1, h2, h3⟩ => ⟨h1, h2, st, e6, by omega, hst, hcnt, by rw [h3]; rfl, rfl⟩) ?_ ?_
    · subst hd1
      subst hc1
      refine ema_cons (em_draw (Post := fun d c' => ∃ y, d = .int y ∧ 0 ≤ y ∧ y < (m : Int) ∧ c' = .deck (n + 2 + 2 * i + 2)) (ev_var (i := 0) rfl) (ev_var (i := 1) rfl) (by omega) (by omega) (by omega) fun y h1 h2 => ⟨y, rfl, h1, h2, rfl⟩) fun d2 c2 ⟨y, hd2, hy1, hy2, hc2⟩ => ?_
      subst hd2
      subst hc2
      refine ema_nil ⟨Nat.le_of_ble_eq_true rfl, [x, y], rfl, Nat.le_of_ble_eq_true rfl, ?_, [x, y], rfl, rfl, ?_, rfl⟩
      · have := srt_len [x, y]
        simp only [List.length_cons, List.length_nil] at this
        omega
      · intro z hz
        simp only [List.mem_cons, List.not_mem_nil, or_false] at hz
        rcases hz with rfl | rfl
        · exact ⟨hx1, hx2⟩
        · exact ⟨hy1, hy2⟩
    · rintro ns H5 e5' l5 j x os' ρ' H' σ' hx ⟨h1, h2, st', e6', hsl', hst', hcnt', rfl, rfl⟩ s5 D'' hrt' hnx'
      have hxm : x ∈ ns := mem_srt.mp (List.mem_of_getElem? hx)
      obtain ⟨hx0, hx1⟩ := h2 x hxm
      obtain ⟨xn, rfl⟩ := nat_of hx0
      refine s_app (pre := [(p, _)]) (post := []) (p := pf) (d := deedD (.move xn m 1 2)) s5 (ev_var (i := 4) rfl) (ev_tup (ea_cons ev_str (ea_cons (ev_var (i := 6) rfl) (ea_cons (ev_var (i := 1) rfl) (ea_cons (ev_tup (ea_cons ev_int (ea_cons ev_int ea_nil)) (Nat.le_of_ble_eq_true rfl)) ea_nil)))) (Nat.le_of_ble_eq_true rfl)) (by
        have hjl := (List.getElem?_eq_some_iff.mp hx).1
        have := srt_len ns
        rw [List.length_map]; omega) fun H6 s6 => ?_
      refine hnx' _ _ _ _ ⟨h1, h2, st' ++ [.move xn m 1 2], _, by rw [List.length_append]; show st'.length + 1 ≤ _; omega, fun z hz => ?_, by rw [cntA_add, hcnt']; rfl, by rw [List.map_append]; rfl, rfl⟩ s6
      rcases List.mem_append.mp hz with q | q
      · exact hst' z q
      · rw [List.mem_singleton] at q
        subst q
        exact ⟨by omega, by omega, by omega, ⟨by decide, by decide⟩, by decide, by decide⟩
    · rintro ns os' ρ' H' σ' ⟨h1, h2, st', e6', hsl', hst', hcnt', rfl, rfl⟩ s5
      have hs2 := srt_len ns
      refine s_app (pre := [(p, _)]) (post := []) (p := pf) (d := deedD (.draw m 1 1)) s5 (ev_var (i := 4) rfl) (ev_tup (ea_cons ev_str (ea_cons (ev_var (i := 1) rfl) (ea_cons (ev_tup (ea_cons ev_int (ea_cons ev_int ea_nil)) (Nat.le_of_ble_eq_true rfl)) ea_nil))) (Nat.le_of_ble_eq_true rfl)) (by rw [List.length_map]; omega) fun H6 s6 => ?_
      refine hnx _ _ _ _ ⟨hk, st' ++ [.draw m 1 1], _, _, by rw [List.length_append]; show st'.length + 1 ≤ _; omega, fun z hz => ?_, by rw [cntA_add, hcnt']; rfl, ?_, rfl⟩ s6
      · rcases List.mem_append.mp hz with q | q
        · exact hst' z q
        · rw [List.mem_singleton] at q
          subst q
          exact ⟨by omega, ⟨by decide, by decide⟩, by decide, by decide⟩
      · rw [List.map_append]
        rw [show n + 2 + 2 * (i + 1) = n + 2 + 2 * i + 2 by omega]
        rfl
  · rintro k os' ρ' H' σ' ⟨hk, st, e5, e6, hsl, hst, hcnt, rfl, rfl⟩ s4
    have s5 := S.freeze (pre := [(p, _)]) (post := []) (i := 4) s4 rfl
    have s6 := S.less (pre := []) (post := []) (m := n + 30) s5 (by omega)
    exact m_retP (pre := []) (post := []) (d := .tup [cellarD (vats m), storyD st]) (ev_tup (ea_cons (ev_var (i := 2) rfl) (ea_cons (ev_cb (ea_cons (ev_var (i := 4) rfl) ea_nil) cd_tuple) ea_nil)) (Nat.le_of_ble_eq_true rfl)) s6 rt ⟨vats m, st, rfl, ⟨vok, ⟨by omega, by rw [vlen]; exact hst⟩, by rw [every_cnt, hcnt]; omega⟩, rfl⟩
end
end Ck
namespace Ck
open PySem PySem.Spec L2
open PyProof.Rows hiding St

theorem int_pick {K : PySem.W.Frag} {ns : List Int} {x : Int} (h0 : 0 ≤ x) (h1 : x < (ns.length : Int)) : ∃ z ∈ ns, OpD (rIx K) (intsD ns) (.int x) (.int z) := by
  obtain ⟨d, hd, ho⟩ := od_pick (K := K) (ds := ns.map Dt.int) h0 (by rw [List.length_map]; exact h1)
  obtain ⟨z, hz, e⟩ := List.mem_map.mp hd
  subst e
  exact ⟨z, hz, ho⟩

section
variable {P : Program} {w : World} {K : PySem.W.Frag} {mg : Str → Option Value} {base : Heap} {k : Nat}

theorem sc_w_told : FnScope ["_law_deck_here", "_law_known", "_law_carries", "_law_lot", "_law_draws", "_law_found", "_law_turn", "_law_index"] ["_law_deck_here", "_law_known", "_law_carries"] (defScope s_w_told) := ⟨rfl, rfl, rfl, by decide +kernel, rfl, by decide +kernel, by decide +kernel⟩
theorem has_w_told (T : Bt mg) (D : Dfn K mg "_law_told" s_w_told) (h_w_draw : Has P w K mg base k "_law_draw" ["_law_deck_here", "_law_bound"] (spO F_w_draw)) : Has P w K mg base (k + 1) "_law_told" ["_law_deck_here", "_law_known", "_law_carries"] (spO F_w_told) := by
  have nd := (sc_w_told).nd
  refine D.hasM sc_w_told (fun _ _ _ _ _ _ us hl => match us, hl with | [_, _, _], _ => rfl) ?_ (fun f cdv A outer s H E hr => ?_)
  · intro ds p c Post h
    exact len_w_told h
  have hu := hu_of hr
  refine ⟨_, (pss_cons (ps_set (i := 3) nd rfl (Or.inl rfl) (pe_ifExp (pt_cmpR (k_neD (K := K) rfl hr.units) (pv 1) (pe_lst pa_nil) (nomark _)) (pe_ix (k_ix (K := K) rfl) (pv 1) (pe_has h_w_draw hr (by rfl) (pa_cons (pv 0) (pa_cons (pe_callB (k_len (K := K) rfl) (by rfl) T.len PySem.boot_len (pa_cons (pv 1) pa_nil)) pa_nil))) (fun _ _ => rfl)) pe_int))
    (pss_cons (ps_set (i := 4) nd rfl (Or.inl rfl) (pe_callB (call_sortedDI rfl) (by rfl) T.sorted (by decide +kernel) (pa_cons (pv 2) pa_nil)))
    (pss_cons (ps_set (i := 5) nd rfl (Or.inl rfl) (pe_lst pa_nil))
    (pss_cons (ps_for PassesOwn.never rfl (pi_range1 (by rfl) T.range (pa_cons (pe_op op_mul (pe_has h_w_draw hr (by rfl) (pa_cons (pv 0) (pa_cons pe_int pa_nil))) (pe_callTy call_int1 (by rfl) T.int (by decide +kernel) (pa_cons (pe_cmpR (k_neD (K := K) rfl hr.units) (pv 4) (pe_lst pa_nil) (nomark _)) pa_nil))) pa_nil)) (pg_name (i := 6) nd rfl (Or.inl rfl)) (pss_cons (ps_set (i := 7) nd rfl (Or.inl rfl) (pe_ix (k_ix (K := K) rfl) (pv 4) (pe_has h_w_draw hr (by rfl) (pa_cons (pv 0) (pa_cons (pe_callB (k_len (K := K) rfl) (by rfl) T.len PySem.boot_len (pa_cons (pv 4) pa_nil)) pa_nil))) (fun _ _ => rfl)))
    (pss_one (ps_expr (k_app (K := K) rfl (pv 5) (pe_tup (pa_cons (pv 7) (pa_cons (pe_cmpR op_ne (pe_cmpR (k_in (K := K) rfl) (pv 3) (pe_dget hu (pv 2) (pv 7) (fun _ _ => rfl)) (by rfl)) (pe_cmpR op_eq (pe_has h_w_draw hr (by rfl) (pa_cons (pv 0) (pa_cons pe_int pa_nil))) pe_int (nomark _)) (nomark _)) pa_nil))))))))
    (pss_one (ps_ret (pe_callTy (k_tuple (K := K) rfl) (by rfl) T.tuple (by decide +kernel) (pa_cons (pv 5) pa_nil)))))))), ?_⟩
  rintro ds p c Post ⟨n, known, car, rfl, rfl, hn, hk, hcl, hup, rfl⟩ ps σ D H0 s rt nx
  refine mq_set (pre := []) (post := []) (Post := fun d c' => ∃ lot, d = .int lot ∧ c' = .deck (n + 1)) (em_less (P1 := fun d c' => ∃ lot, d = .int lot ∧ ∃ m, c' = .deck m ∧ m ≤ n + 1) (em_if (b := !known.isEmpty) (et_T (ev_op (ev_var (i := 1) rfl) (ev_lst ea_nil (Nat.le_of_ble_eq_true rfl)) (ne_nilI (ns := known)))) (fun hb => ?_) (fun hb => ?_)) fun d c' ⟨lot, h1, m, h2, h3⟩ => ⟨m, n + 1, h2, h3, lot, h1, rfl⟩) s fun σ1 H1 d c' ⟨lot, hd, hc⟩ s1 => ?_
  · have hne : 0 < known.length := by
      cases known with
      | nil => cases hb
      | cons x xs => simp
    refine em_op (P1 := fun d c' => d = intsD known ∧ c' = .deck n) (em_pure (ev_var (i := 1) rfl) ⟨rfl, rfl⟩) fun d c1 ⟨hd, hc⟩ => ?_
    subst hd
    subst hc
    refine em_draw (b := (known.length : Int)) (ev_var (i := 0) rfl) (ev_is (ev_cb (ea_cons (ev_var (i := 1) rfl) ea_nil) cd_lenl) (by rw [List.length_map])) (by omega) (by omega) (by omega) fun x h1 h2 => ?_
    obtain ⟨z, hz, ho⟩ := int_pick (K := K) h1 h2
    exact ⟨_, ho, z, rfl, n + 1, rfl, by omega⟩
  · exact em_pure ev_int ⟨99, rfl, n, rfl, by omega⟩
  subst hd
  subst hc
  generalize hks : (car.map fun q => (q.1 : Int)) = ks at *
  have hksl : ks.length = car.length := by rw [← hks, List.length_map]
  have hkm : ∀ z ∈ ks, ∃ i : Nat, z = (i : Int) ∧ i ∈ car.map (·.1) := fun z hz => by
    rw [← hks] at hz
    obtain ⟨q, hq, e⟩ := List.mem_map.mp hz
    exact ⟨q.1, e.symm, List.mem_map.mpr ⟨q, hq, rfl⟩⟩
  have s1' : S ps H0 [(p, .deck (n + 1))] H1 σ1 [some (.adr p), some (intsD known), some (carD car), some (.int lot), none, none, none, none] := s1
  refine q_set (d := intsD ks) (ev_cb (ea_cons (ev_var (i := 2) rfl) ea_nil) (cd_sortedDI (kvs := carK car) (ks := ks) (by rw [← hks, List.map_map, List.map_map]; rfl) (by omega) (List.Perm.refl _) (by rw [← hks]; rw [List.pairwise_map] at hup ⊢; exact hup.imp fun {a b} h => by omega))) s1' fun σ2 H2 s2 => ?_
  refine q_own (pre := [(p, .deck (n + 1))]) (post := []) s2 fun pf σ3 H3 s3 => ?_
  refine mq_forR (pre := []) (post := [(pf, .lst [])]) (js := [6]) (Post := fun k c' => k ≤ 2 ∧ (0 < k → 0 < ks.length) ∧ c' = .deck (n + 2)) (fun x ρ => ρ.set 6 (some (.int (x : Int)))) (fun k i os ρ => k ≤ 2 ∧ (0 < k → 0 < ks.length) ∧ ∃ (t : List (Nat × Bool)) (e6 e7 : Option Dt), t.length = i ∧ (∀ q ∈ t, q.1 ∈ car.map (·.1)) ∧ os = [(p, .deck (n + 2 + 2 * i)), (pf, .lst (t.map lookD))] ∧ ρ = [some (.adr p), some (intsD known), some (carD car), some (.int lot), some (intsD ks), some (.adr pf), e6, e7]) (ema_cons (em_op (P1 := fun d c' => ∃ x : Nat, d = .int (x : Int) ∧ x ≤ 2 ∧ c' = .deck (n + 2)) (Post := fun d c' => ∃ k : Nat, d = .int (k : Int) ∧ k ≤ 2 ∧ (0 < k → 0 < ks.length) ∧ c' = .deck (n + 2)) (em_draw (ev_var (i := 0) rfl) ev_int (by omega) (by decide) (by decide +kernel) fun x h1 h2 => ?_) fun d c1 ⟨x, hd, hx, hc⟩ => ?_) fun d c1 ⟨k, hd, hk, hk0, hc⟩ => ?_) (fun x ρ' => tg_name) s3 (fun k c' ⟨hk, hk0, hc⟩ => ⟨hk, hk0, [], none, none, rfl, (fun _ h => nomatch h), by rw [hc]; rfl, rfl⟩) ?_ ?_
  · obtain ⟨xn, rfl⟩ := nat_of h1
    exact ⟨xn, rfl, by omega, rfl⟩
  · subst hd
    subst hc
    refine em_pure (ev_cb (ea_cons (ev_op (ev_var (i := 4) rfl) (ev_lst ea_nil (Nat.le_of_ble_eq_true rfl)) (ne_nilI (ns := ks))) ea_nil) cd_intB) ?_
    cases hb : ks with
    | nil => exact ⟨_, od_I (by unfold CMul; omega), 0, by simp, by omega, fun h => absurd h (by omega), rfl⟩
    | cons y ys => exact ⟨_, od_I (by unfold CMul; omega), x, by simp, hx, fun _ => by simp, rfl⟩
  · subst hd
    subst hc
    exact ema_nil ⟨k, by omega, rfl, hk, hk0, rfl⟩
  · rintro k H4 e l i os' ρ' H' σ' hi ⟨hk2, hk0, t, e6, e7, htl, htm, rfl, rfl⟩ s4 D' hrt hnx
    have hpos := hk0 (by omega)
    refine mq_set (pre := []) (post := [(pf, .lst (t.map lookD))]) (Post := fun d c' => ∃ j : Nat, d = .int (j : Int) ∧ j ∈ car.map (·.1) ∧ c' = .deck (n + 2 + 2 * i + 1)) (em_op (P1 := fun d c' => d = intsD ks ∧ c' = .deck (n + 2 + 2 * i)) (em_pure (ev_var (i := 4) rfl) ⟨rfl, rfl⟩) fun d c1 ⟨hd, hc⟩ => ?_) s4 fun σ5 H5 d c' ⟨j, hd, hj, hc⟩ s5 => ?_
    · subst hd
      subst hc
      refine em_draw (b := (ks.length : Int)) (ev_var (i := 0) rfl) (ev_is (ev_cb (ea_cons (ev_var (i := 4) rfl) ea_nil) cd_lenl) (by rw [List.length_map])) (by omega) (by omega) (by omega) fun x h1 h2 => ?_
      obtain ⟨z, hz, ho⟩ := int_pick (K := K) h1 h2
      obtain ⟨j, e, hj⟩ := hkm z hz
      subst e
      exact ⟨_, ho, j, rfl, hj, rfl⟩
    subst hd
    subst hc
    have s5' : S ps H4 [(p, .deck (n + 2 + 2 * i + 1)), (pf, .lst (t.map lookD))] H5 σ5 [some (.adr p), some (intsD known), some (carD car), some (.int lot), some (intsD ks), some (.adr pf), some (.int (i : Int)), some (.int (j : Int))] := s5
    refine m_app (Post := fun d c' => ∃ b, d = lookD (j, b) ∧ c' = .deck (n + 2 + 2 * i + 2)) s5' (ev_var (i := 5) rfl) (em_tup (ema_cons (em_pure (ev_var (i := 7) rfl) (Post := fun d c' => d = .int (j : Int) ∧ c' = .deck (n + 2 + 2 * i + 1)) ⟨rfl, rfl⟩) fun d1 c1 ⟨hd1, hc1⟩ => ?_)) (by rw [List.length_map]; omega) fun H6 d c' ⟨b, hd, hc⟩ s6 => ?_
    · subst hd1
      subst hc1
      refine ema_cons (P1 := fun d c' => ∃ b, d = .bl b ∧ c' = .deck (n + 2 + 2 * i + 2)) (em_op (P1 := fun d c' => d = .bl (decide (lot ∈ lookC car j)) ∧ c' = .deck (n + 2 + 2 * i + 1)) (em_pure (ev_op (ev_var (i := 3) rfl) (ev_dget (kvs := carK car) (k := .inl (j : Int)) (ev_var (i := 2) rfl) (ev_var (i := 7) rfl) (look_car hj)) (od_inIl (lookC car j))) ⟨rfl, rfl⟩) fun d2 c2 ⟨hd2, hc2⟩ => ?_) fun d2 c2 ⟨b, hd2, hc2⟩ => ?_
      · subst hd2
        subst hc2
        refine em_op (P1 := fun d c' => ∃ y, d = .int y ∧ c' = .deck (n + 2 + 2 * i + 2)) (em_draw (ev_var (i := 0) rfl) ev_int (by omega) (by decide) (by decide +kernel) fun y h1 h2 => ⟨y, rfl, rfl⟩) fun d3 c3 ⟨y, hd3, hc3⟩ => ?_
        subst hd3
        subst hc3
        exact em_pure ev_int ⟨_, od_eqI, _, od_neB, _, rfl, rfl⟩
      · subst hd2
        subst hc2
        exact ema_nil ⟨Nat.le_of_ble_eq_true rfl, b, rfl, rfl⟩
    · subst hd
      subst hc
      refine hnx _ _ _ _ ⟨hk2, hk0, t ++ [(j, b)], _, _, by rw [List.length_append, htl]; rfl, fun q hq => ?_, ?_, rfl⟩ s6
      · rcases List.mem_append.mp hq with z | z
        · exact htm q z
        · rw [List.mem_singleton] at z; subst z; exact hj
      · rw [List.map_append, show n + 2 + 2 * (i + 1) = n + 2 + 2 * i + 2 by omega]
        rfl
  · rintro k os' ρ' H' σ' ⟨hk2, hk0, t, e6, e7, htl, htm, rfl, rfl⟩ s4
    have s5 := S.freeze (pre := [(p, _)]) (post := []) (i := 5) s4 rfl
    have s6 := S.less (pre := []) (post := []) (m := n + 20) s5 (by omega)
    exact m_retP (pre := []) (post := []) (d := toldD t) (ev_cb (ea_cons (ev_var (i := 5) rfl) ea_nil) cd_tuple) s6 rt ⟨t, rfl, by omega, htm, rfl⟩
end
end Ck
namespace Ck
open PySem PySem.Spec L2
open PyProof.Rows hiding St

/-! ### defs that are called with no comparison or repr under way -/
structure FnG (P : Program) (w : World) (K : PySem.W.Frag) (mg : Str → Option Value) (base : Heap) (k : Nat) (f : Addr) (fd : FuncData) (ps : List Str) (sp : Sp) : Prop where
  len : ∀ vs H Q E, sp vs H Q E → vs.length = ps.length
  run : ∀ (A : Around) (outer : List Env) (s : Shared) (H : Hp) (args : Args) (us : List Value) (vs : List V) (Q : VK) (E : XK), Room k A → A.guards = some [] → Env0 P w K mg base A outer s H → BindsTo s fd args (ps.zip us) → Vals vs us → sp vs H Q E →
    codeAny (model P w) A (.call (.ref f) args) (CR CX0 outer P w H s Q E) s
theorem FnG.mono {P : Program} {w : World} {K : PySem.W.Frag} {mg : Str → Option Value} {base : Heap} {j k : Nat} {f : Addr} {fd : FuncData} {ps : List Str} {sp : Sp} (F : FnG P w K mg base j f fd ps sp) (h : j ≤ k) :
    FnG P w K mg base k f fd ps sp := ⟨F.len, fun A outer s H args us vs Q E hr => F.run A outer s H args us vs Q E (hr.mono h)⟩
section
variable {X : Cx} {k : Nat} {f : Addr} {fd : FuncData} {ps : List Str} {sp : Sp} {dvs : List V} {ds : List Value} {E : XK} {x : Str} {p pos : Pos} {e : Expr} {es : List Expr} {t : TA}
theorem run_fnG {pins : List (Addr × Obj)} {σ : St} {H : Hp} {s : Shared} {Q : VK} {us : List Value} {vs : List V} (F : FnG X.prog X.w X.K X.mg X.base k f fd ps sp) (hr : Room k X.A) (hgd : X.A.guards = some []) (hb : Binds X.K fd ps ds) (hd : Vals dvs ds) (hx : Passes CX0 X E)
    (I : Inv X pins σ H s) (r : Vals vs us) (h : sp (vs ++ dvs) H Q E) : wpAny (model X.prog X.w) X.A (call (.ref f) us) (EP X pins σ Q) X.xe s := by
  have r2 : Vals (vs ++ dvs) (us ++ ds) := r.append hd
  have hl : (us ++ ds).length = ps.length := by rw [← r2.length]; exact F.len _ _ _ _ h
  refine wpAny_call (codeAny_mono (F.run X.A X.stack s H ⟨us, []⟩ (us ++ ds) (vs ++ dvs) Q E hr hgd I.env0 (hb s us I.kIn hl) r2 h) fun r s' hq => ?_)
  cases r with
  | error e => exact hx pins σ H s e s' I hq
  | ok fl =>
    cases fl with
    | ret u => exact I.after hq
    | next => exact False.elim hq
    | brk => exact False.elim hq
    | cont => exact False.elim hq
theorem pe_callG (F : FnG X.prog X.w X.K X.mg X.base k f fd ps sp) (hr : Room k X.A) (hgd : X.A.guards = some []) (hg : Gl X x) (hm : X.mg x = some (.ref f)) (hk : PySem.W.keepIn X.K (.ref f) = true) (hb : Binds X.K fd ps ds) (hd : Vals dvs ds) (hx : Passes CX0 X E)
    (ha : PA X (e :: es) t) (hdb : (x == ("__debug__" : Str)) = false := by decide) (he : starEach (e :: es) X.env = (false, eval e X.env) :: starEach es X.env := by rfl) (hpl : (backTo pos (starEach es X.env)).any (·.1) = false := by rfl) :
    PE X (.Call (.Name x p) (e :: es) [] pos) (tCall sp dvs E t) := by
  refine ⟨fun pins s σ H Q I h => ?_⟩
  refine wpAny_Call_Name_kw (ld_glob I hg hm ?_ hdb)
  refine PySem.W.callWith_K (h₀ := X.base) I.ok.mod.kin hk (thn (ha.run pos pins s σ H _ I h) fun us s1 ⟨vs, H1, I1, r, q⟩ => ⟨I1.kIn, ?_⟩) he hpl
  exact run_fnG F hr hgd hb hd hx I1 r q
end
theorem fn_ofG {P : Program} {w : World} {K : PySem.W.Frag} {mg : Str → Option Value} {base : Heap} {k : Nat} {f : Addr} {name qual : Str} {params : Arguments} {body : List Stmt} {scope : Scope} {dV kV doc pm cdv ct oc : Value} {an od : Option Addr}
    {osl : Array (Option Value)} {N ps : List Str} {sp : Sp} (lk : K.lookup f = some ⟨oc, od, .func (PySem.W.fnOf name qual params body scope dV kV doc pm an cdv ct), osl⟩) (hcd : PySem.W.codeIn K cdv qual = true) (S : FnScope N ps scope)
    (len : ∀ vs H Q E, sp vs H Q E → vs.length = ps.length)
    (hbody : ∀ (A : Around) (outer : List Env) (s : Shared) (H : Hp) (vs : List V) (Q : VK) (E : XK), Room k (A.deeper (envOfC qual scope s.heap.objs.size f cdv)) → A.guards = some [] → sp vs H Q E →
      ∃ t, PSs (cxOf CX0 P w K mg base N qual scope f cdv A outer s H E) body t ∧ t { nx := fun _ H' => Q .non H', rt := Q } (start N vs) H) :
    FnG P w K mg base (k + 1) f (PySem.W.fnOf name qual params body scope dV kV doc pm an cdv ct) ps sp := by
  refine ⟨len, fun A outer s H args us vs Q E hr hgd e0 hb r hsp => ?_⟩
  have hl := len _ _ _ _ hsp
  have KX : K.In s.heap := e0.mod.kin.keeps fun b o e => (e0.bs b o e).1
  have lim : s.heap.NoLimit := e0.mod.nolimit.keeps fun b o e => (e0.bs b o e).1
  have hkind : ∀ y ∈ ps.zip us, scope.names.lookup y.1 = some .local ∨ (scope.names.lookup y.1 = some .cell ∧ ((cellsFrom (s.heap.objs.size + 1) scope.names []).lookup y.1).isSome = true) := fun ⟨n, v⟩ hy => by
    rcases S.par n (List.of_mem_zip hy).1 with q | q
    · exact .inl q
    · exact .inr ⟨q, PySem.W.cellsFrom_some _ _ _ (.inl q)⟩
  refine codeAny_call_function hr.depth (KX _ _ lk) rfl S.co S.gen rfl (PySem.W.codeRec_of KX hcd) (hb _ _ _ _ ?_)
  refine wpAny_newFunctionEnv_cells S.kind hkind fun env he s1 x => ?_
  subst he
  refine ⟨lim.keeps x.toInCall.keep, codeAny_func ?_⟩
  obtain ⟨t, ht, hq⟩ := hbody A outer s H vs Q E (hr.deeper _) hgd hsp
  have I : Inv (cxOf CX0 P w K mg base N qual scope f cdv A outer s H E) [] (start N vs) H s1 := inv_start S hr.hd e0 hl r x
  refine wpAny_mono (ht.run [] s1 (start N vs) H _ I hq) (fun fl s' hs => ?_) fun e s' hs => hs
  have fin : ∀ {σ' : St} {H' : Hp} {v : V} {u : Value}, Inv (cxOf CX0 P w K mg base N qual scope f cdv A outer s H E) [] σ' H' s' → RelV v u → Q v H' → CE outer P w H s Q u s' :=
    fun {σ' H' v u} J rv q => ⟨v, H', J.os, J.bare, J.base, J.hok, rv, q⟩
  cases fl with
  | ret u =>
    obtain ⟨v, σ', H', J, rv, q⟩ := hs
    exact fin J rv q
  | next =>
    obtain ⟨σ', H', J, q⟩ := hs
    exact fin (v := V.non) (u := Value.none) J rfl q
  | brk =>
    obtain ⟨_, _, _, q⟩ := hs
    exact False.elim q
  | cont =>
    obtain ⟨_, _, _, q⟩ := hs
    exact False.elim q
structure HasG (P : Program) (w : World) (K : PySem.W.Frag) (mg : Str → Option Value) (base : Heap) (k : Nat) (x : Str) (ps : List Str) (sp : Sp) : Prop where
  ex : ∃ (f : Addr) (fd : FuncData), FnG P w K mg base k f fd ps sp ∧ mg x = some (.ref f) ∧ PySem.W.keepIn K (.ref f) = true ∧ Binds K fd ps [] ∧ ∃ oc od osl, K.lookup f = some ⟨oc, od, .func fd, osl⟩
theorem pe_hasG {X : Cx} {k : Nat} {x : Str} {ps : List Str} {sp : Sp} {p pos : Pos} {e : Expr} {es : List Expr} {t : TA} (h : HasG X.prog X.w X.K X.mg X.base k x ps sp) (hr : Room k X.A) (hgd : X.A.guards = some []) (hg : Gl X x) (ha : PA X (e :: es) t)
    (hdb : (x == ("__debug__" : Str)) = false := by decide) (he : starEach (e :: es) X.env = (false, eval e X.env) :: starEach es X.env := by rfl) (hpl : (backTo pos (starEach es X.env)).any (·.1) = false := by rfl) :
    PE X (.Call (.Name x p) (e :: es) [] pos) (tCall sp [] E0 t) := by
  obtain ⟨f, fd, F, hm, hk, hb, _⟩ := h.ex
  exact pe_callG F hr hgd hg hm hk hb .nil pass0 ha hdb he hpl
theorem Fun.okG {P : Program} {w : World} {K : PySem.W.Frag} {mg : Str → Option Value} {base : Heap} {x qual : Str} {st : Stmt} {f : Addr} {fd : FuncData} {N ps : List Str} {k : Nat} {sp : Sp} (F : Fun K x qual st f fd) (S : FnScope N ps (defScope st)) (len : ∀ vs H Q E, sp vs H Q E → vs.length = ps.length)
    (hbody : ∀ (cdv : Value) (A : Around) (outer : List Env) (s : Shared) (H : Hp) (vs : List V) (Q : VK) (E : XK), Room k (A.deeper (envOfC qual (defScope st) s.heap.objs.size f cdv)) → A.guards = some [] → sp vs H Q E →
      ∃ t, PSs (cxOf CX0 P w K mg base N qual (defScope st) f cdv A outer s H E).nox (defBody st) t ∧ t { nx := fun _ H' => Q .non H', rt := Q } (start N vs) H) : FnG P w K mg base (k + 1) f fd ps sp := by
  obtain ⟨oc, od, kV, doc, pm, an, cdv, ct, osl, rfl, lk, hcd⟩ := F.ex
  refine fn_ofG lk hcd S len fun A outer s H vs Q E hr hgd hsp => ?_
  obtain ⟨t, h, q⟩ := hbody cdv A outer s H vs Q E hr hgd hsp
  exact ⟨t, h.nox, q⟩
theorem Dfn.hasG {P : Program} {w : World} {K : PySem.W.Frag} {mg : Str → Option Value} {base : Heap} {x : Str} {st : Stmt} {N ps : List Str} {k : Nat} {sp : Sp} (D : Dfn K mg x st) (S : FnScope N ps (defScope st)) (hb : BindN x st ps)
    (len : ∀ vs H Q E, sp vs H Q E → vs.length = ps.length)
    (hbody : ∀ (f : Addr) (cdv : Value) (A : Around) (outer : List Env) (s : Shared) (H : Hp) (vs : List V) (Q : VK) (E : XK), Room k (A.deeper (envOfC x (defScope st) s.heap.objs.size f cdv)) → A.guards = some [] → sp vs H Q E →
      ∃ t, PSs (cxN P w K mg base N x (defScope st) f cdv A outer s H E) (defBody st) t ∧ t { nx := fun _ H' => Q .non H', rt := Q } (L2.start N vs) H) : HasG P w K mg base (k + 1) x ps sp := by
  obtain ⟨f, fd, F, hm⟩ := D.ex
  exact ⟨f, fd, Fun.okG F S len (fun cdv A outer s H vs Q E hr hgd h => hbody f cdv A outer s H vs Q E hr hgd h), hm, F.kp, F.binds hb, by
    obtain ⟨oc, od, kV, doc, pm, an, cdv, ct, osl, rfl, lk, _⟩ := F.ex
    exact ⟨oc, od, osl, lk⟩⟩
theorem Dfn.hasPG {P : Program} {w : World} {K : PySem.W.Frag} {mg : Str → Option Value} {base : Heap} {x : Str} {st : Stmt} {N pp : List Str} {k : Nat} {F : List Dt → Dt → Prop} (D : Dfn K mg x st) (Sc : FnScope N pp (defScope st)) (hb : BindN x st pp)
    (len : ∀ ds d, F ds d → ds.length = pp.length)
    (hbody : ∀ (f : Addr) (cdv : Value) (A : Around) (outer : List Env) (s : Shared) (H : Hp) (E : XK), Room k (A.deeper (envOfC x (defScope st) s.heap.objs.size f cdv)) → A.guards = some [] →
      ∃ t, PSs (cxN P w K mg base N x (defScope st) f cdv A outer s H E) (defBody st) t ∧
        ∀ ds d, F ds d → ∀ (ps : List Addr) (σ : St) (D : Ends), S ps H [] H σ (ds.map some ++ List.replicate (N.length - ds.length) none) → Ret ps H d D → (∀ σ' H', D.nx σ' H' = D.rt .non H') → t D σ H) : HasG P w K mg base (k + 1) x pp (spP F) := by
  refine D.hasG Sc hb (fun vs H Q E h => ?_) (fun f cdv A outer s H vs Q E hr hgd h => ?_)
  · obtain ⟨ps, ds, d, l, r, hF, _⟩ := h
    rw [r.length, len ds d hF]
  · obtain ⟨ps, ds, d, l, r, hF, q⟩ := h
    obtain ⟨t, ht, hb⟩ := hbody f cdv A outer s H E hr hgd
    refine ⟨t, ht, hb ds d hF ps _ _ ⟨l, ?_, .nil, (fun p c h => by cases h), ?_⟩ (fun v H' os' σ' ρ' s' r' => ?_) (fun σ' H' => rfl)⟩
    · rw [show hid (ks []) H = H from hid_nil H]; exact .refl H
    · show Sl (hid ps (hid (ks []) H)) _ _
      rw [show hid (ks []) H = H from hid_nil H]
      exact r.start N
    · refine q v H' (s'.base.trans (hid_ex _ _)) (r'.ex ?_)
      exact hid_mono (hid_ex _ _)

/-! ### a dict that is walked: locked -/
mutual
theorem R.flat {G G' : Hp} (hl : ∀ a xs, G a = some (.lst xs) → G' a = some (.lst xs)) (ht : ∀ a xs, G a = some (.tup xs) → G' a = some (.tup xs)) : ∀ {v : V} {d : Dt}, R G v d → okD d = true → R G' v d
  | _, _, .non, _ => .non
  | _, _, .bl b, _ => .bl b
  | _, _, .int i, _ => .int i
  | _, _, .str x, _ => .str x
  | _, _, .lst h r, o => .lst (hl _ _ h) (RA.flat hl ht r (by simpa only [okD] using o))
  | _, _, .tup h r, o => .tup (ht _ _ h) (RA.flat hl ht r (by simpa only [okD] using o))
  | _, _, .dic _ _, o => by simp only [okD] at o; cases o
  | _, _, .dicu _ _, o => by simp only [okD] at o; cases o
  | _, _, .dicl _ _, o => by simp only [okD] at o; cases o
  | _, _, .adr _, o => by simp only [okD] at o; cases o
  | _, _, .ty _, o => by simp only [okD] at o; cases o
theorem RA.flat {G G' : Hp} (hl : ∀ a xs, G a = some (.lst xs) → G' a = some (.lst xs)) (ht : ∀ a xs, G a = some (.tup xs) → G' a = some (.tup xs)) : ∀ {vs : List V} {ds : List Dt}, RA G vs ds → okDL ds = true → RA G' vs ds
  | _, _, .nil, _ => .nil
  | _, _, .cons r t, o => by
    simp only [okDL, Bool.and_eq_true] at o
    exact .cons (R.flat hl ht r o.1) (RA.flat hl ht t o.2)
end
theorem RK.flat {G G' : Hp} (hl : ∀ a xs, G a = some (.lst xs) → G' a = some (.lst xs)) (ht : ∀ a xs, G a = some (.tup xs) → G' a = some (.tup xs)) : ∀ {es : List (Key × V)} {kvs : List (Key × Dt)}, RK G es kvs → (∀ kv ∈ kvs, okD kv.2 = true) → RK G' es kvs
  | _, _, .nil, _ => .nil
  | _, _, .cons r t, o => .cons (r.flat hl ht (o _ List.mem_cons_self)) (RK.flat hl ht t fun kv h => o kv (List.mem_cons_of_mem _ h))
def okR (ρ : List (Option Dt)) : Prop := ∀ (j : Nat) (d : Dt), ρ[j]? = some (some d) → okD d = true
theorem Sl.flat {G G' : Hp} (hl : ∀ a xs, G a = some (.lst xs) → G' a = some (.lst xs)) (ht : ∀ a xs, G a = some (.tup xs) → G' a = some (.tup xs)) {σ : St} {ρ : List (Option Dt)} (s : Sl G σ ρ) (o : okR ρ) : Sl G' σ ρ :=
  ⟨s.1, fun j d h => let ⟨v, a, r⟩ := s.2 j d h; ⟨v, a, r.flat hl ht (o j d h)⟩⟩
structure LkOk (ρ : List (Option Dt)) (i : Nat) (kvs : List (Key × Dt)) : Prop where
  at_ : ρ[i]? = some (some (.dicu kvs))
  rest : okR (ρ.set i none)
  val : ∀ kv ∈ kvs, okD kv.2 = true
theorem Sl.lock {ps : List Addr} {H : Hp} {σ : St} {ρ : List (Option Dt)} {i : Nat} {kvs : List (Key × Dt)} (s : Sl (hid ps H) σ ρ) (k : LkOk ρ i kvs) :
    ∃ a es, H a = some (.dK es) ∧ a ∉ ps ∧ ∀ od, Sl (hid ps (upd H a (.frz od (.dK es)))) σ (ρ.set i (some (.dicl kvs))) := by
  obtain ⟨v, hv, r⟩ := s.2 i _ k.at_
  cases r with
  | dicu ha rk =>
    rename_i a es
    obtain ⟨hA, hn⟩ := hid_some ha
    refine ⟨a, es, hA, hn, fun od => ?_⟩
    have hl : ∀ b xs, hid ps H b = some (.lst xs) → hid ps (upd H a (.frz od (.dK es))) b = some (.lst xs) := fun b xs h => by
      obtain ⟨h, c⟩ := hid_some h
      have ne : b ≠ a := fun z => by rw [z, hA] at h; cases h
      exact hid_mk (by rw [upd_ne ne]; exact h) c
    have ht : ∀ b xs, hid ps H b = some (.tup xs) → hid ps (upd H a (.frz od (.dK es))) b = some (.tup xs) := fun b xs h => by
      obtain ⟨h, c⟩ := hid_some h
      have ne : b ≠ a := fun z => by rw [z, hA] at h; cases h
      exact hid_mk (by rw [upd_ne ne]; exact h) c
    have hi := (List.getElem?_eq_some_iff.mp k.at_).1
    refine ⟨by simpa using s.1, fun j d h => ?_⟩
    by_cases c : j = i
    · subst c
      rw [List.getElem?_set_self hi] at h
      cases h
      exact ⟨_, hv, .dicl (hid_mk upd_same hn) (rk.flat hl ht k.val)⟩
    · rw [List.getElem?_set_ne (Ne.symm c)] at h
      obtain ⟨u, hu, ru⟩ := s.2 j d h
      exact ⟨u, hu, ru.flat hl ht (k.rest j d (by rw [List.getElem?_set_ne (Ne.symm c)]; exact h))⟩
theorem unlock_lt {ps : List Addr} {H : Hp} {a : Addr} {od : Obj} {es : List (Key × V)} (h : H a = some (.frz od (.dK es))) :
    (∀ b xs, hid ps H b = some (.lst xs) → hid ps (upd H a (.dK es)) b = some (.lst xs)) ∧ ∀ b xs, hid ps H b = some (.tup xs) → hid ps (upd H a (.dK es)) b = some (.tup xs) := by
  constructor
  · intro b xs q
    obtain ⟨q, c⟩ := hid_some q
    have ne : b ≠ a := fun z => by rw [z, h] at q; cases q
    exact hid_mk (by rw [upd_ne ne]; exact q) c
  · intro b xs q
    obtain ⟨q, c⟩ := hid_some q
    have ne : b ≠ a := fun z => by rw [z, h] at q; cases q
    exact hid_mk (by rw [upd_ne ne]; exact q) c
theorem ex_unlock {H H' : Hp} {a : Addr} {od : Obj} {es : List (Key × V)} (h : H a = some (.dK es)) (e : Ex (upd H a (.frz od (.dK es))) H') : Ex H (upd H' a (.dK es)) := fun b o q => by
  by_cases c : b = a
  · subst c
    rw [h] at q
    rw [upd_same, q]
  · rw [upd_ne c]
    exact e b o (by rw [upd_ne c]; exact q)
theorem lv_lock {ps : List Addr} {H : Hp} {a : Addr} {o : HO} (l : Lv ps H) : Lv ps (upd H a o) := fun b hb z => by
  by_cases c : b = a
  · subst c; rw [upd_same] at z; cases z
  · rw [upd_ne c] at z; exact l b hb z
theorem ev_lock {ρ : List (Option Dt)} {i : Nat} {kvs : List (Key × Dt)} {t : TE} {d : Dt} (k : LkOk ρ i kvs) (h : EvP t (ρ.set i (some (.dicl kvs))) d) (ok : okD d = true) : EvP (tLockE t) ρ d := fun ps H σ l s Q q => by
  obtain ⟨a, es, hA, hn, hs⟩ := s.lock k
  refine ⟨a, .dK es, hA, trivial, fun od => ?_⟩
  refine h ps _ σ (lv_lock l) (hs od) _ fun v H' e r => ?_
  have hf : H' a = some (.frz od (.dK es)) := e a _ upd_same
  exact ⟨hf, q v _ (ex_unlock hA e) (r.flat (unlock_lt hf).1 (unlock_lt hf).2 ok)⟩
theorem S.drops {ps : List Addr} {H0 H : Hp} {os : Os} {σ : St} {ρ : List (Option Dt)} (s : S ps H0 os H σ ρ) : S ps H0 [] H σ ρ :=
  ⟨s.live, s.base.trans (by rw [show hid (ks []) H = H from hid_nil H]; exact hid_ex _ _), .nil, (fun _ _ h => nomatch h), s.sl.ex (hid_mono (by rw [show hid (ks []) H = H from hid_nil H]; exact hid_ex _ _))⟩
theorem q_lock {ps : List Addr} {H0 H : Hp} {σ : St} {ρ : List (Option Dt)} {i : Nat} {kvs : List (Key × Dt)} {t u : TS} {D : Ends} (k : LkOk ρ i kvs) (s : S ps H0 [] H σ ρ)
    (body : ∀ (H1 : Hp) (D' : Ends), S ps H1 [] H1 σ (ρ.set i (some (.dicl kvs))) → (∀ σ' H' ρ', S ps H1 [] H' σ' ρ' → okR ρ' → (∀ H'', S ps H0 [] H'' σ' ρ' → u D σ' H'') → D'.nx σ' H') → (∀ d, okD d = true → Ret ps H0 d D → Ret ps H1 d D') → t D' σ H1) : tSeq (tLock t) u D σ H := by
  have sl := s.sl
  have e0 : vw ps [] H = hid ps H := by show hid ps (hid [] H) = _; rw [hid_nil]
  rw [e0] at sl
  obtain ⟨a, es, hA, hn, hs⟩ := sl.lock k
  refine ⟨a, .dK es, hA, trivial, fun od => ?_⟩
  have hb0 : Ex H0 H := s.base.trans (hid_ex _ _)
  have lv : Lv ps H := s.live.ex hb0
  have key : ∀ {os' : Os} {H' : Hp} {σ' : St} {ρ' : List (Option Dt)}, S ps (upd H a (.frz od (.dK es))) os' H' σ' ρ' → okR ρ' → H' a = some (.frz od (.dK es)) ∧ S ps H0 [] (upd H' a (.dK es)) σ' ρ' := fun {os' H' σ' ρ'} s' o => by
    have s2 := s'.drops
    have eb : Ex (upd H a (.frz od (.dK es))) H' := s2.base.trans (hid_ex _ _)
    have hf : H' a = some (.frz od (.dK es)) := eb a _ upd_same
    have sl' := s2.sl
    have e1 : vw ps [] H' = hid ps H' := by show hid ps (hid [] H') = _; rw [hid_nil]
    rw [e1] at sl'
    refine ⟨hf, s.live, ?_, .nil, (fun _ _ h => nomatch h), ?_⟩
    · rw [show hid (ks []) (upd H' a (.dK es)) = _ from hid_nil _]
      exact hb0.trans (ex_unlock hA eb)
    · have e2 : vw ps [] (upd H' a (.dK es)) = hid ps (upd H' a (.dK es)) := by show hid ps (hid [] _) = _; rw [hid_nil]
      rw [e2]
      exact sl'.flat (unlock_lt hf).1 (unlock_lt hf).2 o
  refine body (upd H a (.frz od (.dK es))) _ ⟨lv_lock lv, ?_, .nil, (fun _ _ h => nomatch h), ?_⟩ (fun σ' H' ρ' s' o hq => ?_) fun d ok hr v H' os' σ' ρ' s' r => ?_
  · rw [show hid (ks []) _ = _ from hid_nil _]; exact .refl _
  · show Sl (hid ps (hid [] _)) σ _
    rw [hid_nil]
    exact hs od
  · obtain ⟨hf, s2⟩ := key s' o
    exact ⟨hf, hq _ s2⟩
  · have sw : S ps (upd H a (.frz od (.dK es))) [] H' σ' (List.replicate ρ'.length none) := s'.drops.slots (s'.drops.sl.weak (by simp) fun j d h => by rw [List.getElem?_replicate] at h; split at h <;> cases h)
    obtain ⟨hf, s2⟩ := key sw fun j d h => by rw [List.getElem?_replicate] at h; split at h <;> cases h
    have r1 : R (hid ps H') v d := r.ex (hid_mono (hid_ex _ _))
    refine ⟨hf, hr v _ [] σ' _ s2 ?_⟩
    show R (hid ps (hid [] _)) v d
    rw [hid_nil]
    exact r1.flat (unlock_lt hf).1 (unlock_lt hf).2 ok
theorem R.key {G : Hp} : ∀ k : Key, R G (kV k) (kD k)
  | .inl i => .int i
  | .inr x => .str x
theorem ei_keys {ρ : List (Option Dt)} {td : TE} {kvs : List (Key × Dt)} (h : EvP td ρ (.dicl kvs)) : EvI (iKeys td) ρ (kvs.map fun kv => kD kv.1) := fun ps H σ l s T q => h ps H σ l s _ fun v H1 e1 r1 => by
  cases r1 with
  | dicl ha rk =>
    rename_i a o es
    refine ⟨a, o, rfl, .inl ⟨es, (hid_some ha).1, q _ _ e1 fun ps' H2 l2 e2 => ?_⟩⟩
    have hA : H2 a = some (.frz o (.dK es)) := (hid_some (e2 _ _ ha)).1
    have hl : (kvs.map fun kv => kD kv.1).length = es.length := by rw [List.length_map, rk.length]
    rw [hl]
    refine ⟨fun i hi => ⟨hA, hi⟩, ⟨hA, Nat.le_refl _⟩, fun i v H' d hd y => ?_⟩
    obtain ⟨rfl, k, w, hk, rfl⟩ := y
    have hkk : (kvs.map (·.1))[i]? = some k := by rw [← rk.keys, List.getElem?_map, hk]; rfl
    rw [List.getElem?_map] at hd hkk
    cases e : kvs[i]? with
    | none => rw [e] at hd; cases hd
    | some kv =>
      rw [e] at hd hkk
      cases hd
      cases hkk
      exact ⟨.refl _, R.key _⟩
theorem ev_du {ρ : List (Option Dt)} {te : TE} {kvs : List (Key × Dt)} (h : EvP te ρ (.dicu kvs)) : EvP te ρ (.dic kvs) := fun ps H σ l s Q q => h ps H σ l s Q fun v H' e r => by
  cases r with
  | dicu ha rk => exact q _ H' e (.dic (.inl ha) rk)
theorem ev_dl {ρ : List (Option Dt)} {te : TE} {kvs : List (Key × Dt)} (h : EvP te ρ (.dicl kvs)) : EvP te ρ (.dic kvs) := fun ps H σ l s Q q => h ps H σ l s Q fun v H' e r => by
  cases r with
  | dicl ha rk => exact q _ H' e (.dic (.inr ⟨_, ha⟩) rk)
end Ck
namespace Ck
open PySem PySem.Spec L2
open PyProof.Rows hiding St

/-! ### data that hold no dicts -/
theorem okL_map {α : Type} (f : α → Dt) (h : ∀ x, okD (f x) = true) : ∀ xs : List α, okDL (xs.map f) = true
  | [] => rfl
  | x :: xs => by simp only [List.map_cons, okDL, h x, okL_map f h xs, Bool.and_self]
theorem ok_fillD (f : Fill) : okD (fillD f) = true := by simp only [fillD, okD, ok_fill]
theorem ok_cellar (c : List Fill) : okD (cellarD c) = true := by simp only [cellarD, okD]; exact okL_map _ ok_fillD c
theorem ok_deed (x : Deed) : okD (deedD x) = true := by
  cases x with
  | add i f => simp only [deedD, okD, okDL, ok_fillD, Bool.and_self]
  | move i j a b => rfl
  | swap i j a b => rfl
  | draw i a b => rfl
  | keep i a b => rfl
theorem ok_story (s : List Deed) : okD (storyD s) = true := by simp only [storyD, okD]; exact okL_map _ ok_deed s
theorem ok_intsD (ns : List Int) : okD (intsD ns) = true := by simp only [intsD, okD, ints_ok]
theorem ok_told (t : List (Nat × Bool)) : okD (toldD t) = true := by simp only [toldD, okD]; exact okL_map _ (fun p => rfl) t
theorem ok_looks (car : Car) (F : List Int) : okD (looksD car F) = true := by unfold looksD; split <;> rfl
theorem okR_nil : okR [] := fun j d h => by simp at h
theorem okR_n {ρ : List (Option Dt)} (h : okR ρ) : okR (none :: ρ) := fun j d q => by
  cases j with
  | zero => cases q
  | succ j => exact h j d (by simpa using q)
theorem okR_s {d : Dt} {ρ : List (Option Dt)} (hd : okD d = true) (h : okR ρ) : okR (some d :: ρ) := fun j e q => by
  cases j with
  | zero => cases q; exact hd
  | succ j => exact h j e (by simpa using q)
/-- slots forgotten -/
inductive Wk : List (Option Dt) → List (Option Dt) → Prop
  | nil : Wk [] []
  | keep {x : Option Dt} {l l' : List (Option Dt)} : Wk l l' → Wk (x :: l) (x :: l')
  | drop {x : Option Dt} {l l' : List (Option Dt)} : Wk l l' → Wk (none :: l) (x :: l')
theorem Wk.len : ∀ {l l' : List (Option Dt)}, Wk l l' → l.length = l'.length
  | _, _, .nil => rfl
  | _, _, .keep w => by rw [List.length_cons, List.length_cons, w.len]
  | _, _, .drop w => by rw [List.length_cons, List.length_cons, w.len]
theorem Wk.get : ∀ {l l' : List (Option Dt)}, Wk l l' → ∀ (i : Nat) (d : Dt), l[i]? = some (some d) → l'[i]? = some (some d)
  | _, _, .nil, i, d, h => h
  | _, _, .keep w, 0, d, h => h
  | _, _, .keep w, i + 1, d, h => by simp only [List.getElem?_cons_succ] at h ⊢; exact w.get i d h
  | _, _, .drop w, 0, d, h => by cases h
  | _, _, .drop w, i + 1, d, h => by simp only [List.getElem?_cons_succ] at h ⊢; exact w.get i d h
theorem S.weak {ps : List Addr} {H0 H : Hp} {os : Os} {σ : St} {ρ ρ' : List (Option Dt)} (s : S ps H0 os H σ ρ) (w : Wk ρ' ρ) : S ps H0 os H σ ρ' := s.slots (s.sl.weak w.len w.get)

/-! ### what is told, and what is left -/
theorem fit_add (c : List Fill) (s : List Deed) (t : List (Nat × Bool)) (p : Nat × Bool) : fitting c s (t ++ [p]) = keepFit (carriedLots c s) p (fitting c s t) := by
  unfold fitting
  rw [List.foldl_append]
  rfl
theorem keep_yes (car : Car) (i : Nat) (F : List Int) : keepFit car (i, true) F = yes (lookC car i) F := by
  unfold keepFit yes
  congr 1
  funext x
  cases h : decide (x ∈ lookC car i) <;> simp
theorem keep_no (car : Car) (i : Nat) (F : List Int) : keepFit car (i, false) F = no (lookC car i) F := by
  unfold keepFit no
  congr 1
  funext x
  cases h : decide (x ∈ lookC car i) <;> simp
theorem left_fit (c : List Fill) (s : List Deed) (t : List (Nat × Bool)) : leftOf (carriedLots c s) (everyLot c s) t = fitting c s t := by
  unfold leftOf fitting
  rw [fit_eq]
theorem fit_twice (c : List Fill) (s : List Deed) (t : List (Nat × Bool)) : fitting c s (t ++ t.reverse) = fitting c s t := by
  unfold fitting
  rw [fit_eq, fit_eq]
  congr 1
  funext x
  rw [List.all_append, List.all_reverse, Bool.and_self]
/-! two that no test parts -/
def same (car : Car) (x y : Int) : Bool := car.all fun p => decide (decide (x ∈ p.2) = decide (y ∈ p.2))
theorem same_not {car : Car} {F : List Int} {x y : Int} (hx : x ∈ F) (hy : y ∈ F) (ne : x ≠ y) (h : same car x y = true) : ¬ Ap car F := fun ap => by
  obtain ⟨p, hp, q⟩ := ap x hx y hy ne
  exact q (of_decide_eq_true (List.all_eq_true.mp h p hp))
theorem ap_of {car : Car} {F : List Int} (h : ∀ (i j : Nat) (x y : Int), j < i → F[i]? = some x → F[j]? = some y → same car x y = false) : Ap car F := by
  have key : ∀ x y, same car x y = false → ∃ p ∈ car, decide (x ∈ p.2) ≠ decide (y ∈ p.2) := fun x y q => by
    unfold same at q
    rw [List.all_eq_false] at q
    obtain ⟨p, hp, e⟩ := q
    exact ⟨p, hp, by simpa using e⟩
  intro x hx y hy ne
  obtain ⟨i, hi⟩ := List.getElem?_of_mem hx
  obtain ⟨j, hj⟩ := List.getElem?_of_mem hy
  rcases Nat.lt_trichotomy i j with lt | e | lt
  · obtain ⟨p, hp, q⟩ := key y x (h j i y x lt hj hi)
    exact ⟨p, hp, fun e => q e.symm⟩
  · subst e
    rw [hi] at hj
    exact absurd (Option.some.inj hj) ne
  · exact key x y (h i j x y lt hi hj)
theorem ap_small {car : Car} {F : List Int} (h : F.length < 2) : Ap car F := fun x hx y hy ne => by
  cases F with
  | nil => cases hx
  | cons a F =>
    have : F = [] := List.length_eq_zero_iff.mp (by rw [List.length_cons] at h; omega)
    subst this
    rw [List.mem_singleton] at hx hy
    exact absurd (hx.trans hy.symm) ne
theorem looks_ap {car : Car} {F : List Int} (h : Ap car F) : looksD car F = .int ((depth car F : Nat) : Int) := if_pos h
theorem looks_no {car : Car} {F : List Int} (h : ¬ Ap car F) : looksD car F = .non := if_neg h
theorem tree_ap {car : Car} {F : List Int} (h : Ap car F) (ne : F ≠ []) : lookTreeD car F = treeOf car F := if_pos ⟨ne, h⟩
theorem tree_no {car : Car} {F : List Int} (h : ¬ Ap car F) : lookTreeD car F = .non := if_neg fun z => h z.2
theorem tree_nil {car : Car} : lookTreeD car [] = .non := if_neg fun z => z.1 rfl
/-! the best first test -/
theorem foldl_min (xs : List Nat) (b : Nat) (h : xs ≠ []) : xs.foldl min b = min b (minL xs) := by
  induction xs generalizing b with
  | nil => exact absurd rfl h
  | cons x xs ih =>
    cases xs with
    | nil => rfl
    | cons y ys =>
      rw [List.foldl_cons, ih _ (by simp)]
      show _ = min b (min x (minL (y :: ys)))
      omega
theorem best_eq {car : Car} {F : List Int} (ap : Ap car F) (nd : F.Nodup) (hl : ¬ F.length < 2) (h16 : F.length ≤ 16) : (car.filterMap (optF car F)).foldl min 99 = depth car F := by
  have h1 : ¬ F.length ≤ 1 := by omega
  have h2 := depth_lt F.length (Nat.le_refl _) ap nd
  rw [← opts_eq, foldl_min _ _ (opts_ne ap nd h1), ← depth_big h1]
  omega
theorem split_test (ls F : List Int) : (!(yes ls F).isEmpty && decide (((yes ls F).length : Int) < (F.length : Int))) = splits ls F := by
  have e := yes_no ls F
  unfold splits
  congr 1
  by_cases c : (no ls F) = []
  · have e' : (yes ls F).length = F.length := by rw [c] at e; exact e
    rw [c, decide_eq_false (by omega)]
    rfl
  · have hp := List.length_pos_iff.mpr c
    rw [decide_eq_true (by omega), List.isEmpty_eq_false_iff.mpr c]
    rfl
section
variable {ρ : List (Option Dt)} {ta : TA} {td : TE}
theorem ei_rngN {n : Nat} (h : EvA ta ρ [.int (n : Int)]) (hn : n ≤ 100000) : EvI (iRng1 ta) ρ ((List.range n).map fun (i : Nat) => .int (i : Int)) := by
  have e : ((List.range n).map fun (i : Nat) => Dt.int (i : Int)) = rngD 0 n := by
    unfold rngD
    refine List.map_congr_left fun i _ => ?_
    rw [Int.zero_add]
  rw [e]
  exact ei_rng1 h hn
theorem ei_keysC {car : Car} (h : EvP td ρ (.dicl (carK car))) : EvI (iKeys td) ρ (car.map fun p => .int (p.1 : Int)) := by
  have e : (car.map fun p => Dt.int (p.1 : Int)) = (carK car).map fun kv => kD kv.1 := by rw [List.map_map]; rfl
  rw [e]
  exact ei_keys h
end
theorem carK_ok (car : Car) : ∀ kv ∈ carK car, okD kv.2 = true := fun kv h => by
  obtain ⟨p, _, e⟩ := List.mem_map.mp h
  subst e
  exact ok_intsD _
theorem bls_ok {α : Type} (xs : List α) (f : α → Bool) : okD (.lst (xs.map fun x => .bl (f x))) = true := by simp only [okD]; exact okL_map _ (fun x => rfl) xs
theorem non_is (G : Hp) (v : V) (r : R G v .non) : decide (v = .non) = true := by cases r; rfl
theorem int_is (i : Int) (G : Hp) (v : V) (r : R G v (.int i)) : decide (v = .non) = false := by cases r; rfl
theorem tup_is (ds : List Dt) (G : Hp) (v : V) (r : R G v (.tup ds)) : decide (v = .non) = false := by cases r; rfl
theorem tree_tup (car : Car) (F : List Int) : ∃ ds, treeOf car F = .tup ds := by
  cases h : car.find? (best car F) with
  | none => rw [tree_none h]; exact ⟨_, rfl⟩
  | some p => rw [tree_some h]; exact ⟨_, rfl⟩
theorem leaf_eq {K : PySem.W.Frag} {x y : Int} : OpD (rEqD K) (.tup [.str (Str.ofString "is"), .int x]) (.tup [.str (Str.ofString "is"), .int y]) (.bl (decide (x = y))) := by
  have sh : ∀ x : Int, SeqAt.shaped (toPy (.tup [.str (Str.ofString "is"), .int x])) = true := fun x => by
    have : PyData.strOk (Str.ofString "is") = true := by decide +kernel
    simp [SeqAt.shaped, toPy, toPyL, PyData.canLay0, PyData.canLayAll0, PyData.depth, PyData.depthAll, this]
  refine od_eqD rfl rfl (sh x) (sh y) ?_
  simp only [toPy, toPyL, PyData.eqv, PyData.eqvAll, Bool.and_true, beq_self_eq_true, Bool.true_and]
  rw [Bool.beq_eq_decide_eq]
end Ck
namespace Ck
open PySem PySem.Spec L2
open PyProof.Rows hiding St

theorem ok_int (i : Int) : okD (.int i) = true := rfl

section
variable {P : Program} {w : World} {K : PySem.W.Frag} {mg : Str → Option Value} {base : Heap} {k : Nat}

def F_w_state_right : List Dt → Dt → Prop := fun ds d => ∃ (c : List Fill) (st : List Deed) (t : List (Nat × Bool)), ds = [cellarD c, storyD st, intsD (everyLot c st), .dicu (carK (carriedLots c st)), toldD t] ∧ StateOk c st t ∧ t.length ≤ 100 ∧ d = .bl true
theorem len_w_state_right {ds : List Dt} {d : Dt} (h : F_w_state_right ds d) : ds.length = 5 := by
  obtain ⟨c, st, t, rfl, _⟩ := h; rfl
theorem sc_w_state_right : FnScope ["_law_cellar_here", "_law_story_here", "_law_known", "_law_carries", "_law_told_here", "_law_found", "_law_many", "_law_one", "_law_other", "_law_index", "_law_best", "_law_bad", "_law_lot", "_law_first", "_law_second"] ["_law_cellar_here", "_law_story_here", "_law_known", "_law_carries", "_law_told_here"] (defScope s_w_state_right) := ⟨rfl, rfl, rfl, by decide +kernel, rfl, by decide +kernel, by decide +kernel⟩
theorem has_w_state_right (T : Bt mg) (D : Dfn K mg "_law_state_right" s_w_state_right) (h_w_left : Has P w K mg base k "_law_left" ["_law_known", "_law_carries", "_law_told_here"] (spP F_w_left)) (h_looks : Has P w K mg base k "looks" ["cellar", "story", "told"] (spP F_looks)) (h_w_integer : Has P w K mg base k "_law_integer" ["_law_value"] (spP F_w_integer)) (h_suspects : Has P w K mg base k "suspects" ["cellar", "story", "told"] (spP F_suspects)) (h_look_tree : Has P w K mg base k "look_tree" ["cellar", "story", "told"] (spP F_look_tree)) : HasG P w K mg base (k + 1) "_law_state_right" ["_law_cellar_here", "_law_story_here", "_law_known", "_law_carries", "_law_told_here"] (spP F_w_state_right) := by
  have nd := (sc_w_state_right).nd
  refine D.hasPG sc_w_state_right (fun _ _ _ _ _ _ us hl => match us, hl with | [_, _, _, _, _], _ => rfl) ?_ (fun f cdv A outer s H E hr hgd => ?_)
  · intro ds d h
    exact len_w_state_right h
  have hu := hu_of hr
  refine ⟨_, (pss_cons (ps_set (i := 5) nd rfl (Or.inr rfl) (pe_has h_w_left hr (by rfl) (pa_cons (pv 2) (pa_cons (pv 3) (pa_cons (pv 4) pa_nil)))))
    (pss_cons (ps_set (i := 6) nd rfl (Or.inl rfl) (pe_has h_looks hr (by rfl) (pa_cons (pv 0) (pa_cons (pv 1) (pa_cons (pv 4) pa_nil)))))
    (pss_cons (ps_if (pt_cmpR op_ne (pe_callB (k_repr (K := K) rfl hgd hr.units) (by rfl) T.repr (by decide +kernel) (pa_cons (pe_has h_suspects hr (by rfl) (pa_cons (pv 0) (pa_cons (pv 1) (pa_cons (pv 4) pa_nil)))) pa_nil)) (pe_callB (k_repr (K := K) rfl hgd hr.units) (by rfl) T.repr (by decide +kernel) (pa_cons (pv 5) pa_nil)) (nomark _)) (pss_one (ps_ret pe_bl)) pss_nil)
    (pss_cons (ps_if (pt_cmpR op_lt (pe_callB (k_len (K := K) rfl) (by rfl) T.len PySem.boot_len (pa_cons (pv 5) pa_nil)) pe_int (nomark _)) (pss_one (ps_ret (pe_and (pe_has h_w_integer hr (by rfl) (pa_cons (pv 6) pa_nil)) (pe_one (pe_cmpR op_eq (pv 6) pe_int (nomark _)))))) pss_nil)
    (pss_cons (ps_for PassesOwn.never rfl (pi_range1 (by rfl) T.range (pa_cons (pe_callB (k_len (K := K) rfl) (by rfl) T.len PySem.boot_len (pa_cons (pv 5) pa_nil)) pa_nil)) (pg_name (i := 7) nd rfl (Or.inr rfl)) (pss_one (ps_for PassesOwn.never rfl (pi_range1 (by rfl) T.range (pa_cons (pv 7) pa_nil)) (pg_name (i := 8) nd rfl (Or.inr rfl)) (pss_one (ps_if (pt_val (pe_callB (k_all (K := K) rfl rfl) (by rfl) T.all (by decide +kernel) (pa_cons (pe_lock (pe_lc (own := [("_law_index", 9)]) (g := (gName 9)) (tt := tYes) rfl nd (pi_keys (pv 3)) (blkOk_by (N := ["_law_cellar_here", "_law_story_here", "_law_known", "_law_carries", "_law_told_here", "_law_found", "_law_many", "_law_one", "_law_other", "_law_index", "_law_best", "_law_bad", "_law_lot", "_law_first", "_law_second"]) (sc := defScope s_w_state_right) (by decide +kernel)) (fun _ _ _ _ _ => (pg_name (i := 9) nd rfl (Or.inl rfl))) (fun _ _ _ _ _ => pts_nil) (fun _ _ _ _ _ => (pe_cmpR op_eq (pe_cmpR (k_in (K := K) rfl) (pe_ix (k_ix (K := K) rfl) (pv 5) (pv 7) (fun _ _ => rfl)) (pe_dget hu (pv 3) (pv 9) (fun _ _ => rfl)) (by rfl)) (pe_cmpR (k_in (K := K) rfl) (pe_ix (k_ix (K := K) rfl) (pv 5) (pv 8) (fun _ _ => rfl)) (pe_dget hu (pv 3) (pv 9) (fun _ _ => rfl)) (by rfl)) (nomark _))))) pa_nil))) (pss_one (ps_ret (pe_and (pe_cmpR op_isN (pv 6) pe_non (nomark _)) (pe_one (pe_cmpR op_isN (pe_has h_look_tree hr (by rfl) (pa_cons (pv 0) (pa_cons (pv 1) (pa_cons (pv 4) pa_nil)))) pe_non (nomark _)))))) pss_nil)))))
    (pss_cons (ps_set (i := 10) nd rfl (Or.inl rfl) pe_int)
    (pss_cons (ps_lock (ps_for PassesOwn.never rfl (pi_keys (pv 3)) (pg_name (i := 9) nd rfl (Or.inr rfl)) (pss_cons (ps_setLc (i := 11) (own := [("_law_lot", 12)]) (g := (gName 12)) rfl nd rfl rfl (sw_true rfl rfl rfl (by decide +kernel)) (k_piL (K := K) rfl (pv 5)) (blkOk_by (N := ["_law_cellar_here", "_law_story_here", "_law_known", "_law_carries", "_law_told_here", "_law_found", "_law_many", "_law_one", "_law_other", "_law_index", "_law_best", "_law_bad", "_law_lot", "_law_first", "_law_second"]) (sc := defScope s_w_state_right) (by decide +kernel)) (fun _ _ _ _ _ => (pg_name (i := 12) nd rfl (Or.inl rfl))) (fun _ _ _ _ _ => (pts_one (pt_cmpR (k_in (K := K) rfl) (pv 12) (pe_dget hu (pv 3) (pv 9) (fun _ _ => rfl)) (by rfl)))) (fun _ _ _ _ _ => (pv 12)))
    (pss_one (ps_if (PW.pt (pw_and (pt_cmpR (k_neD (K := K) rfl hr.units) (pv 11) (pe_lst pa_nil) (nomark _)) (pw_and1 (pt_cmpR op_lt (pe_callB (k_len (K := K) rfl) (by rfl) T.len PySem.boot_len (pa_cons (pv 11) pa_nil)) (pe_callB (k_len (K := K) rfl) (by rfl) T.len PySem.boot_len (pa_cons (pv 5) pa_nil)) (nomark _))))) (pss_cons (ps_set (i := 13) nd rfl (Or.inl rfl) (pe_has h_looks hr (by rfl) (pa_cons (pv 0) (pa_cons (pv 1) (pa_cons (pe_op (k_catA (K := K) rfl) (pv 4) (pe_tup (pa_cons (pe_tup (pa_cons (pv 9) (pa_cons pe_bl pa_nil))) pa_nil))) pa_nil)))))
    (pss_cons (ps_set (i := 14) nd rfl (Or.inl rfl) (pe_has h_looks hr (by rfl) (pa_cons (pv 0) (pa_cons (pv 1) (pa_cons (pe_op (k_catA (K := K) rfl) (pv 4) (pe_tup (pa_cons (pe_tup (pa_cons (pv 9) (pa_cons pe_bl pa_nil))) pa_nil))) pa_nil)))))
    (pss_cons (ps_if (PW.pt (pw_or (pt_not (pt_val (pe_has h_w_integer hr (by rfl) (pa_cons (pv 13) pa_nil)))) (pw_or1 (pt_not (pt_val (pe_has h_w_integer hr (by rfl) (pa_cons (pv 14) pa_nil))))))) (pss_one (ps_ret pe_bl)) pss_nil)
    (pss_one (ps_set (i := 10) nd rfl (Or.inl rfl) (pe_callB (call_min2 rfl) (by rfl) T.min (by decide +kernel) (pa_cons (pv 10) (pa_cons (pe_op op_add pe_int (pe_callB (call_max2 rfl) (by rfl) T.max (by decide +kernel) (pa_cons (pv 13) (pa_cons (pv 14) pa_nil)))) pa_nil)))))))) pss_nil)))))
    (pss_one (ps_ret (pe_and (pe_has h_w_integer hr (by rfl) (pa_cons (pv 6) pa_nil)) (pe_one (pe_cmpR op_eq (pv 6) (pv 10) (nomark _))))))))))))), ?_⟩
  rintro ds d ⟨c, st, t, rfl, ok, ht, rfl⟩ ps σ D s rt nx
  have hl := ok.len
  have hnd := up_nodup (fit_up c st t)
  have hcl := car_len c st
  have hs := ok.sto.hi
  have hc := ok.cel.hi
  have hev := ok.few
  have hmem : ∀ p ∈ t, p.1 ∈ (carriedLots c st).map (·.1) := fun p hp => by
    obtain ⟨k, a, b, h⟩ := ok.tol.all p hp
    exact car_mem h
  have hbd : ∀ n ∈ fitting c st t, n.natAbs < 1000 := fun n hn => by
    have := every_bd c st n ((fit_sub c st t).subset hn)
    omega
  refine q_set (d := intsD (fitting c st t)) (ev_call (d := intsD (fitting c st t)) (ea_cons (ev_var (i := 2) rfl) (ea_cons (ev_du (ev_var (i := 3) rfl)) (ea_cons (ev_var (i := 4) rfl) ea_nil))) ⟨carriedLots c st, everyLot c st, t, rfl, by omega, by omega, hmem, by rw [left_fit]⟩) s fun σ1 H1 s1 => ?_
  refine q_set (ev_call (d := looksD (carriedLots c st) (fitting c st t)) (ea_cons (ev_var (i := 0) rfl) (ea_cons (ev_var (i := 1) rfl) (ea_cons (ev_var (i := 4) rfl) ea_nil))) ⟨c, st, t, rfl, ok, rfl⟩) s1 fun σ2 H2 s2 => ?_
  have s3 := s2.as (ρ' := [some (cellarD c), some (storyD st), some (intsD (everyLot c st)), some (.dicu (carK (carriedLots c st))), some (toldD t), some (intsD (fitting c st t)), some (looksD (carriedLots c st) (fitting c st t)), none, none, none, none, none, none, none, none]) rfl
  refine q_gd (et_is (et_T (ev_op (ev_cb (ea_cons (ev_call (d := intsD (fitting c st t)) (ea_cons (ev_var (i := 0) rfl) (ea_cons (ev_var (i := 1) rfl) (ea_cons (ev_var (i := 4) rfl) ea_nil))) ⟨c, st, t, rfl, ok.cel, ok.sto, ok.tol, rfl⟩) ea_nil) (cd_repr hbd (by omega))) (ev_cb (ea_cons (ev_var (i := 5) rfl) ea_nil) (cd_repr hbd (by omega))) od_neS)) (by rw [decide_eq_true rfl]; rfl)) s3 fun H4 s4 => ?_
  by_cases h2 : (fitting c st t).length < 2
  · refine q_gt (et_is (et_T (ev_op (ev_cb (ea_cons (ev_var (i := 5) rfl) ea_nil) cd_lenl) ev_int od_lt)) (by rw [List.length_map]; exact decide_eq_true (by omega))) s4 fun H5 s5 => ?_
    rw [looks_ap (ap_small h2), depth_small (by omega)] at s5
    exact s_ret (ev_is (ev_andb (ev_call (d := .bl true) (ea_cons (ev_var (i := 6) rfl) ea_nil) ⟨_, rfl, .inl ⟨_, rfl, rfl⟩⟩) fun _ => (ev_op (ev_var (i := 6) rfl) ev_int (by first | exact od_eqI | exact od_eqS | exact od_eqB))) rfl) s5 rt
  refine q_gd (et_is (et_T (ev_op (ev_cb (ea_cons (ev_var (i := 5) rfl) ea_nil) cd_lenl) ev_int od_lt)) (by rw [List.length_map]; exact decide_eq_false (by omega))) s4 fun H5 s5 => ?_
  refine q_for (List.range (fitting c st t).length) (fun (i : Nat) => .int (i : Int)) (fun i ρ => ρ.set 7 (some (.int (i : Int)))) (fun i os ρ => os = [] ∧ (∀ i' j x y, i' < i → j < i' → (fitting c st t)[i']? = some x → (fitting c st t)[j]? = some y → same (carriedLots c st) x y = false) ∧ ∃ e7 e8, ρ = [some (cellarD c), some (storyD st), some (intsD (everyLot c st)), some (.dicu (carK (carriedLots c st))), some (toldD t), some (intsD (fitting c st t)), some (looksD (carriedLots c st) (fitting c st t)), e7, e8, none, none, none, none, none, none])
    (ei_rngN (ea_cons (ev_is (ev_cb (ea_cons (ev_var (i := 5) rfl) ea_nil) cd_lenl) (by rw [List.length_map])) ea_nil) (by omega)) (fun x ρ' => tg_name) s5 ⟨rfl, (fun _ _ _ _ h => absurd h (Nat.not_lt_zero _)), none, none, rfl⟩ ?_ ?_
  · rintro H6 e l i0 i os' ρ' H' σ' hi ⟨rfl, hI, e7, e8, rfl⟩ s6 D' hrt hnx
    obtain ⟨hil, hiv⟩ := List.getElem?_eq_some_iff.mp hi
    rw [List.getElem_range] at hiv
    subst hiv
    rw [List.length_range] at hil
    have hx : (fitting c st t)[i0]? = some (fitting c st t)[i0] := List.getElem?_eq_getElem hil
    generalize (fitting c st t)[i0] = x at hx
    generalize hii : i0 = i at *
    refine s_for' (List.range i) (fun (j : Nat) => .int (j : Int)) (fun j ρ => ρ.set 8 (some (.int (j : Int)))) (fun j os ρ => os = [] ∧ (∀ j' y, j' < j → (fitting c st t)[j']? = some y → same (carriedLots c st) x y = false) ∧ ∃ e8, ρ = [some (cellarD c), some (storyD st), some (intsD (everyLot c st)), some (.dicu (carK (carriedLots c st))), some (toldD t), some (intsD (fitting c st t)), some (looksD (carriedLots c st) (fitting c st t)), some (.int (i : Int)), e8, none, none, none, none, none, none])
      (ei_rngN (ea_cons (ev_var (i := 7) rfl) ea_nil) (by omega)) (fun x ρ' => tg_name) s6 ⟨rfl, (fun _ _ h => absurd h (Nat.not_lt_zero _)), e8, rfl⟩ ?_ ?_
    · rintro H7 e' l' j0 j os' ρ' H' σ' hj ⟨rfl, hJ, e8, rfl⟩ s7 D'' hrt' hnx'
      obtain ⟨hjl, hjv⟩ := List.getElem?_eq_some_iff.mp hj
      rw [List.getElem_range] at hjv
      subst hjv
      rw [List.length_range] at hjl
      have hy : (fitting c st t)[j0]? = some (fitting c st t)[j0] := List.getElem?_eq_getElem (by omega)
      generalize (fitting c st t)[j0] = y at hy
      generalize hjj : j0 = j at *
      have s8 := s7.as (ρ' := [some (cellarD c), some (storyD st), some (intsD (everyLot c st)), some (.dicu (carK (carriedLots c st))), some (toldD t), some (intsD (fitting c st t)), some (looksD (carriedLots c st) (fitting c st t)), some (.int (i : Int)), some (.int (j : Int)), none, none, none, none, none, none]) rfl
      refine s_if (b := same (carriedLots c st) x y) (et_B (ev_cb (ea_cons (ev_lock (i := 3) (kvs := carK (carriedLots c st)) ⟨rfl, (by exact okR_s (ok_cellar _) (okR_s (ok_story _) (okR_s (ok_intsD _) (okR_n (okR_s (ok_told _) (okR_s (ok_intsD _) (okR_s (ok_looks _ _) (okR_s (ok_int _) (okR_s (ok_int _) (okR_n (okR_n (okR_n (okR_n (okR_n (okR_n okR_nil))))))))))))))), carK_ok _⟩ (ev_lc0 (carriedLots c st) (fun p => .int (p.1 : Int)) (fun p => .bl (decide (decide (x ∈ p.2) = decide (y ∈ p.2)))) (fun p => [some (cellarD c), some (storyD st), some (intsD (everyLot c st)), some (.dicl (carK (carriedLots c st))), some (toldD t), some (intsD (fitting c st t)), some (looksD (carriedLots c st) (fitting c st t)), some (.int (i : Int)), some (.int (j : Int)), some (.int (p.1 : Int)), none, none, none, none, none])
        (ei_keysC (ev_var (i := 3) rfl)) (js := [9]) (by simp) (fun p _ => tg_name) (fun p hp => ev_is (ev_op (ev_op (ev_op (ev_var (i := 5) rfl) (ev_var (i := 7) rfl) (od_ixl (d := .int x) (atI_nat (by rw [List.getElem?_map, hx]; rfl)))) (ev_dget (kvs := carK (carriedLots c st)) (k := .inl (p.1 : Int)) (ev_dl (ev_var (i := 3) rfl)) (ev_var (i := 9) rfl) (look_car (List.mem_map.mpr ⟨p, hp, rfl⟩))) (od_inIl (lookC (carriedLots c st) p.1))) (ev_op (ev_op (ev_var (i := 5) rfl) (ev_var (i := 8) rfl) (od_ixl (d := .int y) (atI_nat (by rw [List.getElem?_map, hy]; rfl)))) (ev_dget (kvs := carK (carriedLots c st)) (k := .inl (p.1 : Int)) (ev_dl (ev_var (i := 3) rfl)) (ev_var (i := 9) rfl) (look_car (List.mem_map.mpr ⟨p, hp, rfl⟩))) (od_inIl (lookC (carriedLots c st) p.1))) od_eqB) (by rw [lookC_of (car_up c st) hp])) (by omega)) (bls_ok _ _)) ea_nil) (cd_allB (carriedLots c st) fun p => decide (decide (x ∈ p.2) = decide (y ∈ p.2))))) s8 (fun hb H8 s9 => ?_) (fun hb H8 s9 => ?_)
      · have hne : x ≠ y := fun z => by
          have := (List.getElem?_inj (i := i) (j := j) (by omega) hnd).mp (by rw [hx, hy, z])
          omega
        have hno := same_not (List.mem_of_getElem? hx) (List.mem_of_getElem? hy) hne hb
        rw [looks_no hno] at s9
        refine s_ret (ev_is (ev_andb (ev_op (ev_var (i := 6) rfl) ev_non (od_isN non_is)) fun _ => ev_op (ev_call (d := .non) (ea_cons (ev_var (i := 0) rfl) (ea_cons (ev_var (i := 1) rfl) (ea_cons (ev_var (i := 4) rfl) ea_nil))) ⟨c, st, t, rfl, ok, by rw [tree_no hno]⟩) ev_non (od_isN non_is)) rfl) s9 ((rt.step s.live e hrt).step l e' hrt')
      · refine hnx' _ _ _ _ ⟨rfl, fun j' y' hj' hy' => ?_, _, rfl⟩ s9
        by_cases c : j' = j
        · subst c
          rw [hy] at hy'
          cases hy'
          exact hb
        · exact hJ j' y' (by omega) hy'
    · rintro os' ρ' H' σ' ⟨rfl, hJ, e8, rfl⟩ s7
      rw [List.length_range] at hJ
      refine hnx _ _ _ _ ⟨rfl, fun i' j x' y' hi' hj' hx' hy' => ?_, _, _, rfl⟩ s7
      by_cases c : i' = i
      · subst c
        rw [hx] at hx'
        cases hx'
        exact hJ j y' hj' hy'
      · exact hI i' j x' y' (by omega) hj' hx' hy'
  · rintro os' ρ' H' σ' ⟨rfl, hI, e7, e8, rfl⟩ s6
    rw [List.length_range] at hI
    have hap : Ap (carriedLots c st) (fitting c st t) := ap_of fun i j x y hji hx hy => hI i j x y (List.getElem?_eq_some_iff.mp hx).1 hji hx hy
    have okb : ∀ b : Bool, ∀ {q : Nat × List Int}, q ∈ carriedLots c st → StateOk c st (t ++ [(q.1, b)]) := fun b q hq => ⟨ok.cel, ok.sto, ok.few, ⟨by rw [List.length_append]; show t.length + 1 ≤ 1000; omega, fun p hp => by
      rcases List.mem_append.mp hp with z | z
      · exact ok.tol.all p z
      · rw [List.mem_singleton] at z
        subst z
        obtain ⟨k, a, b, h, _⟩ := mem_car hq
        exact ⟨k, a, b, h⟩⟩⟩
    have s7 := s6.weak (ρ' := [some (cellarD c), some (storyD st), some (intsD (everyLot c st)), some (.dicu (carK (carriedLots c st))), some (toldD t), some (intsD (fitting c st t)), some (looksD (carriedLots c st) (fitting c st t)), none, none, none, none, none, none, none, none]) (.keep (.keep (.keep (.keep (.keep (.keep (.keep (.drop (.drop (.keep (.keep (.keep (.keep (.keep (.keep .nil)))))))))))))))
    refine q_set ev_int s7 fun σ8 H8 s8 => ?_
    have s9 := s8.as (ρ' := [some (cellarD c), some (storyD st), some (intsD (everyLot c st)), some (.dicu (carK (carriedLots c st))), some (toldD t), some (intsD (fitting c st t)), some (looksD (carriedLots c st) (fitting c st t)), none, none, none, some (.int 99), none, none, none, none]) rfl
    refine q_lock (i := 3) (kvs := carK (carriedLots c st)) ⟨rfl, (by exact okR_s (ok_cellar _) (okR_s (ok_story _) (okR_s (ok_intsD _) (okR_n (okR_s (ok_told _) (okR_s (ok_intsD _) (okR_s (ok_looks _ _) (okR_n (okR_n (okR_n (okR_s (ok_int _) (okR_n (okR_n (okR_n (okR_n okR_nil))))))))))))))), carK_ok _⟩ s9 fun H10 D' s10 hnx hret => ?_
    refine s_for' (carriedLots c st) (fun q => .int (q.1 : Int)) (fun q ρ => ρ.set 9 (some (.int (q.1 : Int)))) (fun i os ρ => os = [] ∧ ∃ e9 e11 e13 e14, ρ = [some (cellarD c), some (storyD st), some (intsD (everyLot c st)), some (.dicl (carK (carriedLots c st))), some (toldD t), some (intsD (fitting c st t)), some (looksD (carriedLots c st) (fitting c st t)), none, none, e9, some (.int ((((((carriedLots c st).take i).filterMap (optF (carriedLots c st) (fitting c st t))).foldl min 99 : Nat)) : Int)), e11, none, e13, e14]) (ei_keysC (ev_var (i := 3) rfl)) (fun x ρ' => tg_name) s10 ⟨rfl, none, none, none, none, rfl⟩ ?_ ?_
    · rintro H11 e l i q os' ρ' H' σ' hx ⟨rfl, e9, e11, e13, e14, rfl⟩ s11 D'' hrt' hnx'
      have hq := List.mem_of_getElem? hx
      have hlq := lookC_of (car_up c st) hq
      have hk : q.1 ∈ (carriedLots c st).map (·.1) := List.mem_map.mpr ⟨q, hq, rfl⟩
      refine q_set (d := intsD (yes q.2 (fitting c st t))) (ev_lc (fitting c st t) Dt.int (fun l => decide (l ∈ q.2)) Dt.int (fun l => [some (cellarD c), some (storyD st), some (intsD (everyLot c st)), some (.dicl (carK (carriedLots c st))), some (toldD t), some (intsD (fitting c st t)), some (looksD (carriedLots c st) (fitting c st t)), none, none, some (.int (q.1 : Int)), some (.int ((((((carriedLots c st).take i).filterMap (optF (carriedLots c st) (fitting c st t))).foldl min 99 : Nat)) : Int)), e11, some (.int l), e13, e14]) (ei_list (ev_var (i := 5) rfl)) (js := [12]) (by simp) (fun l _ => tg_name) (fun l hl => et_T (ev_is (ev_op (ev_var (i := 12) rfl) (ev_dget (kvs := carK (carriedLots c st)) (k := .inl (q.1 : Int)) (ev_dl (ev_var (i := 3) rfl)) (ev_var (i := 9) rfl) (look_car hk)) (od_inIl (lookC (carriedLots c st) q.1))) (by rw [hlq]))) (fun l _ _ => (ev_var (i := 12) rfl)) (by omega)) s11 fun σ12 H12 s12 => ?_
      have s13 := s12.as (ρ' := [some (cellarD c), some (storyD st), some (intsD (everyLot c st)), some (.dicl (carK (carriedLots c st))), some (toldD t), some (intsD (fitting c st t)), some (looksD (carriedLots c st) (fitting c st t)), none, none, some (.int (q.1 : Int)), some (.int ((((((carriedLots c st).take i).filterMap (optF (carriedLots c st) (fitting c st t))).foldl min 99 : Nat)) : Int)), some (intsD (yes q.2 (fitting c st t))), none, e13, e14]) rfl
      refine s_if (b := splits q.2 (fitting c st t)) (et_is (et_and (et_T (ev_op (ev_var (i := 11) rfl) (ev_lst ea_nil (Nat.le_of_ble_eq_true rfl)) (ne_nilI (ns := yes q.2 (fitting c st t))))) fun _ => et_T (ev_op (ev_cb (ea_cons (ev_var (i := 11) rfl) ea_nil) cd_lenl) (ev_cb (ea_cons (ev_var (i := 5) rfl) ea_nil) cd_lenl) od_lt)) (by rw [List.length_map, List.length_map]; exact split_test q.2 _)) s13 (fun hb H14 s14 => ?_) (fun hb H14 s14 => ?_)
      · have ap1 := hap.yes q.2
        have ap2 := hap.no q.2
        have e1 : looksD (carriedLots c st) (fitting c st (t ++ [(q.1, true)])) = .int ((depth (carriedLots c st) (yes q.2 (fitting c st t)) : Nat) : Int) := by rw [fit_add, keep_yes, hlq, looks_ap ap1]
        have e2 : looksD (carriedLots c st) (fitting c st (t ++ [(q.1, false)])) = .int ((depth (carriedLots c st) (no q.2 (fitting c st t)) : Nat) : Int) := by rw [fit_add, keep_no, hlq, looks_ap ap2]
        refine q_set (ev_is (ev_call (ds := [cellarD c, storyD st, toldD (t ++ [(q.1, true)])]) (d := looksD (carriedLots c st) (fitting c st (t ++ [(q.1, true)]))) (ea_cons (ev_var (i := 0) rfl) (ea_cons (ev_var (i := 1) rfl) (ea_cons (ev_is (ev_op (ev_var (i := 4) rfl) (ev_tup (ea_cons (ev_tup (ea_cons (ev_var (i := 9) rfl) (ea_cons ev_bl ea_nil)) (Nat.le_of_ble_eq_true rfl)) ea_nil) (Nat.le_of_ble_eq_true rfl)) (od_catT (by have := ok.tol.few; rw [List.length_map]; show t.length + 1 ≤ 100000; omega))) (by rw [toldD, List.map_append]; rfl)) ea_nil))) ⟨c, st, _, rfl, okb true hq, rfl⟩) e1) s14 fun σ15 H15 s15 => ?_
        refine q_set (ev_is (ev_call (ds := [cellarD c, storyD st, toldD (t ++ [(q.1, false)])]) (d := looksD (carriedLots c st) (fitting c st (t ++ [(q.1, false)]))) (ea_cons (ev_var (i := 0) rfl) (ea_cons (ev_var (i := 1) rfl) (ea_cons (ev_is (ev_op (ev_var (i := 4) rfl) (ev_tup (ea_cons (ev_tup (ea_cons (ev_var (i := 9) rfl) (ea_cons ev_bl ea_nil)) (Nat.le_of_ble_eq_true rfl)) ea_nil) (Nat.le_of_ble_eq_true rfl)) (od_catT (by have := ok.tol.few; rw [List.length_map]; show t.length + 1 ≤ 100000; omega))) (by rw [toldD, List.map_append]; rfl)) ea_nil))) ⟨c, st, _, rfl, okb false hq, rfl⟩) e2) s15 fun σ16 H16 s16 => ?_
        refine q_gd (et_is (et_or (et_not (et_B (ev_call (d := .bl true) (ea_cons (ev_var (i := 13) rfl) ea_nil) ⟨_, rfl, .inl ⟨_, rfl, rfl⟩⟩))) fun _ => et_not (et_B (ev_call (d := .bl true) (ea_cons (ev_var (i := 14) rfl) ea_nil) ⟨_, rfl, .inl ⟨_, rfl, rfl⟩⟩))) rfl) s16 fun H17 s17 => ?_
        refine s_set (d := .int ((((((carriedLots c st).take (i + 1)).filterMap (optF (carriedLots c st) (fitting c st t))).foldl min 99 : Nat)) : Int)) (ev_is (ev_cb (ea_cons (ev_var (i := 10) rfl) (ea_cons (ev_op ev_int (ev_cb (ea_cons (ev_var (i := 13) rfl) (ea_cons (ev_var (i := 14) rfl) ea_nil)) cd_max2) od_add) ea_nil)) cd_min2) ?_) s17 fun σ18 H18 s18 => ?_
        · rw [take_opt hx, show optF (carriedLots c st) (fitting c st t) q = _ from if_pos hb, List.foldl_append]
          show Dt.int _ = Dt.int ((min _ _ : Nat) : Int)
          congr 1
          omega
        · exact hnx' _ _ _ _ ⟨rfl, _, _, _, _, rfl⟩ s18
      · refine hnx' _ _ _ _ ⟨rfl, some (.int (q.1 : Int)), some (intsD (yes q.2 (fitting c st t))), e13, e14, ?_⟩ s14
        rw [show ((carriedLots c st).take (i + 1)).filterMap (optF (carriedLots c st) (fitting c st t)) = ((carriedLots c st).take i).filterMap (optF (carriedLots c st) (fitting c st t)) from by
          rw [take_opt hx, show optF (carriedLots c st) (fitting c st t) q = none from if_neg (by rw [hb]; exact Bool.false_ne_true)]
          exact List.append_nil _]
    · rintro os' ρ' H' σ' ⟨rfl, e9, e11, e13, e14, rfl⟩ s11
      rw [List.take_length, best_eq hap hnd h2 hl] at s11
      have s12 := s11.weak (ρ' := [some (cellarD c), some (storyD st), some (intsD (everyLot c st)), none, some (toldD t), some (intsD (fitting c st t)), some (looksD (carriedLots c st) (fitting c st t)), none, none, none, some (.int ((depth (carriedLots c st) (fitting c st t) : Nat) : Int)), none, none, none, none]) (.keep (.keep (.keep (.drop (.keep (.keep (.keep (.keep (.keep (.drop (.keep (.drop (.keep (.drop (.drop .nil)))))))))))))))
      refine hnx _ _ _ s12 (okR_s (ok_cellar _) (okR_s (ok_story _) (okR_s (ok_intsD _) (okR_n (okR_s (ok_told _) (okR_s (ok_intsD _) (okR_s (ok_looks _ _) (okR_n (okR_n (okR_n (okR_s (ok_int _) (okR_n (okR_n (okR_n (okR_n okR_nil))))))))))))))) fun H'' s13 => ?_
      rw [looks_ap hap] at s13
      exact s_ret (ev_is (ev_andb (ev_call (d := .bl true) (ea_cons (ev_var (i := 6) rfl) ea_nil) ⟨_, rfl, .inl ⟨_, rfl, rfl⟩⟩) fun _ => (ev_op (ev_var (i := 6) rfl) (ev_var (i := 10) rfl) (by first | exact od_eqI | exact od_eqS | exact od_eqB))) (by rw [decide_eq_true rfl]; rfl)) s13 rt
end
end Ck
namespace Ck
open PySem PySem.Spec L2
open PyProof.Rows hiding St

theorem one_of {F : List Int} {x : Int} (h : F.length ≤ 1) (hx : x ∈ F) : F = [x] := by
  cases F with
  | nil => cases hx
  | cons a F =>
    have : F = [] := List.length_eq_zero_iff.mp (by rw [List.length_cons] at h; omega)
    subst this
    rw [List.mem_singleton] at hx
    rw [hx]

section
variable {P : Program} {w : World} {K : PySem.W.Frag} {mg : Str → Option Value} {base : Heap} {k : Nat}

def F_w_walk_right : List Dt → Dt → Prop := fun ds d => ∃ (c : List Fill) (st : List Deed) (t : List (Nat × Bool)) (lot : Int), ds = [cellarD c, storyD st, intsD (everyLot c st), carD (carriedLots c st), toldD t, .int lot] ∧ StateOk c st t ∧ t.length ≤ 100 ∧ Ap (carriedLots c st) (fitting c st t) ∧ lot ∈ fitting c st t ∧ d = .bl true
theorem len_w_walk_right {ds : List Dt} {d : Dt} (h : F_w_walk_right ds d) : ds.length = 6 := by
  obtain ⟨c, st, t, lot, rfl, _⟩ := h; rfl
theorem sc_w_walk_right : FnScope ["_law_cellar_here", "_law_story_here", "_law_known", "_law_carries", "_law_told_here", "_law_lot", "_law_tree", "_law_ahead", "_law_turn", "_law_bad", "_law_now"] ["_law_cellar_here", "_law_story_here", "_law_known", "_law_carries", "_law_told_here", "_law_lot"] (defScope s_w_walk_right) := ⟨rfl, rfl, rfl, by decide +kernel, rfl, by decide +kernel, by decide +kernel⟩
theorem has_w_walk_right (T : Bt mg) (D : Dfn K mg "_law_walk_right" s_w_walk_right) (h_look_tree : Has P w K mg base k "look_tree" ["cellar", "story", "told"] (spP F_look_tree)) (h_looks : Has P w K mg base k "looks" ["cellar", "story", "told"] (spP F_looks)) (h_w_integer : Has P w K mg base k "_law_integer" ["_law_value"] (spP F_w_integer)) (h_suspects : Has P w K mg base k "suspects" ["cellar", "story", "told"] (spP F_suspects)) (h_w_left : Has P w K mg base k "_law_left" ["_law_known", "_law_carries", "_law_told_here"] (spP F_w_left)) : Has P w K mg base (k + 1) "_law_walk_right" ["_law_cellar_here", "_law_story_here", "_law_known", "_law_carries", "_law_told_here", "_law_lot"] (spP F_w_walk_right) := by
  have nd := (sc_w_walk_right).nd
  refine D.hasP sc_w_walk_right (fun _ _ _ _ _ _ us hl => match us, hl with | [_, _, _, _, _, _], _ => rfl) ?_ (fun f cdv A outer s H E hr => ?_)
  · intro ds d h
    exact len_w_walk_right h
  have hu := hu_of hr
  refine ⟨_, (pss_cons (ps_par (i := 6) (j := 7) (by rfl) nd rfl rfl (by decide) rfl rfl (pa_cons (pe_has h_look_tree hr (by rfl) (pa_cons (pv 0) (pa_cons (pv 1) (pa_cons (pv 4) pa_nil)))) (pa_cons (pe_has h_looks hr (by rfl) (pa_cons (pv 0) (pa_cons (pv 1) (pa_cons (pv 4) pa_nil)))) pa_nil)) (by rfl))
    (pss_cons (ps_for PassesOwn.never rfl (pi_range1 (by rfl) T.range (pa_cons (pe_op op_add (pv 7) pe_int) pa_nil)) (pg_name (i := 8) nd rfl (Or.inl rfl)) (pss_cons (ps_if (PW.pt (pw_or (pt_not (pt_val (pe_callB (k_isi (K := K) rfl) (by rfl) T.isinstance (by decide +kernel) (pa_cons (pv 6) (pa_cons (pe_bltn (v := .ty "tuple") (by rfl) T.tuple (by decide +kernel) rfl) pa_nil))))) (pw_or (pt_cmpR (k_notIn (K := K) rfl) (pe_callB (k_len (K := K) rfl) (by rfl) T.len PySem.boot_len (pa_cons (pv 6) pa_nil)) (pe_tup (pa_cons pe_int (pa_cons pe_int pa_nil))) (by rfl)) (pw_or1 (pt_not (pt_val (pe_callB (k_isi (K := K) rfl) (by rfl) T.isinstance (by decide +kernel) (pa_cons (pe_ix (k_ix (K := K) rfl) (pv 6) pe_int (fun _ _ => rfl)) (pa_cons (pe_bltn (v := .ty "str") (by rfl) T.str (by decide +kernel) rfl) pa_nil))))))))) (pss_one (ps_ret pe_bl)) pss_nil)
    (pss_cons (ps_if (pt_cmpR op_eq (pe_callB (k_len (K := K) rfl) (by rfl) T.len PySem.boot_len (pa_cons (pv 6) pa_nil)) pe_int (nomark _)) (pss_one (ps_ret (pe_and (pe_cmpR (k_eqD (K := K) rfl hr.units) (pv 6) (pe_tup (pa_cons pe_str (pa_cons (pv 5) pa_nil))) (nomark _)) (pe_and (pe_has h_w_integer hr (by rfl) (pa_cons (pe_ix (k_ix (K := K) rfl) (pv 6) pe_int (fun _ _ => rfl)) pa_nil)) (pe_one (pe_cmpR (k_eqD (K := K) rfl hr.units) (pe_has h_w_left hr (by rfl) (pa_cons (pv 2) (pa_cons (pv 3) (pa_cons (pv 4) pa_nil)))) (pe_lst (pa_cons (pv 5) pa_nil)) (nomark _))))))) pss_nil)
    (pss_cons (ps_if (PW.pt (pw_or (pt_cmpR op_ne (pe_ix (k_ix (K := K) rfl) (pv 6) pe_int (fun _ _ => rfl)) pe_str (nomark _)) (pw_or (pt_not (pt_val (pe_has h_w_integer hr (by rfl) (pa_cons (pe_ix (k_ix (K := K) rfl) (pv 6) pe_int (fun _ _ => rfl)) pa_nil)))) (pw_or1 (pt_cmp (pc_dnotin hu (pe_ix (k_ix (K := K) rfl) (pv 6) pe_int (fun _ _ => rfl)) (pv 3))))))) (pss_one (ps_ret pe_bl)) pss_nil)
    (pss_cons (ps_set (i := 9) nd rfl (Or.inl rfl) (pe_cmpR (k_in (K := K) rfl) (pv 5) (pe_dget hu (pv 3) (pe_ix (k_ix (K := K) rfl) (pv 6) pe_int (fun _ _ => rfl)) (fun _ _ => rfl)) (by rfl)))
    (pss_cons (ps_set (i := 4) nd rfl (Or.inl rfl) (pe_op (k_catA (K := K) rfl) (pv 4) (pe_tup (pa_cons (pe_tup (pa_cons (pe_ix (k_ix (K := K) rfl) (pv 6) pe_int (fun _ _ => rfl)) (pa_cons (pv 9) pa_nil))) pa_nil))))
    (pss_cons (ps_set (i := 6) nd rfl (Or.inl rfl) (pe_ifExp (pt_val (pv 9)) (pe_ix (k_ix (K := K) rfl) (pv 6) pe_int (fun _ _ => rfl)) (pe_ix (k_ix (K := K) rfl) (pv 6) pe_int (fun _ _ => rfl))))
    (pss_cons (ps_set (i := 10) nd rfl (Or.inl rfl) (pe_has h_looks hr (by rfl) (pa_cons (pv 0) (pa_cons (pv 1) (pa_cons (pv 4) pa_nil)))))
    (pss_cons (ps_if (PW.pt (pw_or (pt_not (pt_val (pe_has h_w_integer hr (by rfl) (pa_cons (pv 10) pa_nil)))) (pw_or (pt_cmpR op_gt (pv 10) (pv 7) (nomark _)) (pw_or1 (pt_cmpR (k_notIn (K := K) rfl) (pv 5) (pe_has h_suspects hr (by rfl) (pa_cons (pv 0) (pa_cons (pv 1) (pa_cons (pv 4) pa_nil)))) (by rfl)))))) (pss_one (ps_ret pe_bl)) pss_nil)
    (pss_one (ps_set (i := 7) nd rfl (Or.inl rfl) (pv 10))))))))))))
    (pss_one (ps_ret pe_bl)))), ?_⟩
  rintro ds d ⟨c, st, t, lot, rfl, ok, ht, hap, hlot, rfl⟩ ps σ D s rt nx
  have hl := ok.len
  have hcl := car_len c st
  have hs := ok.sto.hi
  have hev := ok.few
  have hdep := depth_lt _ (Nat.le_refl _) hap (up_nodup (fit_up c st t))
  refine q_par (ea_cons (ev_call (d := treeOf (carriedLots c st) (fitting c st t)) (ea_cons (ev_var (i := 0) rfl) (ea_cons (ev_var (i := 1) rfl) (ea_cons (ev_var (i := 4) rfl) ea_nil))) ⟨c, st, t, rfl, ok, by rw [tree_ap hap (List.ne_nil_of_mem hlot)]⟩) (ea_cons (ev_call (d := .int ((depth (carriedLots c st) (fitting c st t) : Nat) : Int)) (ea_cons (ev_var (i := 0) rfl) (ea_cons (ev_var (i := 1) rfl) (ea_cons (ev_var (i := 4) rfl) ea_nil))) ⟨c, st, t, rfl, ok, by rw [looks_ap hap]⟩) ea_nil)) s fun σ1 H1 s1 => ?_
  refine q_for (List.range (depth (carriedLots c st) (fitting c st t) + 1)) (fun (i : Nat) => .int (i : Int)) (fun i ρ => ρ.set 8 (some (.int (i : Int)))) (fun i os ρ => os = [] ∧ ∃ (t2 : List (Nat × Bool)) (e8 e9 e10 : Option Dt), StateOk c st t2 ∧ t2.length = t.length + i ∧ Ap (carriedLots c st) (fitting c st t2) ∧ lot ∈ (fitting c st t2) ∧ depth (carriedLots c st) (fitting c st t2) + i ≤ depth (carriedLots c st) (fitting c st t) ∧ ρ = [some (cellarD c), some (storyD st), some (intsD (everyLot c st)), some (carD (carriedLots c st)), some (toldD t2), some (.int lot), some (treeOf (carriedLots c st) (fitting c st t2)), some (.int ((depth (carriedLots c st) (fitting c st t2) : Nat) : Int)), e8, e9, e10])
    (ei_rngN (ea_cons (ev_is (ev_op (ev_var (i := 7) rfl) ev_int od_add) (by congr 1)) ea_nil) (by omega)) (fun x ρ' => tg_name) s1 ⟨rfl, t, none, none, none, ok, rfl, hap, hlot, Nat.le_refl _, rfl⟩ ?_ ?_
  · rintro H2 e l i0 i os' ρ' H' σ' hi ⟨rfl, t2, e8, e9, e10, ok2, ht2, hap2, hlot2, hd2, rfl⟩ s2 D' hrt hnx
    obtain ⟨hil, hiv⟩ := List.getElem?_eq_some_iff.mp hi
    rw [List.getElem_range] at hiv
    subst hiv
    rw [List.length_range] at hil
    have hnd2 := up_nodup (fit_up c st t2)
    have hmem2 : ∀ p ∈ t2, p.1 ∈ (carriedLots c st).map (·.1) := fun p hp => by
      obtain ⟨k, a, b, h⟩ := ok2.tol.all p hp
      exact car_mem h
    have rt2 := rt.step s.live e hrt
    cases hf : (carriedLots c st).find? (best (carriedLots c st) (fitting c st t2)) with
    | none =>
      have h1 := one_of (best_none hf hap2 hnd2) hlot2
      have s3 := s2.as (ρ' := [some (cellarD c), some (storyD st), some (intsD (everyLot c st)), some (carD (carriedLots c st)), some (toldD t2), some (.int lot), some (.tup [.str (Str.ofString "is"), .int lot]), some (.int ((depth (carriedLots c st) (fitting c st t2) : Nat) : Int)), some (.int (i0 : Int)), e9, e10]) (by rw [tree_none hf, h1]; rfl)
      refine q_gd (et_is (et_or (et_not (et_B (ev_cb (ea_cons (ev_var (i := 6) rfl) (ea_cons ev_ty ea_nil)) (cd_isi (b := true) rfl (by decide +kernel))))) fun _ => et_or (et_T (ev_op (ev_cb (ea_cons (ev_var (i := 6) rfl) ea_nil) cd_lent) (ev_tup (ea_cons ev_int (ea_cons ev_int ea_nil)) (Nat.le_of_ble_eq_true rfl)) (od_niIt [2, 4]))) fun _ => (et_not (et_B (ev_cb (ea_cons (ev_op (ev_var (i := 6) rfl) ev_int (by first | exact od_ixt rfl | exact od_ixl rfl)) (ea_cons ev_ty ea_nil)) (cd_isi (b := true) rfl (by decide +kernel)))))) rfl) s3 fun H4 s4 => ?_
      refine q_gt (et_is (et_T (ev_op (ev_cb (ea_cons (ev_var (i := 6) rfl) ea_nil) cd_lent) ev_int od_eqI)) rfl) s4 fun H5 s5 => ?_
      refine s_ret (ev_is (ev_andb (ev_op (ev_var (i := 6) rfl) (ev_tup (ea_cons ev_str (ea_cons (ev_var (i := 5) rfl) ea_nil)) (Nat.le_of_ble_eq_true rfl)) (leaf_eq (x := lot) (y := lot))) fun _ => ev_andb (ev_call (d := .bl true) (ea_cons (ev_op (ev_var (i := 6) rfl) ev_int (by first | exact od_ixt rfl | exact od_ixl rfl)) ea_nil) ⟨_, rfl, .inl ⟨_, rfl, rfl⟩⟩) fun _ => ev_op (ev_call (d := intsD (fitting c st t2)) (ea_cons (ev_var (i := 2) rfl) (ea_cons (ev_var (i := 3) rfl) (ea_cons (ev_var (i := 4) rfl) ea_nil))) ⟨carriedLots c st, everyLot c st, t2, rfl, by omega, by omega, hmem2, by rw [left_fit]⟩) (ev_lst (ea_cons (ev_var (i := 5) rfl) ea_nil) (Nat.le_of_ble_eq_true rfl)) (eq_ints (ns := (fitting c st t2)) (ms := [lot]))) (by rw [h1, decide_eq_true rfl, decide_eq_true rfl]; rfl)) s5 rt2
    | some q =>
      obtain ⟨hq, hsp, hbest⟩ := best_split hf
      have hlq := lookC_of (car_up c st) hq
      have hk : q.1 ∈ (carriedLots c st).map (·.1) := List.mem_map.mpr ⟨q, hq, rfl⟩
      obtain ⟨k0, a0, b0, hdraw, _⟩ := mem_car hq
      have hlook := look_car hk
      generalize hb : decide (lot ∈ q.2) = b
      have ok3 : StateOk c st (t2 ++ [(q.1, b)]) := ⟨ok.cel, ok.sto, ok.few, ⟨by rw [List.length_append]; show t2.length + 1 ≤ 1000; omega, fun p hp => by
        rcases List.mem_append.mp hp with z | z
        · exact ok2.tol.all p z
        · rw [List.mem_singleton] at z
          subst z
          exact ⟨k0, a0, b0, hdraw⟩⟩⟩
      have hF : b = true ∧ fitting c st (t2 ++ [(q.1, b)]) = yes q.2 (fitting c st t2) ∨ b = false ∧ fitting c st (t2 ++ [(q.1, b)]) = no q.2 (fitting c st t2) := by
        cases b with
        | true => exact .inl ⟨rfl, by rw [fit_add, keep_yes, hlq]⟩
        | false => exact .inr ⟨rfl, by rw [fit_add, keep_no, hlq]⟩
      have hlot3 : lot ∈ fitting c st (t2 ++ [(q.1, b)]) := by
        rcases hF with ⟨e1, e2⟩ | ⟨e1, e2⟩
        · rw [e2]; exact List.mem_filter.mpr ⟨hlot2, by rw [hb, e1]⟩
        · rw [e2]; exact List.mem_filter.mpr ⟨hlot2, by rw [hb, e1]; rfl⟩
      have hap3 : Ap (carriedLots c st) (fitting c st (t2 ++ [(q.1, b)])) := by
        rcases hF with ⟨_, e2⟩ | ⟨_, e2⟩
        · rw [e2]; exact hap2.yes q.2
        · rw [e2]; exact hap2.no q.2
      have hdep3 : depth (carriedLots c st) (fitting c st (t2 ++ [(q.1, b)])) + 1 ≤ depth (carriedLots c st) (fitting c st t2) := by
        rcases hF with ⟨_, e2⟩ | ⟨_, e2⟩
        · rw [e2]; omega
        · rw [e2]; omega
      have hT1 : b = true → treeOf (carriedLots c st) (yes q.2 (fitting c st t2)) = treeOf (carriedLots c st) (fitting c st (t2 ++ [(q.1, b)])) := fun z => by
        rcases hF with ⟨_, e2⟩ | ⟨e1, _⟩
        · rw [e2]
        · rw [z] at e1; cases e1
      have hT2 : b = false → treeOf (carriedLots c st) (no q.2 (fitting c st t2)) = treeOf (carriedLots c st) (fitting c st (t2 ++ [(q.1, b)])) := fun z => by
        rcases hF with ⟨e1, _⟩ | ⟨_, e2⟩
        · rw [z] at e1; cases e1
        · rw [e2]
      have s3 := s2.as (ρ' := [some (cellarD c), some (storyD st), some (intsD (everyLot c st)), some (carD (carriedLots c st)), some (toldD t2), some (.int lot), some (.tup [.str "look", .int (q.1 : Int), treeOf (carriedLots c st) (yes q.2 (fitting c st t2)), treeOf (carriedLots c st) (no q.2 (fitting c st t2))]), some (.int ((depth (carriedLots c st) (fitting c st t2) : Nat) : Int)), some (.int (i0 : Int)), e9, e10]) (by rw [tree_some hf]; rfl)
      refine q_gd (et_is (et_or (et_not (et_B (ev_cb (ea_cons (ev_var (i := 6) rfl) (ea_cons ev_ty ea_nil)) (cd_isi (b := true) rfl (by decide +kernel))))) fun _ => et_or (et_T (ev_op (ev_cb (ea_cons (ev_var (i := 6) rfl) ea_nil) cd_lent) (ev_tup (ea_cons ev_int (ea_cons ev_int ea_nil)) (Nat.le_of_ble_eq_true rfl)) (od_niIt [2, 4]))) fun _ => (et_not (et_B (ev_cb (ea_cons (ev_op (ev_var (i := 6) rfl) ev_int (by first | exact od_ixt rfl | exact od_ixl rfl)) (ea_cons ev_ty ea_nil)) (cd_isi (b := true) rfl (by decide +kernel)))))) rfl) s3 fun H4 s4 => ?_
      refine q_gd (et_is (et_T (ev_op (ev_cb (ea_cons (ev_var (i := 6) rfl) ea_nil) cd_lent) ev_int od_eqI)) rfl) s4 fun H5 s5 => ?_
      refine q_gd (et_is (et_or (et_T (ev_op (ev_op (ev_var (i := 6) rfl) ev_int (by first | exact od_ixt rfl | exact od_ixl rfl)) ev_str (by first | exact od_neI | exact od_neS | exact od_neB))) fun _ => et_or (et_not (et_B (ev_call (d := .bl true) (ea_cons (ev_op (ev_var (i := 6) rfl) ev_int (by first | exact od_ixt rfl | exact od_ixl rfl)) ea_nil) ⟨_, rfl, .inl ⟨_, rfl, rfl⟩⟩))) fun _ => et_B (ev_dnin (kvs := carK (carriedLots c st)) (k := .inl (q.1 : Int)) (ev_op (ev_var (i := 6) rfl) ev_int (by first | exact od_ixt rfl | exact od_ixl rfl)) (ev_var (i := 3) rfl))) (by rw [hlook]; rfl)) s5 fun H6 s6 => ?_
      refine q_set (d := .bl b) (ev_is (ev_op (ev_var (i := 5) rfl) (ev_dget (kvs := carK (carriedLots c st)) (k := .inl (q.1 : Int)) (ev_var (i := 3) rfl) (ev_op (ev_var (i := 6) rfl) ev_int (by first | exact od_ixt rfl | exact od_ixl rfl)) hlook) (od_inIl (lookC (carriedLots c st) q.1))) (by rw [hlq, hb])) s6 fun σ7 H7 s7 => ?_
      refine q_set (d := toldD (t2 ++ [(q.1, b)])) (ev_is (ev_op (ev_var (i := 4) rfl) (ev_tup (ea_cons (ev_tup (ea_cons (ev_op (ev_var (i := 6) rfl) ev_int (by first | exact od_ixt rfl | exact od_ixl rfl)) (ea_cons (ev_var (i := 9) rfl) ea_nil)) (Nat.le_of_ble_eq_true rfl)) ea_nil) (Nat.le_of_ble_eq_true rfl)) (od_catT (by rw [List.length_map]; show t2.length + 1 ≤ 100000; omega))) (by rw [toldD, List.map_append]; rfl)) s7 fun σ8 H8 s8 => ?_
      refine q_set (d := treeOf (carriedLots c st) (fitting c st (t2 ++ [(q.1, b)]))) (ev_if (b := b) (et_B (ev_var (i := 9) rfl)) (fun z => ev_is (ev_op (ev_var (i := 6) rfl) ev_int (od_ixt (d := treeOf (carriedLots c st) (yes q.2 (fitting c st t2))) rfl)) (hT1 z)) (fun z => ev_is (ev_op (ev_var (i := 6) rfl) ev_int (od_ixt (d := treeOf (carriedLots c st) (no q.2 (fitting c st t2))) rfl)) (hT2 z))) s8 fun σ9 H9 s9 => ?_
      refine q_set (d := .int ((depth (carriedLots c st) (fitting c st (t2 ++ [(q.1, b)])) : Nat) : Int)) (ev_call (ea_cons (ev_var (i := 0) rfl) (ea_cons (ev_var (i := 1) rfl) (ea_cons (ev_var (i := 4) rfl) ea_nil))) ⟨c, st, t2 ++ [(q.1, b)], rfl, ok3, by rw [looks_ap hap3]⟩) s9 fun σ10 H10 s10 => ?_
      refine q_gd (et_is (et_or (et_not (et_B (ev_call (d := .bl true) (ea_cons (ev_var (i := 10) rfl) ea_nil) ⟨_, rfl, .inl ⟨_, rfl, rfl⟩⟩))) fun _ => et_or (et_T (ev_op (ev_var (i := 10) rfl) (ev_var (i := 7) rfl) od_gt)) fun _ => et_T (ev_op (ev_var (i := 5) rfl) (ev_call (d := intsD (fitting c st (t2 ++ [(q.1, b)]))) (ea_cons (ev_var (i := 0) rfl) (ea_cons (ev_var (i := 1) rfl) (ea_cons (ev_var (i := 4) rfl) ea_nil))) ⟨c, st, t2 ++ [(q.1, b)], rfl, ok3.cel, ok3.sto, ok3.tol, rfl⟩) (od_niIl (fitting c st (t2 ++ [(q.1, b)]))))) (by rw [decide_eq_true hlot3, decide_eq_false (by omega)]; rfl)) s10 fun H11 s11 => ?_
      refine s_set (ev_var (i := 10) rfl) s11 fun σ12 H12 s12 => ?_
      exact hnx _ _ _ _ ⟨rfl, t2 ++ [(q.1, b)], _, _, _, ok3, by rw [List.length_append]; show t2.length + 1 = _; omega, hap3, hlot3, by omega, rfl⟩ s12
  · rintro os' ρ' H' σ' ⟨rfl, t2, e8, e9, e10, ok2, ht2, hap2, hlot2, hd2, rfl⟩ s2
    rw [List.length_range] at hd2
    omega
end
end Ck
namespace Ck
open PySem PySem.Spec L2
open PyProof.Rows hiding St

section
variable {ps : List Addr} {H0 H1 H H' : Hp} {os os' pre post : Os} {p : Addr} {c : Oc} {σ σ' : St} {ρ ρ' : List (Option Dt)} {d : Dt} {D : Ends} {u : TS}
theorem q_deck {K : PySem.W.Frag} {E : XK} {i j : Nat} {a : Addr} {ns : List Int} (s : S [] H0 [] H σ ρ) (hi : ρ[i]? = some (some (.adr a))) (sq : SqL K H a (ns.map V.int)) (hn : ns.length ≤ 63)
    (k : ∀ p σ' H', S [] H0 ([] ++ (p, .deck 0) :: []) H' σ' (ρ.set j (some (.adr p))) → u D σ' H') : tSeq (tAsg (tCall (spDk K) [] E (tCons (tVar i) tNil)) (gName j)) u D σ H := by
  obtain ⟨v, hv, r⟩ := s.sl.2 i _ hi
  cases r
  refine ⟨.ref a, hv, a, ns, rfl, sq, hn, fun p H' hp e ok => ?_⟩
  have s' : S [] H0 ([] ++ (p, .deck 0) :: []) H' σ ρ := S.grow (pre := []) (post := []) s hp e (by
    have : vw [] ([] ++ (p, Oc.deck 0) :: []) H' = hid [p] H' := hid_nil _
    rw [this]
    exact ok)
  exact k p _ _ (s'.set j (.adr p))
/-- a dict of one's own, let go; it is not locked -/
theorem S.freezeU {kvs : List (Key × Dt)} (s : S ps H0 (pre ++ (p, .dic kvs) :: post) H σ ρ) {i : Nat} (h : ρ[i]? = some (some (.adr p))) : S ps H0 (pre ++ post) H σ (ρ.set i (some (.dicu kvs))) := by
  obtain ⟨v, hv, r⟩ := s.sl.2 i _ h
  cases r
  have hp : p ∉ ps := s.out (p := p) (c := .dic kvs) (by simp)
  obtain ⟨xs, a, r⟩ := s.own p (.dic kvs) (by simp)
  have np : p ∉ ks (pre ++ post) := by
    have nd := s.nd
    unfold ks at nd ⊢
    rw [List.map_append, List.map_cons, nd_mid, List.nodup_cons] at nd
    rw [List.map_append]
    exact nd.1
  have w : R (vw ps (pre ++ post) H) (.ref p) (.dicu kvs) := .dicu (hid_mk (hid_mk a np) hp) (r.ex (hid_mono (hid_sub H fun b hb => mem_ks.mpr (.inr hb))))
  have s' := s.drop.set i w
  have e : σ.set i (some (.ref p)) = σ := by
    apply List.ext_getElem?
    intro j
    by_cases c : j = i
    · subst c
      rw [List.getElem?_set_self (List.getElem?_eq_some_iff.mp hv).1, hv]
    · rw [List.getElem?_set_ne (Ne.symm c)]
  rw [e] at s'
  exact s'
theorem mq_forT {K : PySem.W.Frag} {β α : Type} {te : TE} {g : TG} {tb : TS} {js : List Nat} (xs : β → List α) (emb : α → Dt) (Post : β → Oc → Prop) (up : α → List (Option Dt) → List (Option Dt)) (I : β → Nat → Os → List (Option Dt) → Prop)
    (hi : EvM te ρ p c (fun d c' => ∃ x, d = .tup ((xs x).map emb) ∧ Post x c')) (tg : ∀ x ρ', TgD g js ρ' (emb x) (up x ρ')) (s : S ps H0 (pre ++ (p, c) :: post) H σ ρ) (h0 : ∀ x c', Post x c' → I x 0 (pre ++ (p, c') :: post) ρ)
    (step : ∀ b H1, Ex H0 H1 → Lv ps H1 → ∀ (i : Nat) (x : α) os' ρ' H' σ', (xs b)[i]? = some x → I b i os' ρ' → S ps H1 os' H' σ' (up x ρ') → ∀ D' : Ends, D'.rt = D.rt → (∀ σ'' H'' os'' ρ'', I b (i + 1) os'' ρ'' → S ps H1 os'' H'' σ'' ρ'' → D'.nx σ'' H'') → tb D' σ' H')
    (done : ∀ b os' ρ' H' σ', I b (xs b).length os' ρ' → S ps H0 os' H' σ' ρ' → u D σ' H') : tSeq (tFor (iTup K te) g tb) u D σ H := by
  refine s.evm hi fun v H1 d c1 ⟨x, hd, hP⟩ s1 r1 => ?_
  subst hd
  cases r1 with
  | tup ha r =>
    refine ⟨_, rfl, ⟨_, .of (hid_some (hid_some ha).1).1⟩, ?_⟩
    rw [vw_eq] at ha r
    exact s_forJ (D := { D with nx := u D }) (J := Itt K _) (xs x) emb up (I x) (it_tup ha r) tg s1 (h0 x c1 hP) (fun H2 e l i y os' ρ' H' σ' hx hI s' => step x H2 e l i y os' ρ' H' σ' hx hI s' _ rfl fun σ'' H'' os'' ρ'' h1 h2 => ⟨os'', ρ'', h1, h2⟩) (done x)
theorem m_asg {te : TE} {g : TG} {js : List Nat} {Post : Dt → Oc → Prop} (h : EvM te ρ p c Post) (s : S ps H0 (pre ++ (p, c) :: post) H σ ρ) (k : ∀ d c', Post d c' → ∃ ρ', TgD g js ρ d ρ' ∧ ∀ σ' H', S ps H0 (pre ++ (p, c') :: post) H' σ' ρ' → D.nx σ' H') : tAsg te g D σ H :=
  s.evm h fun v H' d c' hd s' r => by
    obtain ⟨ρ', tg, kk⟩ := k d c' hd
    have sl := s'.sl
    rw [vw_eq] at sl r
    exact tg (ps ++ ks (pre ++ (p, c') :: post)) H' σ v s'.lv sl r _ fun σ2 s2 _ => kk _ _ (s'.slots (by rw [vw_eq]; exact s2))
end
section
variable {ρ : List (Option Dt)} {p : Addr} {c : Oc} {te : TE} {tB : TA} {tt : TT} {d : Dt} {PA : List Dt → Oc → Prop} {PB : Bool → Oc → Prop}
theorem emt_not (h : EmT tt ρ p c (fun b c' => PB (!b) c')) : EmT (tNot tt) ρ p c PB := fun ps H σ l hp ok s Q q => h ps H σ l hp ok s _ fun b H' c' h1 => q (!b) H' c' h1
theorem ema_consP (h : EvP te ρ d) (k : EmA tB ρ p c (fun ds c2 => PA (d :: ds) c2)) : EmA (tCons te tB) ρ p c PA :=
  ema_cons (em_pure h (Post := fun d' c' => d' = d ∧ c' = c) ⟨rfl, rfl⟩) fun d' c' ⟨e, ec⟩ => by subst e; subst ec; exact k
end
theorem ne_looks (car : Car) (F : List Int) : OpD rNe (looksD car F) (looksD car F) (.bl false) := by
  by_cases h : Ap car F
  · rw [looks_ap h]
    exact od_ne rfl rfl rfl (by simp)
  · rw [looks_no h]
    exact od_ne rfl rfl rfl (by simp)
theorem told_rev (t : List (Nat × Bool)) : Dt.tup (t.map lookD ++ (t.map lookD).reverse) = toldD (t ++ t.reverse) := by rw [toldD, List.map_append, List.map_reverse]
theorem draws_word {K : PySem.W.Frag} {ρ : List (Option Dt)} {te : TE} {x : Deed} (h : EvP te ρ (deedD x)) : EvT (tTest (tOp rEq (tOp (rIx K) te (tC (.int 0))) (tC (.str "draw")))) ρ x.draws := by
  cases x <;> exact et_is (et_T (ev_op (ev_op h ev_int (od_ixt rfl)) ev_str od_eqS)) rfl
end Ck
namespace Ck
open PySem PySem.Spec L2
open PyProof.Rows hiding St

/-- the law holds of a script -/
def spLaw (K : PySem.W.Frag) : Sp := fun vs H Q _ => ∃ (a : Addr) (ns : List Int), vs = [.ref a] ∧ SqL K H a (ns.map V.int) ∧ ns.length ≤ 63 ∧ ∀ H', Q (.bl true) H'

section
variable {P : Program} {w : World} {K : PySem.W.Frag} {mg : Str → Option Value} {base : Heap} {k : Nat}

theorem sc_law : FnScope ["_law_script", "_law_deck_here", "_law_cellar_here", "_law_story_here", "_law_known", "_law_carries", "_law_index", "_law_told_here", "_law_found", "_law_turn"] ["_law_script"] (defScope s_law) := ⟨rfl, rfl, rfl, by decide +kernel, rfl, by decide +kernel, by decide +kernel⟩
theorem has_law (T : Bt mg) (D : Dfn K mg "law" s_law) (h_w_deck : Has P w K mg base k "_law_deck" ["_law_script"] (spDk K)) (h_w_cellar : Has P w K mg base k "_law_cellar" ["_law_deck_here", "_law_least"] (spO F_w_cellar)) (h_w_story : Has P w K mg base k "_law_story" ["_law_deck_here", "_law_cellar_here", "_law_most"] (spO F_w_story)) (h_lots : Has P w K mg base k "lots" ["cellar", "story"] (spP F_lots)) (h_w_draw : Has P w K mg base k "_law_draw" ["_law_deck_here", "_law_bound"] (spO F_w_draw)) (h_w_parting : Has P w K mg base k "_law_parting" ["_law_deck_here"] (spO F_w_parting)) (h_w_told : Has P w K mg base k "_law_told" ["_law_deck_here", "_law_known", "_law_carries"] (spO F_w_told)) (h_carried : Has P w K mg base k "carried" ["cellar", "story", "index"] (spP F_carried)) (h_w_state_right : HasG P w K mg base k "_law_state_right" ["_law_cellar_here", "_law_story_here", "_law_known", "_law_carries", "_law_told_here"] (spP F_w_state_right)) (h_looks : Has P w K mg base k "looks" ["cellar", "story", "told"] (spP F_looks)) (h_w_left : Has P w K mg base k "_law_left" ["_law_known", "_law_carries", "_law_told_here"] (spP F_w_left)) (h_w_walk_right : Has P w K mg base k "_law_walk_right" ["_law_cellar_here", "_law_story_here", "_law_known", "_law_carries", "_law_told_here", "_law_lot"] (spP F_w_walk_right)) (h_look_tree : Has P w K mg base k "look_tree" ["cellar", "story", "told"] (spP F_look_tree)) : HasG P w K mg base (k + 1) "law" ["_law_script"] (spLaw K) := by
  have nd := (sc_law).nd
  refine D.hasG sc_law (fun _ _ _ _ _ _ us hl => match us, hl with | [_], _ => rfl) (fun vs H Q E h => ?_) (fun f cdv A outer s H vs Q E hr hgd h => ?_)
  · obtain ⟨a, ns, rfl, _⟩ := h
    rfl
  · obtain ⟨a, ns, rfl, sq, hlen, hq⟩ := h
    have hu := hu_of hr
    refine ⟨_, (pss_cons (ps_set (i := 1) nd rfl (Or.inl rfl) (pe_has h_w_deck hr (by rfl) (pa_cons (pv 0) pa_nil)))
    (pss_cons (ps_set (i := 2) nd rfl (Or.inl rfl) (pe_has h_w_cellar hr (by rfl) (pa_cons (pv 1) (pa_cons pe_int pa_nil))))
    (pss_cons (ps_set (i := 3) nd rfl (Or.inl rfl) (pe_has h_w_story hr (by rfl) (pa_cons (pv 1) (pa_cons (pv 2) (pa_cons pe_int pa_nil)))))
    (pss_cons (ps_if (pt_cmpR op_eq (pe_has h_w_draw hr (by rfl) (pa_cons (pv 1) (pa_cons pe_int pa_nil))) pe_int (nomark _)) (pss_one (ps_asg (pe_has h_w_parting hr (by rfl) (pa_cons (pv 1) pa_nil)) (k_tup (K := K) rfl rfl (pgs_cons (pg_name (i := 2) nd rfl (Or.inl rfl)) (pgs_cons (pg_name (i := 3) nd rfl (Or.inl rfl)) pgs_nil))))) pss_nil)
    (pss_cons (ps_set (i := 4) nd rfl (Or.inl rfl) (pe_has h_lots hr (by rfl) (pa_cons (pv 2) (pa_cons (pv 3) pa_nil))))
    (pss_cons (ps_set (i := 5) nd rfl (Or.inl rfl) pe_dnewK)
    (pss_cons (ps_for PassesOwn.never rfl (pi_range1 (by rfl) T.range (pa_cons (pe_callB (k_len (K := K) rfl) (by rfl) T.len PySem.boot_len (pa_cons (pv 3) pa_nil)) pa_nil)) (pg_name (i := 6) nd rfl (Or.inl rfl)) (pss_one (ps_if (pt_cmpR op_eq (pe_ix (k_ix (K := K) rfl) (pe_ix (k_ix (K := K) rfl) (pv 3) (pv 6) (fun _ _ => rfl)) pe_int (fun _ _ => rfl)) pe_str (nomark _)) (pss_one (ps_dput hu (pv 5) (pv 6) (pe_has h_carried hr (by rfl) (pa_cons (pv 2) (pa_cons (pv 3) (pa_cons (pv 6) pa_nil)))) rfl)) pss_nil)))
    (pss_cons (ps_for PassesOwn.never rfl (k_piT (K := K) rfl (pe_tup (pa_cons (pe_tup pa_nil) (pa_cons (pe_has h_w_told hr (by rfl) (pa_cons (pv 1) (pa_cons (pv 4) (pa_cons (pv 5) pa_nil)))) pa_nil)))) (pg_name (i := 7) nd rfl (Or.inl rfl)) (pss_cons (ps_if (pt_not (pt_val (pe_hasG h_w_state_right hr hgd (by rfl) (pa_cons (pv 2) (pa_cons (pv 3) (pa_cons (pv 4) (pa_cons (pv 5) (pa_cons (pv 7) pa_nil)))))))) (pss_one (ps_ret pe_bl)) pss_nil)
    (pss_cons (ps_if (pt_cmpR op_ne (pe_has h_looks hr (by rfl) (pa_cons (pv 2) (pa_cons (pv 3) (pa_cons (pe_op (k_catA (K := K) rfl) (pv 7) (k_revT (K := K) rfl (pv 7))) pa_nil)))) (pe_has h_looks hr (by rfl) (pa_cons (pv 2) (pa_cons (pv 3) (pa_cons (pv 7) pa_nil)))) (nomark _)) (pss_one (ps_ret pe_bl)) pss_nil)
    (pss_one (ps_if (pt_cmpR op_notN (pe_has h_looks hr (by rfl) (pa_cons (pv 2) (pa_cons (pv 3) (pa_cons (pv 7) pa_nil)))) pe_non (nomark _)) (pss_cons (ps_set (i := 8) nd rfl (Or.inl rfl) (pe_has h_w_left hr (by rfl) (pa_cons (pv 4) (pa_cons (pv 5) (pa_cons (pv 7) pa_nil)))))
    (pss_cons (ps_for PassesOwn.never rfl (pi_range1 (by rfl) T.range (pa_cons (pe_callB (call_min2 rfl) (by rfl) T.min (by decide +kernel) (pa_cons pe_int (pa_cons (pe_callB (k_len (K := K) rfl) (by rfl) T.len PySem.boot_len (pa_cons (pv 8) pa_nil)) pa_nil))) pa_nil)) (pg_name (i := 9) nd rfl (Or.inl rfl)) (pss_one (ps_if (pt_not (pt_val (pe_has h_w_walk_right hr (by rfl) (pa_cons (pv 2) (pa_cons (pv 3) (pa_cons (pv 4) (pa_cons (pv 5) (pa_cons (pv 7) (pa_cons (pe_ix (k_ix (K := K) rfl) (pv 8) (pe_has h_w_draw hr (by rfl) (pa_cons (pv 1) (pa_cons (pe_callB (k_len (K := K) rfl) (by rfl) T.len PySem.boot_len (pa_cons (pv 8) pa_nil)) pa_nil))) (fun _ _ => rfl)) pa_nil))))))))) (pss_one (ps_ret pe_bl)) pss_nil)))
    (pss_one (ps_if (pt_cmpR op_ne (pe_cmpR op_isN (pe_has h_look_tree hr (by rfl) (pa_cons (pv 2) (pa_cons (pv 3) (pa_cons (pv 7) pa_nil)))) pe_non (nomark _)) (pe_cmpR (k_eqD (K := K) rfl hr.units) (pv 8) (pe_lst pa_nil) (nomark _)) (nomark _)) (pss_one (ps_ret pe_bl)) pss_nil)))) pss_nil)))))
    (pss_one (ps_ret pe_bl)))))))))), ?_⟩
    have e00 : hid (ks []) H = H := hid_nil H
    have s0 : S [] H [] H (L2.start ["_law_script", "_law_deck_here", "_law_cellar_here", "_law_story_here", "_law_known", "_law_carries", "_law_index", "_law_told_here", "_law_found", "_law_turn"] [V.ref a]) [some (.adr a), none, none, none, none, none, none, none, none, none] := by
      refine ⟨(fun _ h => nomatch h), ?_, .nil, (fun p c h => by cases h), ?_⟩
      · rw [e00]; exact .refl H
      · show Sl (hid [] (hid (ks []) H)) _ _
        rw [e00]
        exact RA.start (ds := [.adr a]) (.cons (.adr a) .nil) ["_law_script", "_law_deck_here", "_law_cellar_here", "_law_story_here", "_law_known", "_law_carries", "_law_index", "_law_told_here", "_law_found", "_law_turn"]
    refine q_deck s0 rfl sq hlen fun p σ1 H1 s1 => ?_
    refine mq_set (pre := []) (post := []) (Post := fun d c' => ∃ cl, d = cellarD cl ∧ CellarOk cl ∧ c' = .deck 600) (em_call (ema_pure (ea_cons (ev_var (i := 1) rfl) (ea_cons ev_int ea_nil)) ⟨_, ⟨0, rfl, rfl, by omega, rfl⟩, fun d c' ⟨cl, h1, h2, h3⟩ => ⟨cl, h1, h2, h3⟩⟩)) s1 fun σ2 H2 d c' ⟨cl0, hd, hcl0, hc⟩ s2 => ?_
    subst hd
    subst hc
    refine mq_set (pre := []) (post := []) (Post := fun d c' => ∃ st, d = storyD st ∧ TaleOk cl0 st ∧ c' = .deck 2600) (em_call (ema_pure (ea_cons (ev_var (i := 1) rfl) (ea_cons (ev_var (i := 2) rfl) (ea_cons ev_int ea_nil))) ⟨_, ⟨600, cl0, rfl, rfl, by omega, hcl0, rfl⟩, fun d c' ⟨st, h1, h2, h3⟩ => ⟨st, h1, h2, h3⟩⟩)) s2 fun σ3 H3 d c' ⟨st0, hd, htale0, hc⟩ s3 => ?_
    subst hd
    subst hc
    have s3' : S [] H ([] ++ (p, .deck 2600) :: []) H3 σ3 [some (.adr a), some (.adr p), some (cellarD cl0), some (storyD st0), none, none, none, none, none, none] := s3
    refine mj_if (pre := []) (post := []) (fun σ' H' => ∃ cl st m, TaleOk cl st ∧ m ≤ 3000 ∧ S [] H [(p, .deck m)] H' σ' [some (.adr a), some (.adr p), some (cellarD cl), some (storyD st), none, none, none, none, none, none]) (Post := fun b c' => c' = .deck 2601) (emt_T (em_op (P1 := fun d c' => ∃ y, d = .int y ∧ c' = .deck 2601) (em_draw (ev_var (i := 1) rfl) ev_int (by omega) (by decide) (by decide +kernel) fun y h1 h2 => ⟨y, rfl, rfl⟩) fun d c1 ⟨y, hd, hc⟩ => by
      subst hd
      subst hc
      exact em_pure ev_int ⟨_, od_eqI, _, rfl, rfl⟩)) s3' (fun H4 c' hc s4 D' hrt hnx => ?_) (fun H4 c' hc s4 D' hrt hnx => ?_) ?_
    · subst hc
      refine m_asg (pre := []) (post := []) (js := [2, 3]) (Post := fun d c' => ∃ cl st, d = .tup [cellarD cl, storyD st] ∧ TaleOk cl st ∧ c' = .deck 2631) (em_call (ema_pure (ea_cons (ev_var (i := 1) rfl) ea_nil) ⟨_, ⟨2601, rfl, rfl, by omega, rfl⟩, fun d c' ⟨cl, st, h1, h2, h3⟩ => ⟨cl, st, h1, h2, h3⟩⟩)) s4 fun d c' ⟨cl, st, hd, ht, hc⟩ => ?_
      subst hd
      subst hc
      exact ⟨_, tg_two, fun σ5 H5 s5 => hnx _ _ ⟨cl, st, 2631, ht, by omega, s5⟩⟩
    · subst hc
      exact hnx _ _ ⟨cl0, st0, 2601, htale0, by omega, s4⟩
    rintro σ5 H5 ⟨cl, st, m, tale, hm, s5⟩
    have hcl8 := tale.cel.hi
    have hst := tale.sto.hi
    have hcn := car_len cl st
    refine q_set (d := intsD (everyLot cl st)) (ev_call (ea_cons (ev_var (i := 2) rfl) (ea_cons (ev_var (i := 3) rfl) ea_nil)) ⟨cl, st, rfl, tale.cel, tale.sto, rfl⟩) s5 fun σ6 H6 s6 => ?_
    refine q_ownD (pre := [(p, .deck m)]) (post := []) s6 fun pc σ7 H7 s7 => ?_
    refine q_for (List.range st.length) (fun (i : Nat) => .int (i : Int)) (fun i ρ => ρ.set 6 (some (.int (i : Int)))) (fun i os ρ => os = [(p, .deck m), (pc, .dic (carK ((st.zipIdx.take i).filterMap (carry cl st))))] ∧ ∃ e6, ρ = [some (.adr a), some (.adr p), some (cellarD cl), some (storyD st), some (intsD (everyLot cl st)), some (.adr pc), e6, none, none, none])
      (ei_rngN (ea_cons (ev_is (ev_cb (ea_cons (ev_var (i := 3) rfl) ea_nil) cd_lent) (by rw [List.length_map])) ea_nil) (by omega)) (fun x ρ' => tg_name) s7 ⟨rfl, none, rfl⟩ ?_ ?_
    · rintro H8 e l i0 i os' ρ' H' σ' hi ⟨rfl, e6, rfl⟩ s8 D' hrt hnx
      obtain ⟨hil, hiv⟩ := List.getElem?_eq_some_iff.mp hi
      rw [List.getElem_range] at hiv
      subst hiv
      rw [List.length_range] at hil
      have hx : st[i0]? = some st[i0] := List.getElem?_eq_getElem hil
      generalize st[i0] = x at hx
      have hcell : EvP _ [some (.adr a), some (.adr p), some (cellarD cl), some (storyD st), some (intsD (everyLot cl st)), some (.adr pc), some (.int (i0 : Int)), none, none, none] (deedD x) := ev_op (ev_var (i := 3) rfl) (ev_var (i := 6) rfl) (od_ixt (K := K) (d := deedD x) (atI_nat (by rw [List.getElem?_map, hx]; rfl)))
      cases x with
      | draw k' a' b' =>
        have hmem : (i0, if 0 < a' then (nowAt cl st i0).getD k' [] else []) ∈ carriedLots cl st := List.mem_filterMap.mpr ⟨(.draw k' a' b', i0), List.mem_zipIdx_iff_getElem?.mpr hx, rfl⟩
        have hlk := lookC_of (car_up cl st) hmem
        refine s_ifT (et_is (draws_word hcell) rfl) s8 fun H9 s9 => ?_
        refine s_dput (pre := [(p, .deck m)]) (post := []) (k := .inl (i0 : Int)) (d := intsD (lookC (carriedLots cl st) i0)) s9 (ev_call (ea_cons (ev_var (i := 2) rfl) (ea_cons (ev_var (i := 3) rfl) (ea_cons (ev_var (i := 6) rfl) ea_nil))) ⟨cl, st, i0, k', a', b', rfl, tale.cel, tale.sto, hx, rfl⟩) (ev_var (i := 5) rfl) (ev_var (i := 6) rfl) (by have := take_len (c := cl) (i := i0) hst; rw [List.length_map]; omega) fun H10 s10 => ?_
        refine hnx _ _ _ _ ⟨?_, _, rfl⟩ s10
        rw [putD_new, take_car hx, carK, carK, List.map_append, hlk]
        · rfl
        · intro kv hkv z
          obtain ⟨q, hq', e⟩ := List.mem_map.mp hkv
          have := take_key hq'
          subst e
          have z' := Sum.inl.inj z
          omega
      | move i j a' b' => exact s_ifF (et_is (draws_word hcell) rfl) s8 fun H9 s9 => hnx _ _ _ _ ⟨by rw [take_car hx], _, rfl⟩ (by simpa [carry] using s9)
      | swap i j a' b' => exact s_ifF (et_is (draws_word hcell) rfl) s8 fun H9 s9 => hnx _ _ _ _ ⟨by rw [take_car hx], _, rfl⟩ (by simpa [carry] using s9)
      | keep i a' b' => exact s_ifF (et_is (draws_word hcell) rfl) s8 fun H9 s9 => hnx _ _ _ _ ⟨by rw [take_car hx], _, rfl⟩ (by simpa [carry] using s9)
      | add i f' => exact s_ifF (et_is (draws_word hcell) rfl) s8 fun H9 s9 => hnx _ _ _ _ ⟨by rw [take_car hx], _, rfl⟩ (by simpa [carry] using s9)
    rintro os' ρ' H8 σ8 ⟨rfl, e6, rfl⟩ s8
    rw [List.length_range, show st.zipIdx.take st.length = st.zipIdx from by rw [← List.length_zipIdx (l := st) (i := 0)]; exact List.take_length] at s8
    have s9 := S.freezeU (pre := [(p, .deck m)]) (post := []) (i := 5) s8 rfl
    refine mq_forT (pre := []) (post := []) (js := [7]) (β := List (Nat × Bool)) (fun t => [[], t]) toldD (fun t c' => (t.length ≤ 2 ∧ ∀ q ∈ t, q.1 ∈ (carriedLots cl st).map (·.1)) ∧ c' = .deck (m + 20)) (fun x ρ => ρ.set 7 (some (toldD x))) (fun t i os ρ => (t.length ≤ 2 ∧ ∀ q ∈ t, q.1 ∈ (carriedLots cl st).map (·.1)) ∧ ∃ m1 e7 e8 e9, m1 ≤ m + 20 + 10 * i ∧ os = [(p, .deck m1)] ∧ ρ = [some (.adr a), some (.adr p), some (cellarD cl), some (storyD st), some (intsD (everyLot cl st)), some (.dicu (carK (carriedLots cl st))), e6, e7, e8, e9])
      (em_tup (ema_consP (ev_tup ea_nil (Nat.le_of_ble_eq_true rfl)) (ema_cons (P1 := fun d c' => ∃ t, d = toldD t ∧ (t.length ≤ 2 ∧ ∀ q ∈ t, q.1 ∈ (carriedLots cl st).map (·.1)) ∧ c' = .deck (m + 20)) (em_call (ema_pure (ds := [.adr p, intsD (everyLot cl st), carD (carriedLots cl st)]) (ea_cons (ev_var (i := 1) rfl) (ea_cons (ev_var (i := 4) rfl) (ea_cons (ev_du (ev_var (i := 5) rfl)) ea_nil))) ⟨_, ⟨m, everyLot cl st, carriedLots cl st, rfl, rfl, by omega, by have := tale.few; omega, by omega, car_up cl st, rfl⟩, fun d c' ⟨t, h1, h2, h3, h4⟩ => ⟨t, h1, ⟨h2, h3⟩, h4⟩⟩)) fun d1 c1 ⟨t, hd1, ht, hc1⟩ => by
        subst hd1
        subst hc1
        exact ema_nil ⟨Nat.le_of_ble_eq_true rfl, t, rfl, ht, rfl⟩))) (fun x ρ' => tg_name) s9 (fun t c' ⟨ht, hc⟩ => ⟨ht, m + 20, none, none, none, by omega, by rw [hc]; rfl, rfl⟩) ?_ ?_
    · rintro t H10 e l i tt os' ρ' H' σ' hx ⟨ht, m1, e7, e8, e9, hm1, rfl, rfl⟩ s10 D' hrt hnx
      have hi2 : i < 2 := (List.getElem?_eq_some_iff.mp hx).1
      have htt : tt.length ≤ 2 ∧ ∀ q ∈ tt, q.1 ∈ (carriedLots cl st).map (·.1) := by
        have := List.mem_of_getElem? hx
        simp only [List.mem_cons, List.not_mem_nil, or_false] at this
        rcases this with e | e
        · subst e; exact ⟨Nat.zero_le _, fun _ h => nomatch h⟩
        · subst e; exact ht
      have hdr : ∀ q ∈ tt, ∃ k a b, st[q.1]? = some (.draw k a b) := fun q hq' => by
        obtain ⟨pp, hpp, e⟩ := List.mem_map.mp (htt.2 q hq')
        obtain ⟨k, a, b, h, _⟩ := mem_car hpp
        exact ⟨k, a, b, by rw [← e]; exact h⟩
      have okS : StateOk cl st tt := ⟨tale.cel, tale.sto, tale.few, ⟨by have := htt.1; omega, hdr⟩⟩
      have okR : StateOk cl st (tt ++ tt.reverse) := ⟨tale.cel, tale.sto, tale.few, ⟨by rw [List.length_append, List.length_reverse]; have := htt.1; omega, fun q hq' => by
        rcases List.mem_append.mp hq' with z | z
        · exact hdr q z
        · exact hdr q (List.mem_reverse.mp z)⟩⟩
      have h2 := htt.1
      have hfl := okS.len
      have hev := tale.few
      have s11 := s10.as (ρ' := [some (.adr a), some (.adr p), some (cellarD cl), some (storyD st), some (intsD (everyLot cl st)), some (.dicu (carK (carriedLots cl st))), e6, some (toldD tt), e8, e9]) rfl
      refine q_gd (et_is (et_not (et_B (ev_call (d := .bl true) (ea_cons (ev_var (i := 2) rfl) (ea_cons (ev_var (i := 3) rfl) (ea_cons (ev_var (i := 4) rfl) (ea_cons (ev_var (i := 5) rfl) (ea_cons (ev_var (i := 7) rfl) ea_nil))))) ⟨cl, st, tt, rfl, okS, by omega, rfl⟩))) rfl) s11 fun H12 s12 => ?_
      refine q_gd (et_T (ev_op (ev_call (ds := [cellarD cl, storyD st, toldD (tt ++ tt.reverse)]) (d := looksD (carriedLots cl st) (fitting cl st tt)) (ea_cons (ev_var (i := 2) rfl) (ea_cons (ev_var (i := 3) rfl) (ea_cons (ev_is (ev_op (ev_var (i := 7) rfl) (ev_revT (ev_var (i := 7) rfl)) (od_catT (by rw [List.length_reverse, List.length_map]; omega))) (told_rev tt)) ea_nil))) ⟨cl, st, tt ++ tt.reverse, rfl, okR, by rw [fit_twice]⟩) (ev_call (d := looksD (carriedLots cl st) (fitting cl st tt)) (ea_cons (ev_var (i := 2) rfl) (ea_cons (ev_var (i := 3) rfl) (ea_cons (ev_var (i := 7) rfl) ea_nil))) ⟨cl, st, tt, rfl, okS, rfl⟩) (ne_looks _ _))) s12 fun H13 s13 => ?_
      by_cases hap : Ap (carriedLots cl st) (fitting cl st tt)
      · refine s_ifT (et_T (ev_op (ev_call (d := .int ((depth (carriedLots cl st) (fitting cl st tt) : Nat) : Int)) (ea_cons (ev_var (i := 2) rfl) (ea_cons (ev_var (i := 3) rfl) (ea_cons (ev_var (i := 7) rfl) ea_nil))) ⟨cl, st, tt, rfl, okS, by rw [looks_ap hap]⟩) ev_non (od_notN fun G v r => by rw [int_is _ G v r]; rfl))) s13 fun H14 s14 => ?_
        refine q_set (d := intsD (fitting cl st tt)) (ev_call (ds := [intsD (everyLot cl st), carD (carriedLots cl st), toldD tt]) (ea_cons (ev_var (i := 4) rfl) (ea_cons (ev_du (ev_var (i := 5) rfl)) (ea_cons (ev_var (i := 7) rfl) ea_nil))) ⟨carriedLots cl st, everyLot cl st, tt, rfl, by omega, by omega, htt.2, by rw [left_fit]⟩) s14 fun σ15 H15 s15 => ?_
        refine q_for (List.range (min 4 (fitting cl st tt).length)) (fun (i : Nat) => .int (i : Int)) (fun i ρ => ρ.set 9 (some (.int (i : Int)))) (fun j os ρ => ∃ m2 e9, m2 ≤ m1 + j ∧ os = [(p, .deck m2)] ∧ ρ = [some (.adr a), some (.adr p), some (cellarD cl), some (storyD st), some (intsD (everyLot cl st)), some (.dicu (carK (carriedLots cl st))), e6, some (toldD tt), some (intsD (fitting cl st tt)), e9])
          (ei_rngN (ea_cons (ev_is (ev_cb (ea_cons ev_int (ea_cons (ev_cb (ea_cons (ev_var (i := 8) rfl) ea_nil) cd_lenl) ea_nil)) cd_min2) (by rw [List.length_map]; congr 1; omega)) ea_nil) (by omega)) (fun x ρ' => tg_name) s15 ⟨m1, e9, by omega, rfl, rfl⟩ ?_ ?_
        · rintro H16 e' l' j0 j os' ρ' H' σ' hj ⟨m2, e9', hm2, rfl, rfl⟩ s16 D'' hrt' hnx'
          have hj4 := (List.getElem?_eq_some_iff.mp hj).1
          rw [List.length_range] at hj4
          refine m_if (pre := []) (post := []) (Post := fun b c' => b = false ∧ c' = .deck (m2 + 1)) (emt_not (emt_B (em_callP (ema_consP (ev_var (i := 2) rfl) (ema_consP (ev_var (i := 3) rfl) (ema_consP (ev_var (i := 4) rfl) (ema_consP (ev_du (ev_var (i := 5) rfl)) (ema_consP (ev_var (i := 7) rfl) (ema_cons (P1 := fun d c' => ∃ z, d = .int z ∧ z ∈ (fitting cl st tt) ∧ c' = .deck (m2 + 1)) (em_op (P1 := fun d c' => d = intsD (fitting cl st tt) ∧ c' = .deck m2) (em_pure (ev_var (i := 8) rfl) ⟨rfl, rfl⟩) fun d1 c1 ⟨hd1, hc1⟩ => by
            subst hd1
            subst hc1
            refine em_draw (b := ((fitting cl st tt).length : Int)) (ev_var (i := 1) rfl) (ev_is (ev_cb (ea_cons (ev_var (i := 8) rfl) ea_nil) cd_lenl) (by rw [List.length_map])) (by omega) (by omega) (by omega) fun y h1 h2 => ?_
            obtain ⟨z, hz, ho⟩ := int_pick (K := K) h1 h2
            exact ⟨_, ho, z, rfl, hz, rfl⟩) fun d1 c1 ⟨z, hd1, hz, hc1⟩ => by
              subst hd1
              subst hc1
              exact ema_nil ⟨.bl true, ⟨cl, st, tt, z, rfl, okS, by omega, hap, hz, rfl⟩, true, rfl, rfl, rfl⟩))))))))) s16 (fun H17 c' ⟨h, _⟩ _ => by cases h) (fun H17 c' ⟨_, hc⟩ s17 => ?_)
          subst hc
          exact hnx' _ _ _ _ ⟨m2 + 1, _, by omega, rfl, rfl⟩ s17
        · rintro os' ρ' H' σ' ⟨m2, e9', hm2, rfl, rfl⟩ s16
          rw [List.length_range] at hm2
          by_cases hne : (fitting cl st tt) = []
          · refine s_gd (et_is (et_T (ev_op (ev_op (ev_call (d := .non) (ea_cons (ev_var (i := 2) rfl) (ea_cons (ev_var (i := 3) rfl) (ea_cons (ev_var (i := 7) rfl) ea_nil))) ⟨cl, st, tt, rfl, okS, by rw [hne, tree_nil]⟩) ev_non (od_isN non_is)) (ev_op (ev_var (i := 8) rfl) (ev_lst ea_nil (Nat.le_of_ble_eq_true rfl)) (eq_nil (ns := (fitting cl st tt)))) od_neB)) (by rw [hne]; rfl)) s16 fun H17 s17 => hnx _ _ _ _ ⟨ht, m2, _, _, _, by omega, rfl, rfl⟩ s17
          · obtain ⟨ds, hds⟩ := tree_tup (carriedLots cl st) (fitting cl st tt)
            refine s_gd (et_is (et_T (ev_op (ev_op (ev_call (d := .tup ds) (ea_cons (ev_var (i := 2) rfl) (ea_cons (ev_var (i := 3) rfl) (ea_cons (ev_var (i := 7) rfl) ea_nil))) ⟨cl, st, tt, rfl, okS, by rw [tree_ap hap hne, hds]⟩) ev_non (od_isN (tup_is ds))) (ev_op (ev_var (i := 8) rfl) (ev_lst ea_nil (Nat.le_of_ble_eq_true rfl)) (eq_nil (ns := (fitting cl st tt)))) od_neB)) (by rw [List.isEmpty_eq_false_iff.mpr hne]; rfl)) s16 fun H17 s17 => hnx _ _ _ _ ⟨ht, m2, _, _, _, by omega, rfl, rfl⟩ s17
      · refine s_ifF (et_T (ev_op (ev_call (d := .non) (ea_cons (ev_var (i := 2) rfl) (ea_cons (ev_var (i := 3) rfl) (ea_cons (ev_var (i := 7) rfl) ea_nil))) ⟨cl, st, tt, rfl, okS, by rw [looks_no hap]⟩) ev_non (od_notN fun G v r => by rw [non_is G v r]; rfl))) s13 fun H14 s14 => hnx _ _ _ _ ⟨ht, m1, _, _, _, by omega, rfl, rfl⟩ s14
    · rintro t os' ρ' H' σ' ⟨ht, m1, e7, e8, e9, hm1, rfl, rfl⟩ s10
      exact s_ret ev_bl s10 fun v H'' os'' σ'' ρ'' s' r => by cases r; exact hq H''
end
end Ck
namespace CkHead
open PySem PySem.Spec PyProof.Rows L2 Ck
def d_is_integer : He.DefD := ⟨("is_integer", none), "is_integer", "is_integer", defArgs s_is_integer, defBody s_is_integer, defScope s_is_integer, [], []⟩
def d_is_kind : He.DefD := ⟨("is_kind", none), "is_kind", "is_kind", defArgs s_is_kind, defBody s_is_kind, defScope s_is_kind, [], []⟩
def d_is_fraction : He.DefD := ⟨("is_fraction", none), "is_fraction", "is_fraction", defArgs s_is_fraction, defBody s_is_fraction, defScope s_is_fraction, [], []⟩
def d_is_share : He.DefD := ⟨("is_share", none), "is_share", "is_share", defArgs s_is_share, defBody s_is_share, defScope s_is_share, [], []⟩
def d_is_fill : He.DefD := ⟨("is_fill", none), "is_fill", "is_fill", defArgs s_is_fill, defBody s_is_fill, defScope s_is_fill, [], []⟩
def d_is_cellar : He.DefD := ⟨("is_cellar", none), "is_cellar", "is_cellar", defArgs s_is_cellar, defBody s_is_cellar, defScope s_is_cellar, [], []⟩
def d_need_cellar : He.DefD := ⟨("need_cellar", none), "need_cellar", "need_cellar", defArgs s_need_cellar, defBody s_need_cellar, defScope s_need_cellar, [], []⟩
def d_is_place : He.DefD := ⟨("is_place", none), "is_place", "is_place", defArgs s_is_place, defBody s_is_place, defScope s_is_place, [], []⟩
def d_is_deed : He.DefD := ⟨("is_deed", none), "is_deed", "is_deed", defArgs s_is_deed, defBody s_is_deed, defScope s_is_deed, [], []⟩
def d_casks_of : He.DefD := ⟨("casks_of", none), "casks_of", "casks_of", defArgs s_casks_of, defBody s_casks_of, defScope s_casks_of, [], []⟩
def d_is_deed_of : He.DefD := ⟨("is_deed_of", none), "is_deed_of", "is_deed_of", defArgs s_is_deed_of, defBody s_is_deed_of, defScope s_is_deed_of, [], []⟩
def d_need_story : He.DefD := ⟨("need_story", none), "need_story", "need_story", defArgs s_need_story, defBody s_need_story, defScope s_need_story, [], []⟩
def d_is_draw : He.DefD := ⟨("is_draw", none), "is_draw", "is_draw", defArgs s_is_draw, defBody s_is_draw, defScope s_is_draw, [], []⟩
def d_need_draw : He.DefD := ⟨("need_draw", none), "need_draw", "need_draw", defArgs s_need_draw, defBody s_need_draw, defScope s_need_draw, [], []⟩
def d_every_lot : He.DefD := ⟨("every_lot", none), "every_lot", "every_lot", defArgs s_every_lot, defBody s_every_lot, defScope s_every_lot, [], []⟩
def d_ways_over : He.DefD := ⟨("ways_over", none), "ways_over", "ways_over", defArgs s_ways_over, defBody s_ways_over, defScope s_ways_over, [], []⟩
def d_emptied : He.DefD := ⟨("emptied", none), "emptied", "emptied", defArgs s_emptied, defBody s_emptied, defScope s_emptied, [], []⟩
def d_lots_ahead : He.DefD := ⟨("lots_ahead", none), "lots_ahead", "lots_ahead", defArgs s_lots_ahead, defBody s_lots_ahead, defScope s_lots_ahead, [], []⟩
def d_carried_lots : He.DefD := ⟨("carried_lots", none), "carried_lots", "carried_lots", defArgs s_carried_lots, defBody s_carried_lots, defScope s_carried_lots, [], []⟩
def d_lots : He.DefD := ⟨("lots", none), "lots", "lots", defArgs s_lots, defBody s_lots, defScope s_lots, [], []⟩
def d_carried : He.DefD := ⟨("carried", none), "carried", "carried", defArgs s_carried, defBody s_carried, defScope s_carried, [], []⟩
def d_is_look : He.DefD := ⟨("is_look", none), "is_look", "is_look", defArgs s_is_look, defBody s_is_look, defScope s_is_look, [], []⟩
def d_need_told : He.DefD := ⟨("need_told", none), "need_told", "need_told", defArgs s_need_told, defBody s_need_told, defScope s_need_told, [], []⟩
def d_fitting_lots : He.DefD := ⟨("fitting_lots", none), "fitting_lots", "fitting_lots", defArgs s_fitting_lots, defBody s_fitting_lots, defScope s_fitting_lots, [], []⟩
def d_suspects : He.DefD := ⟨("suspects", none), "suspects", "suspects", defArgs s_suspects, defBody s_suspects, defScope s_suspects, [], []⟩
def d_tests_of : He.DefD := ⟨("tests_of", none), "tests_of", "tests_of", defArgs s_tests_of, defBody s_tests_of, defScope s_tests_of, [], []⟩
def d_are_told_apart : He.DefD := ⟨("are_told_apart", none), "are_told_apart", "are_told_apart", defArgs s_are_told_apart, defBody s_are_told_apart, defScope s_are_told_apart, [], []⟩
def d_least_depth : He.DefD := ⟨("least_depth", none), "least_depth", "least_depth", defArgs s_least_depth, defBody s_least_depth, defScope s_least_depth, [], []⟩
def d_tree_of : He.DefD := ⟨("tree_of", none), "tree_of", "tree_of", defArgs s_tree_of, defBody s_tree_of, defScope s_tree_of, [], []⟩
def d_looks : He.DefD := ⟨("looks", none), "looks", "looks", defArgs s_looks, defBody s_looks, defScope s_looks, [], []⟩
def d_look_tree : He.DefD := ⟨("look_tree", none), "look_tree", "look_tree", defArgs s_look_tree, defBody s_look_tree, defScope s_look_tree, [], []⟩
def d_w_deck : He.DefD := ⟨("_law_deck", none), "_law_deck", "_law_deck", defArgs s_w_deck, defBody s_w_deck, defScope s_w_deck, [], []⟩
def d_w_draw : He.DefD := ⟨("_law_draw", none), "_law_draw", "_law_draw", defArgs s_w_draw, defBody s_w_draw, defScope s_w_draw, [], []⟩
def d_w_fraction : He.DefD := ⟨("_law_fraction", none), "_law_fraction", "_law_fraction", defArgs s_w_fraction, defBody s_w_fraction, defScope s_w_fraction, [], []⟩
def d_w_share : He.DefD := ⟨("_law_share", none), "_law_share", "_law_share", defArgs s_w_share, defBody s_w_share, defScope s_w_share, [], []⟩
def d_w_amount : He.DefD := ⟨("_law_amount", none), "_law_amount", "_law_amount", defArgs s_w_amount, defBody s_w_amount, defScope s_w_amount, [], []⟩
def d_w_kind : He.DefD := ⟨("_law_kind", none), "_law_kind", "_law_kind", defArgs s_w_kind, defBody s_w_kind, defScope s_w_kind, [], []⟩
def d_w_fill : He.DefD := ⟨("_law_fill", none), "_law_fill", "_law_fill", defArgs s_w_fill, defBody s_w_fill, defScope s_w_fill, [], []⟩
def d_w_cellar : He.DefD := ⟨("_law_cellar", none), "_law_cellar", "_law_cellar", defArgs s_w_cellar, defBody s_w_cellar, defScope s_w_cellar, [], []⟩
def d_w_deed : He.DefD := ⟨("_law_deed", none), "_law_deed", "_law_deed", defArgs s_w_deed, defBody s_w_deed, defScope s_w_deed, [], []⟩
def d_w_story : He.DefD := ⟨("_law_story", none), "_law_story", "_law_story", defArgs s_w_story, defBody s_w_story, defScope s_w_story, [], []⟩
def d_w_parting : He.DefD := ⟨("_law_parting", none), "_law_parting", "_law_parting", defArgs s_w_parting, defBody s_w_parting, defScope s_w_parting, [], []⟩
def d_w_integer : He.DefD := ⟨("_law_integer", none), "_law_integer", "_law_integer", defArgs s_w_integer, defBody s_w_integer, defScope s_w_integer, [], []⟩
def d_w_left : He.DefD := ⟨("_law_left", none), "_law_left", "_law_left", defArgs s_w_left, defBody s_w_left, defScope s_w_left, [], []⟩
def d_w_state_right : He.DefD := ⟨("_law_state_right", none), "_law_state_right", "_law_state_right", defArgs s_w_state_right, defBody s_w_state_right, defScope s_w_state_right, [], []⟩
def d_w_walk_right : He.DefD := ⟨("_law_walk_right", none), "_law_walk_right", "_law_walk_right", defArgs s_w_walk_right, defBody s_w_walk_right, defScope s_w_walk_right, [], []⟩
def d_w_told : He.DefD := ⟨("_law_told", none), "_law_told", "_law_told", defArgs s_w_told, defBody s_w_told, defScope s_w_told, [], []⟩
def d_law : He.DefD := ⟨("law", none), "law", "law", defArgs s_law, defBody s_law, defScope s_law, [], []⟩
def fn0 : List He.DefD := [d_is_integer, d_is_kind, d_is_fraction, d_is_share, d_is_fill, d_is_cellar, d_need_cellar, d_is_place, d_is_deed, d_casks_of, d_is_deed_of, d_need_story, d_is_draw, d_need_draw, d_every_lot, d_ways_over, d_emptied, d_lots_ahead, d_carried_lots, d_lots, d_carried, d_is_look, d_need_told, d_fitting_lots, d_suspects, d_tests_of, d_are_told_apart, d_least_depth, d_tree_of, d_looks]
def fn1 : List He.DefD := [d_look_tree, d_w_deck, d_w_draw, d_w_fraction, d_w_share, d_w_amount, d_w_kind, d_w_fill, d_w_cellar, d_w_deed, d_w_story, d_w_parting, d_w_integer, d_w_left, d_w_state_right, d_w_walk_right, d_w_told, d_law]
def fn : List He.DefD := fn0 ++ fn1
def fa0 : List He.Fa := [.glo "is_integer", .glo "is_kind", .glo "is_fraction", .glo "is_share", .glo "is_fill", .glo "is_cellar", .glo "need_cellar", .glo "is_place", .glo "is_deed", .glo "casks_of", .glo "is_deed_of", .glo "need_story", .glo "is_draw", .glo "need_draw", .glo "every_lot", .glo "ways_over", .glo "emptied", .glo "lots_ahead", .glo "carried_lots", .glo "lots", .glo "carried", .glo "is_look", .glo "need_told", .glo "fitting_lots", .glo "suspects", .glo "tests_of", .glo "are_told_apart", .glo "least_depth", .glo "tree_of", .glo "looks"]
def fa1 : List He.Fa := [.glo "look_tree", .glo "_law_deck", .glo "_law_draw", .glo "_law_fraction", .glo "_law_share", .glo "_law_amount", .glo "_law_kind", .glo "_law_fill", .glo "_law_cellar", .glo "_law_deed", .glo "_law_story", .glo "_law_parting", .glo "_law_integer", .glo "_law_left", .glo "_law_state_right", .glo "_law_walk_right", .glo "_law_told", .glo "law", .free "abs", .free "all", .free "bool", .free "enumerate", .free "int", .free "isinstance", .free "len", .free "list", .free "max", .free "min", .free "range", .free "repr"]
def fa2 : List He.Fa := [.free "set", .free "sorted", .free "str", .free "sum", .free "tuple", .free "zip"]
def fa : List He.Fa := fa0 ++ fa1 ++ fa2
def loose0 : List PySem.Str := ["CaskError", "InvalidCellar", "BadStory", "BadTold", "anew", "is_integer", "is_kind", "is_fraction", "is_share", "is_fill", "is_cellar", "need_cellar", "is_place", "is_deed", "casks_of", "is_deed_of", "need_story", "is_draw", "need_draw", "every_lot", "ways_over", "emptied", "lots_ahead", "carried_lots", "lots", "carried", "is_look", "need_told", "fitting_lots", "suspects"]
def loose1 : List PySem.Str := ["tests_of", "are_told_apart", "least_depth", "tree_of", "looks", "look_tree", "_law_deck", "_law_draw", "_law_fraction", "_law_share", "_law_amount", "_law_kind", "_law_fill", "_law_cellar", "_law_deed", "_law_story", "_law_parting", "_law_integer", "_law_left", "_law_state_right", "_law_walk_right", "_law_told"]
def loose : List PySem.Str := loose0 ++ loose1
abbrev R : PySem.W.OpenRow := PySem.W.OpenLaw.row PySem.Challenge.rw_caskyears_k88_whole_looks_one_by_one
/-- the name that an import binds -/
def gcdB (K : PySem.W.Frag) : Bool := He.eqO (PySem.W.nsIn K mainGlobals "gcd") (some (some (.builtin "math.gcd")))
def obsK (K : PySem.W.Frag) : Bool × He.AlD := (gcdB K, He.obsD fa fn K)
def valK : Bool × He.AlD := (true, He.valD fn)
def obsKG (g : Addr → Option Obj) : Bool × He.AlD := obsK (He.frG g (He.asD g 4))
def hk : PySem.W.Hook where
  α := Bool × He.AlD
  obs := fun s => obsKG s.heap.get?
  val := fun _ => valK
  says := fun _ h => ∃ K : PySem.W.Frag, K.In h ∧ obsK K = valK
  of := fun _ _ e => ⟨_, He.frG_in, e⟩
  keeps := fun _ _ _ ⟨K, hK, c⟩ k => ⟨K, PySem.W.Frag.In.keeps hK k, c⟩
def ob (s : PySem.W.SharedT) : Bool × He.AlD := obsKG (HandSHeadRun.getT s)
theorem ob_eq (s : PySem.W.SharedT) : ob s = hk.obs s.abs := by
  have e : HandSHeadRun.getT s = s.abs.heap.get? := funext (HandSHeadRun.getT_eq s)
  unfold ob
  rw [e]
  rfl
theorem run (w : World) : HandSHeadRun.RunEqI R (PySem.W.view R.prog [0, 60]) hk ob 6000 loose w := by
  unfold HandSHeadRun.RunEqI
  kernel_rfl
end CkHead
namespace Ck
open PySem PySem.Spec L2
open PyProof.Rows hiding St

/-- the law's call, no comparison or repr under way -/
theorem law_callG {P : Program} {w : World} {K : PySem.W.Frag} {mg mb : Str → Option Value} {k : Nat} {fa a : Addr} {fd : FuncData} {x : Str} {sp : Sp} {s₁ : Shared} {vs : List Value} {ns : List Int}
    (KX : K.In s₁.heap) (hns : s₁.heap.Ns mainGlobals mg) (hb : s₁.heap.Ns builtinsNs mb) (hbb : ∀ x : Str, x ≠ "__name__" → mb x = bootBuiltins x) (hlim : s₁.heap.NoLimit) (hg : s₁.gens = #[])
    (ha : s₁.heap.get? a = some { cls := .type "list", data := .seq vs.toArray }) (hi : IntsAre vs ns) (hl : ns.length ≤ sizeLine) (hr : Room k callerA)
    (F : ∀ base : Heap, K.In base → base.Ns mainGlobals mg → FnG P w K mg base k fa fd [x] sp) (hbind : ∀ (s : Shared) (u : Value), BindsTo s fd ⟨[u], []⟩ [(x, u)])
    (hsp : ∀ H : Hp, Only H → SqL K H a (ns.map V.int) → sp [.ref a] H (fun v _ => v = .bl true) fun _ _ _ => False) :
    codeAny (model P w) callerA (.call (.ref fa) ⟨[.ref a], []⟩) (fun r s' => r = .ok (.ret (.bool true)) ∧ OldK s₁.heap s'.heap ∧ s'.os = s₁.os ∧ AllBare s'.gens) s₁ := by
  have rv := vals_ints hi
  have lenV := hi.length
  have core : ∀ H : Hp, Only H → SqL K H a (ns.map V.int) → HOk P w H s₁.heap → (∀ b, H b ≠ none → b = a) → (H a ≠ none → K.lookup a = none) →
      codeAny (model P w) callerA (.call (.ref fa) ⟨[.ref a], []⟩) (fun r s' => r = .ok (.ret (.bool true)) ∧ OldK s₁.heap s'.heap ∧ s'.os = s₁.os ∧ AllBare s'.gens) s₁ := by
    intro H hO hS hok hA hK
    have base_of : ∀ {b : Addr} {o : Obj}, s₁.heap.get? b = some o → H b = none → (hidT s₁.heap H).get? b = some o := fun e n => hidT_get e n
    have noA : ∀ {b : Addr} {o : Obj} {es : Array DictEntry} {ep : Nat}, s₁.heap.get? b = some o → o.data = .dict es ep → H b = none := fun {b o es ep} e d => by
      cases q : H b with
      | none => rfl
      | some u =>
        have e' : b = a := hA b (by rw [q]; simp)
        subst e'
        rw [ha] at e; cases e
        have d' : Data.seq vs.toArray _ = Data.dict es ep := d
        cases d'
    have nsK : ∀ {b : Addr} {m : Str → Option Value}, s₁.heap.Ns b m → (hidT s₁.heap H).Ns b m := fun {b m} ⟨o, es, ep, e, d, r⟩ => ⟨o, es, ep, base_of e (noA e d), d, r⟩
    have hKb : K.In (hidT s₁.heap H) := fun b o e => base_of (KX b o e) (by
      cases q : H b with
      | none => rfl
      | some u =>
        have e' : b = a := hA b (by rw [q]; simp)
        subst e'
        rw [hK (by rw [q]; simp)] at e; cases e)
    have hM : Mod K mg (hidT s₁.heap H) := ⟨hKb, nsK hns, ⟨mb, nsK hb, hbb⟩, let ⟨mc, h1, h2⟩ := hlim; ⟨mc, nsK h1, h2⟩⟩
    have e0 : Env0 P w K mg (hidT s₁.heap H) callerA [] s₁ H := ⟨rfl, hM, fun b o e => of_hidT e, Nat.le_of_eq (hidT_size _ _), trivial, fun b hb => absurd (show b ∈ ([] : List Addr) from hb) (by simp), hok, .of_eq hg⟩
    refine codeAny_mono ((F _ hKb (nsK hns)).run callerA [] s₁ H ⟨[.ref a], []⟩ [.ref a] [.ref a] _ _ hr rfl e0 (hbind s₁ (.ref a)) (.cons rfl .nil) (hsp H hO hS)) fun r s' h => ?_
    cases r with
    | error e => exact False.elim h
    | ok fl =>
      cases fl with
      | next => exact False.elim h
      | brk => exact False.elim h
      | cont => exact False.elim h
      | ret u =>
        obtain ⟨v, H', os, bare, un, hok', r', q⟩ := h
        have q' : v = .bl true := q
        subst q'
        obtain rfl : u = Value.bool true := r'
        refine ⟨rfl, OldK.of_keep fun b o e => ?_, os, bare⟩
        cases q : H b with
        | none => exact un.keep b o e q (by intro z; exact absurd (show b ∈ ([] : List Addr) from z) (by simp)) (by simp)
        | some u =>
          rcases hO b with z | ⟨ob, xs, z⟩
          · rw [q] at z; cases z
          · have z2 := un.frzs b ob _ z
            obtain ⟨e1, _⟩ := hok b _ z
            obtain ⟨e2, _⟩ := hok' b _ z2
            rw [e] at e1; cases e1
            exact e2
  cases hk : K.lookup a with
  | some o =>
    have e := KX a o hk
    rw [ha] at e
    cases e
    refine core (fun _ => none) (fun _ => .inl rfl) (.inr ⟨_, vs.toArray, _, hk, rfl, rfl, rfl, by rw [List.size_toArray, lenV]; exact hl, by simpa using rv⟩) (fun b u z => by have z' : (none : Option HO) = some u := z; cases z') (fun b z => absurd rfl z) fun z => absurd rfl z
  | none =>
    refine core (fun b => if b = a then some (.frz { cls := .type "list", data := .seq vs.toArray } (.lst (ns.map V.int))) else none) (fun b => ?_) (.inl (.inr ⟨{ cls := .type "list", data := .seq vs.toArray }, if_pos rfl⟩)) (fun b u z => ?_) (fun b z => ?_) fun _ => hk
    · by_cases hb : b = a
      · exact .inr ⟨_, _, if_pos hb⟩
      · exact .inl (if_neg hb)
    · by_cases hb : b = a
      · have z' := (if_pos hb).symm.trans z
        cases z'
        subst hb
        exact ⟨ha, by rw [List.length_map]; exact hl, vs, _, rv, ha⟩
      · have z' := (if_neg hb).symm.trans z
        cases z'
    · by_cases hb : b = a
      · exact hb
      · exact absurd (if_neg hb) z
theorem walk_ofG {l : PySem.W.OpenLaw} {n k : Nat} {q : Program} {loose : List Str} {XP : (Str → Option Value) → Heap → Prop} {YP : World → Heap → Prop} {d : DefRec} {x : Str}
    (hn : l.most = some n) (hn2 : n ≤ sizeLine) (hdf : d.params.defaults = []) (hr : Room k callerA)
    (F : ∀ (w : World) (mg : Str → Option Value) (fa : Addr) (h : Heap), YP w h → h.Ns mainGlobals mg → mg d.name = some (.ref fa) →
      ∃ (K : PySem.W.Frag) (fd : FuncData) (sp : Sp), K.In h ∧ (∀ (s : Shared) (u : Value), BindsTo s fd ⟨[u], []⟩ [(x, u)]) ∧
        (∀ (H : Hp) (a : Addr) (ns : List Int), ns.length ≤ n → Only H → SqL K H a (ns.map V.int) → sp [.ref a] H (fun v _ => v = .bl true) fun _ _ _ => False) ∧
        ∀ base : Heap, K.In base → base.Ns mainGlobals mg → FnG l.prog w K mg base k fa fd [x] sp) :
    PySem.W.WalkO q loose XP YP l.row.toRowW d [] (fun f vs => PySem.call f vs) := by
  refine Att.attach_call hn hdf fun w s₀ s₁ mg mb fa o pm cd doc a vs ns G Y ho hd hcd hmg hobj hints hlen hg => ?_
  obtain ⟨K, fd, sp, KX, hb, hsp, hF⟩ := F w mg fa _ Y G.T.g hmg
  exact law_callG KX G.T.g G.T.b G.T.builtins G.T.nolimit hg hobj hints (Nat.le_trans hlen hn2) hr hF hb (fun H hO hS => hsp H a ns hlen hO hS)
theorem dfn_of {K : PySem.W.Frag} {mg : Str → Option Value} {x : Str} {st : Stmt} {f : Addr} {fd : FuncData} (F : FunD K x x (defArgs st) (defBody st) (defScope st) [] [] f fd) (h : mg x = some (.ref f)) : Dfn K mg x st := ⟨f, fd, He5.fun_of F, h⟩
theorem HasG.up {P : Program} {w : World} {K : PySem.W.Frag} {mg : Str → Option Value} {base : Heap} {j k : Nat} {x : Str} {ps : List Str} {sp : Sp} (h : HasG P w K mg base j x ps sp) (le : j ≤ k) : HasG P w K mg base k x ps sp := by
  obtain ⟨f, fd, F, r⟩ := h.ex
  exact ⟨f, fd, F.mono le, r⟩
theorem least_all {P : Program} {w : World} {K : PySem.W.Frag} {mg : Str → Option Value} {base : Heap} (T : Bt mg) (D : Dfn K mg "least_depth" s_least_depth) : ∀ j, Has P w K mg base (j + 1) "least_depth" ["tests", "group", "known"] (spO (F_least j))
  | 0 => has_least_depth T D 0 (D.hasF (fun _ _ _ _ _ _ us hl => match us, hl with | [_, _, _], _ => rfl) fun vs H Q E ⟨_, _, _, _, _, _, _, _, _, hF, _⟩ => hF)
  | j + 1 => has_least_depth T D (j + 1) (least_all T D j)
theorem tree_all {P : Program} {w : World} {K : PySem.W.Frag} {mg : Str → Option Value} {base : Heap} (T : Bt mg) (DL : Dfn K mg "least_depth" s_least_depth) (D : Dfn K mg "tree_of" s_tree_of) : ∀ j, Has P w K mg base (17 + j + 1) "tree_of" ["tests", "group", "found", "known"] (spO (F_tree j))
  | 0 => has_tree_of T D (least_all T DL 16) 0 (D.hasF (fun _ _ _ _ _ _ us hl => match us, hl with | [_, _, _, _], _ => rfl) fun vs H Q E ⟨_, _, _, _, _, _, _, _, _, hF, _⟩ => hF)
  | j + 1 => has_tree_of T D ((least_all T DL 16).up (by omega)) (j + 1) (tree_all T DL D j)
section
variable {P : Program} {w : World} {K : PySem.W.Frag} {mg : Str → Option Value} {base : Heap}
/-- all that the text makes of names -/
structure Txt0 (K : PySem.W.Frag) (mg : Str → Option Value) : Prop where
  T : Bt mg
  d_is_integer : Dfn K mg "is_integer" s_is_integer
  d_is_kind : Dfn K mg "is_kind" s_is_kind
  d_is_fraction : Dfn K mg "is_fraction" s_is_fraction
  d_is_share : Dfn K mg "is_share" s_is_share
  d_is_fill : Dfn K mg "is_fill" s_is_fill
  d_is_cellar : Dfn K mg "is_cellar" s_is_cellar
  d_need_cellar : Dfn K mg "need_cellar" s_need_cellar
  d_is_place : Dfn K mg "is_place" s_is_place
  d_is_deed : Dfn K mg "is_deed" s_is_deed
  d_casks_of : Dfn K mg "casks_of" s_casks_of
  d_is_deed_of : Dfn K mg "is_deed_of" s_is_deed_of
  d_need_story : Dfn K mg "need_story" s_need_story
  d_is_draw : Dfn K mg "is_draw" s_is_draw
  d_need_draw : Dfn K mg "need_draw" s_need_draw
  d_every_lot : Dfn K mg "every_lot" s_every_lot
  d_ways_over : Dfn K mg "ways_over" s_ways_over
  d_emptied : Dfn K mg "emptied" s_emptied
  d_lots_ahead : Dfn K mg "lots_ahead" s_lots_ahead
  d_carried_lots : Dfn K mg "carried_lots" s_carried_lots
  d_lots : Dfn K mg "lots" s_lots
  d_carried : Dfn K mg "carried" s_carried
  d_is_look : Dfn K mg "is_look" s_is_look
  d_need_told : Dfn K mg "need_told" s_need_told
  d_fitting_lots : Dfn K mg "fitting_lots" s_fitting_lots
  d_suspects : Dfn K mg "suspects" s_suspects
  d_tests_of : Dfn K mg "tests_of" s_tests_of
  d_are_told_apart : Dfn K mg "are_told_apart" s_are_told_apart
  d_least_depth : Dfn K mg "least_depth" s_least_depth
  d_tree_of : Dfn K mg "tree_of" s_tree_of
  d_looks : Dfn K mg "looks" s_looks
  d_look_tree : Dfn K mg "look_tree" s_look_tree
  d_w_deck : Dfn K mg "_law_deck" s_w_deck
  d_w_draw : Dfn K mg "_law_draw" s_w_draw
  d_w_fraction : Dfn K mg "_law_fraction" s_w_fraction
  d_w_share : Dfn K mg "_law_share" s_w_share
  d_w_amount : Dfn K mg "_law_amount" s_w_amount
  d_w_kind : Dfn K mg "_law_kind" s_w_kind
  d_w_fill : Dfn K mg "_law_fill" s_w_fill
  d_w_cellar : Dfn K mg "_law_cellar" s_w_cellar
  d_w_deed : Dfn K mg "_law_deed" s_w_deed
  d_w_story : Dfn K mg "_law_story" s_w_story
  d_w_parting : Dfn K mg "_law_parting" s_w_parting
  d_w_integer : Dfn K mg "_law_integer" s_w_integer
  d_w_left : Dfn K mg "_law_left" s_w_left
  d_w_state_right : Dfn K mg "_law_state_right" s_w_state_right
  d_w_walk_right : Dfn K mg "_law_walk_right" s_w_walk_right
  d_w_told : Dfn K mg "_law_told" s_w_told
  d_law : Dfn K mg "law" s_law
theorem go_is_integer (X : Txt0 K mg) : Has P w K mg base (0 + 1) "is_integer" ["value"] (spP F_is_integer) := has_is_integer (k := 0) X.T X.d_is_integer
theorem go_is_kind (X : Txt0 K mg) : Has P w K mg base (0 + 1) "is_kind" ["value"] (spP F_is_kind) := has_is_kind (k := 0) X.T X.d_is_kind
theorem go_is_fraction (X : Txt0 K mg) : Has P w K mg base (1 + 1) "is_fraction" ["value"] (spP F_is_fraction) := has_is_fraction (k := 1) X.T X.d_is_fraction ((go_is_integer X).up (by omega))
theorem go_is_share (X : Txt0 K mg) : Has P w K mg base (2 + 1) "is_share" ["value"] (spP F_is_share) := has_is_share (k := 2) X.T X.d_is_share ((go_is_fraction X).up (by omega))
theorem go_is_fill (X : Txt0 K mg) : Has P w K mg base (2 + 1) "is_fill" ["value"] (spP F_is_fill) := has_is_fill (k := 2) X.T X.d_is_fill ((go_is_kind X).up (by omega)) ((go_is_fraction X).up (by omega))
theorem go_is_cellar (X : Txt0 K mg) : Has P w K mg base (3 + 1) "is_cellar" ["value"] (spP F_is_cellar) := has_is_cellar (k := 3) X.T X.d_is_cellar ((go_is_fill X).up (by omega))
theorem go_need_cellar (X : Txt0 K mg) : Has P w K mg base (4 + 1) "need_cellar" ["cellar"] (spP F_need_cellar) := has_need_cellar (k := 4) X.T X.d_need_cellar ((go_is_cellar X).up (by omega))
theorem go_is_place (X : Txt0 K mg) : Has P w K mg base (1 + 1) "is_place" ["value"] (spP F_is_place) := has_is_place (k := 1) X.T X.d_is_place ((go_is_integer X).up (by omega))
theorem go_is_deed (X : Txt0 K mg) : Has P w K mg base (3 + 1) "is_deed" ["value"] (spP F_is_deed) := has_is_deed (k := 3) X.T X.d_is_deed ((go_is_fill X).up (by omega)) ((go_is_place X).up (by omega)) ((go_is_share X).up (by omega))
theorem go_casks_of (X : Txt0 K mg) : Has P w K mg base (0 + 1) "casks_of" ["deed"] (spP F_casks_of) := has_casks_of (k := 0) X.T X.d_casks_of
theorem go_is_deed_of (X : Txt0 K mg) : Has P w K mg base (4 + 1) "is_deed_of" ["value", "casks"] (spP F_is_deed_of) := has_is_deed_of (k := 4) X.T X.d_is_deed_of ((go_is_deed X).up (by omega)) ((go_casks_of X).up (by omega))
theorem go_need_story (X : Txt0 K mg) : Has P w K mg base (5 + 1) "need_story" ["story", "casks"] (spP F_need_story) := has_need_story (k := 5) X.T X.d_need_story ((go_is_deed_of X).up (by omega))
theorem go_is_draw (X : Txt0 K mg) : Has P w K mg base (1 + 1) "is_draw" ["story", "index"] (spP F_is_draw) := has_is_draw (k := 1) X.T X.d_is_draw ((go_is_integer X).up (by omega))
theorem go_need_draw (X : Txt0 K mg) : Has P w K mg base (2 + 1) "need_draw" ["story", "index"] (spP F_need_draw) := has_need_draw (k := 2) X.T X.d_need_draw ((go_is_draw X).up (by omega))
theorem go_every_lot (X : Txt0 K mg) : Has P w K mg base (0 + 1) "every_lot" ["cellar", "story"] (spP F_every_lot) := has_every_lot (k := 0) X.T X.d_every_lot
theorem go_ways_over (X : Txt0 K mg) : Has P w K mg base (0 + 1) "ways_over" ["deed"] (spP F_ways_over) := has_ways_over (k := 0) X.T X.d_ways_over
theorem go_emptied (X : Txt0 K mg) : Has P w K mg base (0 + 1) "emptied" ["deed"] (spP F_emptied) := has_emptied (k := 0) X.T X.d_emptied
theorem go_lots_ahead (X : Txt0 K mg) : Has P w K mg base (1 + 1) "lots_ahead" ["cellar", "story"] (spP F_lots_ahead) := has_lots_ahead (k := 1) X.T X.d_lots_ahead ((go_emptied X).up (by omega)) ((go_ways_over X).up (by omega))
theorem go_carried_lots (X : Txt0 K mg) : Has P w K mg base (2 + 1) "carried_lots" ["cellar", "story"] (spP F_carried_lots) := has_carried_lots (k := 2) X.T X.d_carried_lots ((go_lots_ahead X).up (by omega))
theorem go_lots (X : Txt0 K mg) : Has P w K mg base (6 + 1) "lots" ["cellar", "story"] (spP F_lots) := has_lots (k := 6) X.T X.d_lots ((go_need_cellar X).up (by omega)) ((go_need_story X).up (by omega)) ((go_every_lot X).up (by omega))
theorem go_carried (X : Txt0 K mg) : Has P w K mg base (6 + 1) "carried" ["cellar", "story", "index"] (spP F_carried) := has_carried (k := 6) X.T X.d_carried ((go_need_cellar X).up (by omega)) ((go_need_story X).up (by omega)) ((go_need_draw X).up (by omega)) ((go_carried_lots X).up (by omega))
theorem go_is_look (X : Txt0 K mg) : Has P w K mg base (2 + 1) "is_look" ["story", "look"] (spP F_is_look) := has_is_look (k := 2) X.T X.d_is_look ((go_is_draw X).up (by omega))
theorem go_need_told (X : Txt0 K mg) : Has P w K mg base (3 + 1) "need_told" ["story", "told"] (spP F_need_told) := has_need_told (k := 3) X.T X.d_need_told ((go_is_look X).up (by omega))
theorem go_fitting_lots (X : Txt0 K mg) : Has P w K mg base (3 + 1) "fitting_lots" ["cellar", "story", "told"] (spP F_fitting_lots) := has_fitting_lots (k := 3) X.T X.d_fitting_lots ((go_carried_lots X).up (by omega)) ((go_every_lot X).up (by omega))
theorem go_suspects (X : Txt0 K mg) : Has P w K mg base (6 + 1) "suspects" ["cellar", "story", "told"] (spP F_suspects) := has_suspects (k := 6) X.T X.d_suspects ((go_need_cellar X).up (by omega)) ((go_need_story X).up (by omega)) ((go_need_told X).up (by omega)) ((go_fitting_lots X).up (by omega))
theorem go_tests_of (X : Txt0 K mg) : Has P w K mg base (3 + 1) "tests_of" ["cellar", "story", "found"] (spP F_tests_of) := has_tests_of (k := 3) X.T X.d_tests_of ((go_carried_lots X).up (by omega))
theorem go_are_told_apart (X : Txt0 K mg) : Has P w K mg base (0 + 1) "are_told_apart" ["tests", "many"] (spP F_are_told_apart) := has_are_told_apart (k := 0) X.T X.d_are_told_apart
theorem go_least_depth (X : Txt0 K mg) : Has P w K mg base 17 "least_depth" ["tests", "group", "known"] (spO (F_least 16)) := least_all X.T X.d_least_depth 16
theorem go_tree_of (X : Txt0 K mg) : Has P w K mg base 34 "tree_of" ["tests", "group", "found", "known"] (spO (F_tree 16)) := tree_all X.T X.d_least_depth X.d_tree_of 16
theorem go_looks (X : Txt0 K mg) : Has P w K mg base (17 + 1) "looks" ["cellar", "story", "told"] (spP F_looks) := has_looks (k := 17) X.T X.d_looks ((go_suspects X).up (by omega)) ((go_tests_of X).up (by omega)) ((go_least_depth X).up (by omega)) ((go_are_told_apart X).up (by omega))
theorem go_look_tree (X : Txt0 K mg) : Has P w K mg base (34 + 1) "look_tree" ["cellar", "story", "told"] (spP F_look_tree) := has_look_tree (k := 34) X.T X.d_look_tree ((go_suspects X).up (by omega)) ((go_tests_of X).up (by omega)) ((go_tree_of X).up (by omega)) ((go_are_told_apart X).up (by omega))
theorem go_w_deck (X : Txt0 K mg) : Has P w K mg base (0 + 1) "_law_deck" ["_law_script"] (spDk K) := has_w_deck (k := 0) X.T X.d_w_deck
theorem go_w_draw (X : Txt0 K mg) : Has P w K mg base (0 + 1) "_law_draw" ["_law_deck_here", "_law_bound"] (spO F_w_draw) := has_w_draw (k := 0) X.T X.d_w_draw
theorem go_w_fraction (X : Txt0 K mg) : Has P w K mg base (0 + 1) "_law_fraction" ["_law_above", "_law_below"] (spP F_w_fraction) := has_w_fraction (k := 0) X.T X.d_w_fraction
theorem go_w_share (X : Txt0 K mg) : Has P w K mg base (1 + 1) "_law_share" ["_law_deck_here"] (spO F_w_share) := has_w_share (k := 1) X.T X.d_w_share ((go_w_draw X).up (by omega)) ((go_w_fraction X).up (by omega))
theorem go_w_amount (X : Txt0 K mg) : Has P w K mg base (1 + 1) "_law_amount" ["_law_deck_here"] (spO F_w_amount) := has_w_amount (k := 1) X.T X.d_w_amount ((go_w_fraction X).up (by omega)) ((go_w_draw X).up (by omega))
theorem go_w_kind (X : Txt0 K mg) : Has P w K mg base (1 + 1) "_law_kind" ["_law_deck_here"] (spO F_w_kind) := has_w_kind (k := 1) X.T X.d_w_kind ((go_w_draw X).up (by omega))
theorem go_w_fill (X : Txt0 K mg) : Has P w K mg base (2 + 1) "_law_fill" ["_law_deck_here", "_law_most"] (spO F_w_fill) := has_w_fill (k := 2) X.T X.d_w_fill ((go_w_draw X).up (by omega)) ((go_w_kind X).up (by omega)) ((go_w_amount X).up (by omega))
theorem go_w_cellar (X : Txt0 K mg) : Has P w K mg base (3 + 1) "_law_cellar" ["_law_deck_here", "_law_least"] (spO F_w_cellar) := has_w_cellar (k := 3) X.T X.d_w_cellar ((go_w_fill X).up (by omega)) ((go_w_draw X).up (by omega))
theorem go_w_deed (X : Txt0 K mg) : Has P w K mg base (3 + 1) "_law_deed" ["_law_deck_here", "_law_casks"] (spO F_w_deed) := has_w_deed (k := 3) X.T X.d_w_deed ((go_w_draw X).up (by omega)) ((go_w_share X).up (by omega)) ((go_w_fill X).up (by omega))
theorem go_w_story (X : Txt0 K mg) : Has P w K mg base (4 + 1) "_law_story" ["_law_deck_here", "_law_cellar_here", "_law_most"] (spO F_w_story) := has_w_story (k := 4) X.T X.d_w_story ((go_w_draw X).up (by omega)) ((go_w_deed X).up (by omega))
theorem go_w_parting (X : Txt0 K mg) : Has P w K mg base (1 + 1) "_law_parting" ["_law_deck_here"] (spO F_w_parting) := has_w_parting (k := 1) X.T X.d_w_parting ((go_w_draw X).up (by omega))
theorem go_w_integer (X : Txt0 K mg) : Has P w K mg base (0 + 1) "_law_integer" ["_law_value"] (spP F_w_integer) := has_w_integer (k := 0) X.T X.d_w_integer
theorem go_w_left (X : Txt0 K mg) : Has P w K mg base (0 + 1) "_law_left" ["_law_known", "_law_carries", "_law_told_here"] (spP F_w_left) := has_w_left (k := 0) X.T X.d_w_left
theorem go_w_state_right (X : Txt0 K mg) : HasG P w K mg base (35 + 1) "_law_state_right" ["_law_cellar_here", "_law_story_here", "_law_known", "_law_carries", "_law_told_here"] (spP F_w_state_right) := has_w_state_right (k := 35) X.T X.d_w_state_right ((go_w_left X).up (by omega)) ((go_looks X).up (by omega)) ((go_w_integer X).up (by omega)) ((go_suspects X).up (by omega)) ((go_look_tree X).up (by omega))
theorem go_w_walk_right (X : Txt0 K mg) : Has P w K mg base (35 + 1) "_law_walk_right" ["_law_cellar_here", "_law_story_here", "_law_known", "_law_carries", "_law_told_here", "_law_lot"] (spP F_w_walk_right) := has_w_walk_right (k := 35) X.T X.d_w_walk_right ((go_look_tree X).up (by omega)) ((go_looks X).up (by omega)) ((go_w_integer X).up (by omega)) ((go_suspects X).up (by omega)) ((go_w_left X).up (by omega))
theorem go_w_told (X : Txt0 K mg) : Has P w K mg base (1 + 1) "_law_told" ["_law_deck_here", "_law_known", "_law_carries"] (spO F_w_told) := has_w_told (k := 1) X.T X.d_w_told ((go_w_draw X).up (by omega))
theorem go_law (X : Txt0 K mg) : HasG P w K mg base (36 + 1) "law" ["_law_script"] (spLaw K) := has_law (k := 36) X.T X.d_law ((go_w_deck X).up (by omega)) ((go_w_cellar X).up (by omega)) ((go_w_story X).up (by omega)) ((go_lots X).up (by omega)) ((go_w_draw X).up (by omega)) ((go_w_parting X).up (by omega)) ((go_w_told X).up (by omega)) ((go_carried X).up (by omega)) ((go_w_state_right X).up (by omega)) ((go_looks X).up (by omega)) ((go_w_left X).up (by omega)) ((go_w_walk_right X).up (by omega)) ((go_look_tree X).up (by omega))
end
theorem txt_of {K : PySem.W.Frag} {h : Heap} {mg : Str → Option Value} (X : K.In h) (G : h.Ns mainGlobals mg) (c : CkHead.obsK K = CkHead.valK) : Txt0 K mg := by
  have c1 : CkHead.gcdB K = true := congrArg Prod.fst c
  have c2 : He.SaysD CkHead.fa CkHead.fn K := congrArg Prod.snd c
  refine ⟨⟨?_, ?_, ?_, ?_, ?_, ?_, ?_, ?_, ?_, ?_, ?_, ?_, ?_, ?_, ?_, ?_, ?_, ?_, ?_⟩, ?_, ?_, ?_, ?_, ?_, ?_, ?_, ?_, ?_, ?_, ?_, ?_, ?_, ?_, ?_, ?_, ?_, ?_, ?_, ?_, ?_, ?_, ?_, ?_, ?_, ?_, ?_, ?_, ?_, ?_, ?_, ?_, ?_, ?_, ?_, ?_, ?_, ?_, ?_, ?_, ?_, ?_, ?_, ?_, ?_, ?_, ?_, ?_⟩
  · exact He.free_ok X G (c2.fact 48 (f := .free "abs") rfl)
  · exact He.free_ok X G (c2.fact 49 (f := .free "all") rfl)
  · exact He.free_ok X G (c2.fact 50 (f := .free "bool") rfl)
  · exact He.free_ok X G (c2.fact 51 (f := .free "enumerate") rfl)
  · exact He.free_ok X G (c2.fact 52 (f := .free "int") rfl)
  · exact He.free_ok X G (c2.fact 53 (f := .free "isinstance") rfl)
  · exact He.free_ok X G (c2.fact 54 (f := .free "len") rfl)
  · exact He.free_ok X G (c2.fact 55 (f := .free "list") rfl)
  · exact He.free_ok X G (c2.fact 56 (f := .free "max") rfl)
  · exact He.free_ok X G (c2.fact 57 (f := .free "min") rfl)
  · exact He.free_ok X G (c2.fact 58 (f := .free "range") rfl)
  · exact He.free_ok X G (c2.fact 59 (f := .free "repr") rfl)
  · exact He.free_ok X G (c2.fact 60 (f := .free "set") rfl)
  · exact He.free_ok X G (c2.fact 61 (f := .free "sorted") rfl)
  · exact He.free_ok X G (c2.fact 62 (f := .free "str") rfl)
  · exact He.free_ok X G (c2.fact 63 (f := .free "sum") rfl)
  · exact He.free_ok X G (c2.fact 64 (f := .free "tuple") rfl)
  · exact He.free_ok X G (c2.fact 65 (f := .free "zip") rfl)
  · exact PySem.W.mg_of X G (He.eqO_ok c1)
  · obtain ⟨fd, F⟩ := c2.def_ 0 (d := CkHead.d_is_integer) rfl
    exact dfn_of F (He.glo_ok X G (c2.fact 0 (f := .glo "is_integer") rfl))
  · obtain ⟨fd, F⟩ := c2.def_ 1 (d := CkHead.d_is_kind) rfl
    exact dfn_of F (He.glo_ok X G (c2.fact 1 (f := .glo "is_kind") rfl))
  · obtain ⟨fd, F⟩ := c2.def_ 2 (d := CkHead.d_is_fraction) rfl
    exact dfn_of F (He.glo_ok X G (c2.fact 2 (f := .glo "is_fraction") rfl))
  · obtain ⟨fd, F⟩ := c2.def_ 3 (d := CkHead.d_is_share) rfl
    exact dfn_of F (He.glo_ok X G (c2.fact 3 (f := .glo "is_share") rfl))
  · obtain ⟨fd, F⟩ := c2.def_ 4 (d := CkHead.d_is_fill) rfl
    exact dfn_of F (He.glo_ok X G (c2.fact 4 (f := .glo "is_fill") rfl))
  · obtain ⟨fd, F⟩ := c2.def_ 5 (d := CkHead.d_is_cellar) rfl
    exact dfn_of F (He.glo_ok X G (c2.fact 5 (f := .glo "is_cellar") rfl))
  · obtain ⟨fd, F⟩ := c2.def_ 6 (d := CkHead.d_need_cellar) rfl
    exact dfn_of F (He.glo_ok X G (c2.fact 6 (f := .glo "need_cellar") rfl))
  · obtain ⟨fd, F⟩ := c2.def_ 7 (d := CkHead.d_is_place) rfl
    exact dfn_of F (He.glo_ok X G (c2.fact 7 (f := .glo "is_place") rfl))
  · obtain ⟨fd, F⟩ := c2.def_ 8 (d := CkHead.d_is_deed) rfl
    exact dfn_of F (He.glo_ok X G (c2.fact 8 (f := .glo "is_deed") rfl))
  · obtain ⟨fd, F⟩ := c2.def_ 9 (d := CkHead.d_casks_of) rfl
    exact dfn_of F (He.glo_ok X G (c2.fact 9 (f := .glo "casks_of") rfl))
  · obtain ⟨fd, F⟩ := c2.def_ 10 (d := CkHead.d_is_deed_of) rfl
    exact dfn_of F (He.glo_ok X G (c2.fact 10 (f := .glo "is_deed_of") rfl))
  · obtain ⟨fd, F⟩ := c2.def_ 11 (d := CkHead.d_need_story) rfl
    exact dfn_of F (He.glo_ok X G (c2.fact 11 (f := .glo "need_story") rfl))
  · obtain ⟨fd, F⟩ := c2.def_ 12 (d := CkHead.d_is_draw) rfl
    exact dfn_of F (He.glo_ok X G (c2.fact 12 (f := .glo "is_draw") rfl))
  · obtain ⟨fd, F⟩ := c2.def_ 13 (d := CkHead.d_need_draw) rfl
    exact dfn_of F (He.glo_ok X G (c2.fact 13 (f := .glo "need_draw") rfl))
  · obtain ⟨fd, F⟩ := c2.def_ 14 (d := CkHead.d_every_lot) rfl
    exact dfn_of F (He.glo_ok X G (c2.fact 14 (f := .glo "every_lot") rfl))
  · obtain ⟨fd, F⟩ := c2.def_ 15 (d := CkHead.d_ways_over) rfl
    exact dfn_of F (He.glo_ok X G (c2.fact 15 (f := .glo "ways_over") rfl))
  · obtain ⟨fd, F⟩ := c2.def_ 16 (d := CkHead.d_emptied) rfl
    exact dfn_of F (He.glo_ok X G (c2.fact 16 (f := .glo "emptied") rfl))
  · obtain ⟨fd, F⟩ := c2.def_ 17 (d := CkHead.d_lots_ahead) rfl
    exact dfn_of F (He.glo_ok X G (c2.fact 17 (f := .glo "lots_ahead") rfl))
  · obtain ⟨fd, F⟩ := c2.def_ 18 (d := CkHead.d_carried_lots) rfl
    exact dfn_of F (He.glo_ok X G (c2.fact 18 (f := .glo "carried_lots") rfl))
  · obtain ⟨fd, F⟩ := c2.def_ 19 (d := CkHead.d_lots) rfl
    exact dfn_of F (He.glo_ok X G (c2.fact 19 (f := .glo "lots") rfl))
  · obtain ⟨fd, F⟩ := c2.def_ 20 (d := CkHead.d_carried) rfl
    exact dfn_of F (He.glo_ok X G (c2.fact 20 (f := .glo "carried") rfl))
  · obtain ⟨fd, F⟩ := c2.def_ 21 (d := CkHead.d_is_look) rfl
    exact dfn_of F (He.glo_ok X G (c2.fact 21 (f := .glo "is_look") rfl))
  · obtain ⟨fd, F⟩ := c2.def_ 22 (d := CkHead.d_need_told) rfl
    exact dfn_of F (He.glo_ok X G (c2.fact 22 (f := .glo "need_told") rfl))
  · obtain ⟨fd, F⟩ := c2.def_ 23 (d := CkHead.d_fitting_lots) rfl
    exact dfn_of F (He.glo_ok X G (c2.fact 23 (f := .glo "fitting_lots") rfl))
  · obtain ⟨fd, F⟩ := c2.def_ 24 (d := CkHead.d_suspects) rfl
    exact dfn_of F (He.glo_ok X G (c2.fact 24 (f := .glo "suspects") rfl))
  · obtain ⟨fd, F⟩ := c2.def_ 25 (d := CkHead.d_tests_of) rfl
    exact dfn_of F (He.glo_ok X G (c2.fact 25 (f := .glo "tests_of") rfl))
  · obtain ⟨fd, F⟩ := c2.def_ 26 (d := CkHead.d_are_told_apart) rfl
    exact dfn_of F (He.glo_ok X G (c2.fact 26 (f := .glo "are_told_apart") rfl))
  · obtain ⟨fd, F⟩ := c2.def_ 27 (d := CkHead.d_least_depth) rfl
    exact dfn_of F (He.glo_ok X G (c2.fact 27 (f := .glo "least_depth") rfl))
  · obtain ⟨fd, F⟩ := c2.def_ 28 (d := CkHead.d_tree_of) rfl
    exact dfn_of F (He.glo_ok X G (c2.fact 28 (f := .glo "tree_of") rfl))
  · obtain ⟨fd, F⟩ := c2.def_ 29 (d := CkHead.d_looks) rfl
    exact dfn_of F (He.glo_ok X G (c2.fact 29 (f := .glo "looks") rfl))
  · obtain ⟨fd, F⟩ := c2.def_ 30 (d := CkHead.d_look_tree) rfl
    exact dfn_of F (He.glo_ok X G (c2.fact 30 (f := .glo "look_tree") rfl))
  · obtain ⟨fd, F⟩ := c2.def_ 31 (d := CkHead.d_w_deck) rfl
    exact dfn_of F (He.glo_ok X G (c2.fact 31 (f := .glo "_law_deck") rfl))
  · obtain ⟨fd, F⟩ := c2.def_ 32 (d := CkHead.d_w_draw) rfl
    exact dfn_of F (He.glo_ok X G (c2.fact 32 (f := .glo "_law_draw") rfl))
  · obtain ⟨fd, F⟩ := c2.def_ 33 (d := CkHead.d_w_fraction) rfl
    exact dfn_of F (He.glo_ok X G (c2.fact 33 (f := .glo "_law_fraction") rfl))
  · obtain ⟨fd, F⟩ := c2.def_ 34 (d := CkHead.d_w_share) rfl
    exact dfn_of F (He.glo_ok X G (c2.fact 34 (f := .glo "_law_share") rfl))
  · obtain ⟨fd, F⟩ := c2.def_ 35 (d := CkHead.d_w_amount) rfl
    exact dfn_of F (He.glo_ok X G (c2.fact 35 (f := .glo "_law_amount") rfl))
  · obtain ⟨fd, F⟩ := c2.def_ 36 (d := CkHead.d_w_kind) rfl
    exact dfn_of F (He.glo_ok X G (c2.fact 36 (f := .glo "_law_kind") rfl))
  · obtain ⟨fd, F⟩ := c2.def_ 37 (d := CkHead.d_w_fill) rfl
    exact dfn_of F (He.glo_ok X G (c2.fact 37 (f := .glo "_law_fill") rfl))
  · obtain ⟨fd, F⟩ := c2.def_ 38 (d := CkHead.d_w_cellar) rfl
    exact dfn_of F (He.glo_ok X G (c2.fact 38 (f := .glo "_law_cellar") rfl))
  · obtain ⟨fd, F⟩ := c2.def_ 39 (d := CkHead.d_w_deed) rfl
    exact dfn_of F (He.glo_ok X G (c2.fact 39 (f := .glo "_law_deed") rfl))
  · obtain ⟨fd, F⟩ := c2.def_ 40 (d := CkHead.d_w_story) rfl
    exact dfn_of F (He.glo_ok X G (c2.fact 40 (f := .glo "_law_story") rfl))
  · obtain ⟨fd, F⟩ := c2.def_ 41 (d := CkHead.d_w_parting) rfl
    exact dfn_of F (He.glo_ok X G (c2.fact 41 (f := .glo "_law_parting") rfl))
  · obtain ⟨fd, F⟩ := c2.def_ 42 (d := CkHead.d_w_integer) rfl
    exact dfn_of F (He.glo_ok X G (c2.fact 42 (f := .glo "_law_integer") rfl))
  · obtain ⟨fd, F⟩ := c2.def_ 43 (d := CkHead.d_w_left) rfl
    exact dfn_of F (He.glo_ok X G (c2.fact 43 (f := .glo "_law_left") rfl))
  · obtain ⟨fd, F⟩ := c2.def_ 44 (d := CkHead.d_w_state_right) rfl
    exact dfn_of F (He.glo_ok X G (c2.fact 44 (f := .glo "_law_state_right") rfl))
  · obtain ⟨fd, F⟩ := c2.def_ 45 (d := CkHead.d_w_walk_right) rfl
    exact dfn_of F (He.glo_ok X G (c2.fact 45 (f := .glo "_law_walk_right") rfl))
  · obtain ⟨fd, F⟩ := c2.def_ 46 (d := CkHead.d_w_told) rfl
    exact dfn_of F (He.glo_ok X G (c2.fact 46 (f := .glo "_law_told") rfl))
  · obtain ⟨fd, F⟩ := c2.def_ 47 (d := CkHead.d_law) rfl
    exact dfn_of F (He.glo_ok X G (c2.fact 47 (f := .glo "law") rfl))

theorem law_facts {P : Program} {w : World} {K : PySem.W.Frag} {h : Heap} {mg : Str → Option Value} {f : Addr} (X : K.In h) (G : h.Ns mainGlobals mg) (hfa : mg ("law" : Str) = some (.ref f)) (c : CkHead.obsK K = CkHead.valK) :
    ∃ fd : FuncData, (∀ (s : Shared) (v : Value), BindsTo s fd ⟨[v], []⟩ [("_law_script", v)]) ∧ ∀ base : Heap, K.In base → base.Ns mainGlobals mg → FnG P w K mg base 37 f fd ["_law_script"] (spLaw K) := by
  have c2 : He.SaysD CkHead.fa CkHead.fn K := congrArg Prod.snd c
  have T := txt_of X G c
  obtain ⟨fd, F⟩ := c2.def_ 47 (d := CkHead.d_law) rfl
  have e := hfa.symm.trans (He.glo_ok X G (c2.fact 47 (f := .glo "law") rfl))
  cases e
  have b := FunD.bindsA (ps := ["_law_script"]) F fun _ _ _ _ _ _ us hl => match us, hl with | [_], _ => rfl
  refine ⟨fd, fun s v => b s [v] rfl, fun base _ _ => ?_⟩
  obtain ⟨f2, fd2, FG, hm, _, _, oc, od, osl, lk⟩ := (go_law (P := P) (w := w) (base := base) T).ex
  have e2 := hfa.symm.trans hm
  cases e2
  have F2 : FunD K "law" "law" (defArgs s_law) (defBody s_law) (defScope s_law) [] [] (He.fAd K ("law", none)) fd := F
  obtain ⟨oc', od', kV, doc, pm, an, cdv, ct, osl', rfl, lk', _⟩ := (He5.fun_of F2).ex
  have q := lk.symm.trans lk'
  cases q
  exact FG
end Ck
open PySem PySem.W PySem.Calls PyProof.Rows
theorem PySem.Challenge.cw_caskyears_k88_whole_looks_one_by_one_holds : PySem.Challenge.rw_caskyears_k88_whole_looks_one_by_one.Holds := by
  w_on; o_law
  refine HandSHeadRun.head_imp (r := OpenLaw.row PySem.Challenge.rw_caskyears_k88_whole_looks_one_by_one) (q := view (OpenLaw.row PySem.Challenge.rw_caskyears_k88_whole_looks_one_by_one).prog [0, 60]) (H := CkHead.hk) (ob := CkHead.ob) (M := 6000) (loose := CkHead.loose) (d := HandSHeadRun.topDef (OpenLaw.row PySem.Challenge.rw_caskyears_k88_whole_looks_one_by_one).prog 60) (kwd := []) CkHead.ob_eq
    CkHead.run (by kernel_rfl) (by kernel_rfl) (by kernel_rfl) (by rfl) (by first | assumption | decide +kernel) (by decide +kernel) ⟨rfl, rfl, rfl, rfl, rfl, by decide +kernel⟩ ?hw ?hc
  case hw => w_witness2
  case hc =>
    refine Ck.walk_ofG (l := PySem.Challenge.rw_caskyears_k88_whole_looks_one_by_one) (n := 63) (k := 37) (x := "_law_script") rfl (by decide) (by kernel_rfl) ⟨rfl, by decide, by decide⟩ ?F
    intro w mg fa h Y G hmg0
    obtain ⟨K, KX, c⟩ := Y
    have hmg : mg ("law" : PySem.Str) = some (.ref fa) := by
      have e : (HandSHeadRun.topDef (OpenLaw.row PySem.Challenge.rw_caskyears_k88_whole_looks_one_by_one).prog 60).name = ("law" : PySem.Str) := by kernel_rfl
      rw [← e]
      exact hmg0
    obtain ⟨fd, hb, hF⟩ := Ck.law_facts (P := (PySem.Challenge.rw_caskyears_k88_whole_looks_one_by_one).prog) (w := w) KX G hmg c
    exact ⟨K, fd, Ck.spLaw K, KX, hb, fun H a ns hl _ hS => ⟨a, ns, rfl, hS, hl, fun _ => rfl⟩, hF⟩
