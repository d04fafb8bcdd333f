import PyProof.Rows.All
import Wide.All
import OpenK.AllK
import Wide.FinOn
import HandS.ForMost
import HandS.Walk
import HandS.Zip
import HandS.SortKw
import HandS.IsInst
import HandS.TupAny
import HandS.Wide
import HandS.Small
import HandS.Style
import KE.KSortTupG
import KE.GoesEnum
import HandS.NoneIn
import HandS.WideBits
import PySem.Challenge.RW_oathlog_k92_whole_held_and_leased
set_option Elab.async false
set_option linter.all false
set_option maxRecDepth 100000
set_option maxHeartbeats 1000000
/-! The data layer: data, how values show them, environments of data, what a reading evaluates to. -/
namespace Oa
open PySem L2
/-- a datum: no address in it, but that of a thing told elsewhere -/
inductive D where
  | non | bl (b : Bool) | int (i : Int) | str (s : Str) | ty (n : String) | ptr (a : Addr) | tup (ds : List D) | lst (ds : List D)
  | dct (ks : List Key) (ds : List D) | dcf (ks : List Key) (ds : List D)
mutual
/-- the value shows the datum -/
def Rp (H : Hp) : D → V → Prop
  | .non, v => v = .non
  | .bl b, v => v = .bl b
  | .int i, v => v = .int i
  | .str s, v => v = .str s
  | .ty n, v => v = .ty n
  | .ptr a, v => v = .ref a
  | .tup ds, v => ∃ a vs, v = .ref a ∧ H a = some (.tup vs) ∧ RpS H ds vs
  | .lst ds, v => ∃ a vs, v = .ref a ∧ H a = some (.lst vs) ∧ RpS H ds vs
  | .dct ks ds, v => ∃ a kvs, v = .ref a ∧ H a = some (.dK kvs) ∧ kvs.map (·.1) = ks ∧ RpS H ds (kvs.map (·.2))
  | .dcf ks ds, v => ∃ a o kvs, v = .ref a ∧ H a = some (.frz o (.dK kvs)) ∧ kvs.map (·.1) = ks ∧ RpS H ds (kvs.map (·.2))
def RpS (H : Hp) : List D → List V → Prop
  | [], vs => vs = []
  | d :: ds, vs => ∃ v r, vs = v :: r ∧ Rp H d v ∧ RpS H ds r
end
/-- all tracked things stand -/
abbrev Ex (H H' : Hp) : Prop := Same H H'
theorem ex_new {H : Hp} {p : Addr} {o : HO} (h : H p = none) : Ex H (upd H p o) := fun a u e => by
  rw [upd_ne (ne_of_none e h)]
  exact e
theorem ex_mut {H H' : Hp} {p : Addr} {o : HO} (e : Ex H H') (h : H p = none) : Ex H (upd H' p o) := fun a u ha => by
  rw [upd_ne (ne_of_none ha h)]
  exact e a u ha
/-- all tuples stand -/
def TEx (H H' : Hp) : Prop := ∀ a xs, H a = some (.tup xs) → H' a = some (.tup xs)
theorem Ex_tex {H H' : Hp} (e : Ex H H') : TEx H H' := fun a xs h => e a _ h
theorem TEx.refl (H : Hp) : TEx H H := fun _ _ h => h
theorem TEx.trans {H H1 H2 : Hp} (a : TEx H H1) (b : TEx H1 H2) : TEx H H2 := fun c xs h => b c xs (a c xs h)
theorem tex_upd {H : Hp} {p : Addr} {o : HO} (h : ∀ xs, H p ≠ some (.tup xs)) : TEx H (upd H p o) := fun a xs e => by
  have n : a ≠ p := fun q => h xs (by rw [← q]; exact e)
  rw [upd_ne n]
  exact e
theorem tex_lst {H : Hp} {p : Addr} {o : HO} {vs : List V} (h : H p = some (.lst vs)) : TEx H (upd H p o) := tex_upd fun xs e => by
  rw [h] at e
  cases e
mutual
/-- no list in it -/
def imm : D → Bool
  | .tup ds => immS ds
  | .lst _ => false
  | .dct _ _ => false
  | .dcf _ _ => false
  | _ => true
def immS : List D → Bool
  | [] => true
  | d :: ds => imm d && immS ds
end
mutual
/-- no dict in it -/
def noD : D → Bool
  | .tup ds => noDS ds
  | .lst ds => noDS ds
  | .dct _ _ => false
  | .dcf _ _ => false
  | _ => true
def noDS : List D → Bool
  | [] => true
  | d :: ds => noD d && noDS ds
end
mutual
theorem Rp.mono {H H' : Hp} (e : Ex H H') : ∀ {d : D} {v : V}, Rp H d v → Rp H' d v
  | .non, v, h => h
  | .bl _, v, h => h
  | .int _, v, h => h
  | .str _, v, h => h
  | .ty _, v, h => h
  | .ptr _, v, h => h
  | .tup ds, v, h => by
    unfold Rp at h ⊢
    obtain ⟨a, vs, e1, e2, r⟩ := h
    exact ⟨a, vs, e1, e a _ e2, RpS.mono e r⟩
  | .lst ds, v, h => by
    unfold Rp at h ⊢
    obtain ⟨a, vs, e1, e2, r⟩ := h
    exact ⟨a, vs, e1, e a _ e2, RpS.mono e r⟩
  | .dct ks ds, v, h => by
    unfold Rp at h ⊢
    obtain ⟨a, kvs, e1, e2, e3, r⟩ := h
    exact ⟨a, kvs, e1, e a _ e2, e3, RpS.mono e r⟩
  | .dcf ks ds, v, h => by
    unfold Rp at h ⊢
    obtain ⟨a, o, kvs, e1, e2, e3, r⟩ := h
    exact ⟨a, o, kvs, e1, e a _ e2, e3, RpS.mono e r⟩
theorem RpS.mono {H H' : Hp} (e : Ex H H') : ∀ {ds : List D} {vs : List V}, RpS H ds vs → RpS H' ds vs
  | [], vs, h => h
  | d :: ds, vs, h => by
    unfold RpS at h ⊢
    obtain ⟨v, r, e1, h1, h2⟩ := h
    exact ⟨v, r, e1, Rp.mono e h1, RpS.mono e h2⟩
end
mutual
theorem Rp.keep {H H' : Hp} (e : TEx H H') : ∀ {d : D} {v : V}, imm d = true → Rp H d v → Rp H' d v
  | .non, v, _, h => h
  | .bl _, v, _, h => h
  | .int _, v, _, h => h
  | .str _, v, _, h => h
  | .ty _, v, _, h => h
  | .ptr _, v, _, h => h
  | .tup ds, v, i, h => by
    unfold Rp at h ⊢
    unfold imm at i
    obtain ⟨a, vs, e1, e2, r⟩ := h
    exact ⟨a, vs, e1, e a _ e2, RpS.keep e i r⟩
  | .lst ds, v, i, h => by
    unfold imm at i
    cases i
  | .dct ks ds, v, i, h => by
    unfold imm at i
    cases i
  | .dcf ks ds, v, i, h => by
    unfold imm at i
    cases i
theorem RpS.keep {H H' : Hp} (e : TEx H H') : ∀ {ds : List D} {vs : List V}, immS ds = true → RpS H ds vs → RpS H' ds vs
  | [], vs, _, h => h
  | d :: ds, vs, i, h => by
    unfold immS at i
    rw [Bool.and_eq_true] at i
    unfold RpS at h ⊢
    obtain ⟨v, r, e1, h1, h2⟩ := h
    exact ⟨v, r, e1, Rp.keep e i.1 h1, RpS.keep e i.2 h2⟩
end
section
variable {H H' : Hp} {d : D} {ds es : List D} {v : V} {vs ws : List V} {a : Addr}
theorem rp_tup (h : H a = some (.tup vs)) (r : RpS H ds vs) : Rp H (.tup ds) (.ref a) := by
  unfold Rp
  exact ⟨a, vs, rfl, h, r⟩
theorem rp_lst (h : H a = some (.lst vs)) (r : RpS H ds vs) : Rp H (.lst ds) (.ref a) := by
  unfold Rp
  exact ⟨a, vs, rfl, h, r⟩
theorem of_tup (h : Rp H (.tup ds) v) : ∃ a vs, v = .ref a ∧ H a = some (.tup vs) ∧ RpS H ds vs := by
  unfold Rp at h
  exact h
theorem of_lst (h : Rp H (.lst ds) v) : ∃ a vs, v = .ref a ∧ H a = some (.lst vs) ∧ RpS H ds vs := by
  unfold Rp at h
  exact h
theorem rp_dct {kvs : List (Key × V)} {ks : List Key} (h : H a = some (.dK kvs)) (e : kvs.map (·.1) = ks) (r : RpS H ds (kvs.map (·.2))) : Rp H (.dct ks ds) (.ref a) := by
  unfold Rp
  exact ⟨a, kvs, rfl, h, e, r⟩
theorem of_dct {ks : List Key} (h : Rp H (.dct ks ds) v) : ∃ a kvs, v = .ref a ∧ H a = some (.dK kvs) ∧ kvs.map (·.1) = ks ∧ RpS H ds (kvs.map (·.2)) := by
  unfold Rp at h
  exact h
theorem rp_dcf {o : Obj} {kvs : List (Key × V)} {ks : List Key} (h : H a = some (.frz o (.dK kvs))) (e : kvs.map (·.1) = ks) (r : RpS H ds (kvs.map (·.2))) : Rp H (.dcf ks ds) (.ref a) := by
  unfold Rp
  exact ⟨a, o, kvs, rfl, h, e, r⟩
theorem of_dcf {ks : List Key} (h : Rp H (.dcf ks ds) v) : ∃ a o kvs, v = .ref a ∧ H a = some (.frz o (.dK kvs)) ∧ kvs.map (·.1) = ks ∧ RpS H ds (kvs.map (·.2)) := by
  unfold Rp at h
  exact h
theorem rp_int {i : Int} : Rp H (.int i) (.int i) := by unfold Rp; rfl
theorem rp_bl {b : Bool} : Rp H (.bl b) (.bl b) := by unfold Rp; rfl
theorem rp_str {s : Str} : Rp H (.str s) (.str s) := by unfold Rp; rfl
theorem rp_non : Rp H .non .non := by unfold Rp; rfl
theorem rp_ty {n : String} : Rp H (.ty n) (.ty n) := by unfold Rp; rfl
theorem rp_ptr : Rp H (.ptr a) (.ref a) := by unfold Rp; rfl
theorem of_int {i : Int} (h : Rp H (.int i) v) : v = .int i := by unfold Rp at h; exact h
theorem of_bl {b : Bool} (h : Rp H (.bl b) v) : v = .bl b := by unfold Rp at h; exact h
theorem of_str {s : Str} (h : Rp H (.str s) v) : v = .str s := by unfold Rp at h; exact h
theorem of_non (h : Rp H .non v) : v = .non := by unfold Rp at h; exact h
theorem of_ty {n : String} (h : Rp H (.ty n) v) : v = .ty n := by unfold Rp at h; exact h
theorem of_ptr (h : Rp H (.ptr a) v) : v = .ref a := by unfold Rp at h; exact h
theorem rs_nil : RpS H [] [] := by unfold RpS; rfl
theorem rs_cons (h : Rp H d v) (r : RpS H ds vs) : RpS H (d :: ds) (v :: vs) := by
  unfold RpS
  exact ⟨v, vs, rfl, h, r⟩
theorem of_nil (h : RpS H [] vs) : vs = [] := by unfold RpS at h; exact h
theorem of_cons (h : RpS H (d :: ds) vs) : ∃ v r, vs = v :: r ∧ Rp H d v ∧ RpS H ds r := by unfold RpS at h; exact h
theorem RpS.length : ∀ {ds : List D} {vs : List V}, RpS H ds vs → vs.length = ds.length
  | [], vs, h => by
    rw [of_nil h]
    rfl
  | d :: ds, vs, h => by
    obtain ⟨v, r, rfl, _, h2⟩ := of_cons h
    rw [List.length_cons, List.length_cons, RpS.length h2]
theorem RpS.get : ∀ {ds : List D} {vs : List V} {i : Nat} {d : D}, RpS H ds vs → ds[i]? = some d → ∃ v, vs[i]? = some v ∧ Rp H d v
  | [], vs, i, d, h, e => by simp at e
  | d' :: ds, vs, 0, d, h, e => by
    obtain ⟨v, r, rfl, h1, _⟩ := of_cons h
    have e2 : d' = d := Option.some.inj e
    exact ⟨v, rfl, by rw [← e2]; exact h1⟩
  | d' :: ds, vs, i + 1, d, h, e => by
    obtain ⟨v, r, rfl, _, h2⟩ := of_cons h
    exact RpS.get (i := i) h2 e
/-- the other way: what stands at a place shows the datum of the place -/
theorem RpS.at (h : RpS H ds vs) {i : Nat} {v : V} (e : vs[i]? = some v) : ∃ d, ds[i]? = some d ∧ Rp H d v := by
  have hi : i < vs.length := (List.getElem?_eq_some_iff.mp e).1
  rw [h.length] at hi
  obtain ⟨w, e2, r⟩ := h.get (List.getElem?_eq_getElem hi)
  rw [e] at e2
  cases e2
  exact ⟨_, List.getElem?_eq_getElem hi, r⟩
theorem RpS.append : ∀ {ds : List D} {vs : List V}, RpS H ds vs → RpS H es ws → RpS H (ds ++ es) (vs ++ ws)
  | [], vs, h, h2 => by
    rw [of_nil h]
    exact h2
  | d :: ds, vs, h, h2 => by
    obtain ⟨v, r, rfl, h1, h3⟩ := of_cons h
    exact rs_cons h1 (RpS.append h3 h2)
theorem RpS.take : ∀ {ds : List D} {vs : List V} (n : Nat), RpS H ds vs → RpS H (ds.take n) (vs.take n)
  | ds, vs, 0, h => by
    rw [List.take_zero, List.take_zero]
    exact rs_nil
  | [], vs, n + 1, h => by
    rw [of_nil h]
    exact rs_nil
  | d :: ds, vs, n + 1, h => by
    obtain ⟨v, r, rfl, h1, h3⟩ := of_cons h
    exact rs_cons h1 (RpS.take n h3)
theorem RpS.drop : ∀ {ds : List D} {vs : List V} (n : Nat), RpS H ds vs → RpS H (ds.drop n) (vs.drop n)
  | ds, vs, 0, h => h
  | [], vs, n + 1, h => by
    rw [of_nil h]
    exact rs_nil
  | d :: ds, vs, n + 1, h => by
    obtain ⟨v, r, rfl, h1, h3⟩ := of_cons h
    exact RpS.drop n h3
theorem RpS.set : ∀ {ds : List D} {vs : List V} (n : Nat), RpS H ds vs → Rp H d v → RpS H (ds.set n d) (vs.set n v)
  | [], vs, n, h, _ => by
    rw [of_nil h]
    exact rs_nil
  | e :: ds, vs, 0, h, r => by
    obtain ⟨w, q, rfl, h1, h3⟩ := of_cons h
    exact rs_cons r h3
  | e :: ds, vs, n + 1, h, r => by
    obtain ⟨w, q, rfl, h1, h3⟩ := of_cons h
    exact rs_cons h1 (RpS.set n h3 r)
/-- a list of ints shown is the ints themselves -/
theorem RpS.ints {H : Hp} : ∀ {ns : List Int} {vs : List V}, RpS H (ns.map D.int) vs → vs = ns.map V.int
  | [], vs, h => of_nil h
  | n :: ns, vs, h => by
    obtain ⟨v, r, rfl, h1, h2⟩ := of_cons h
    rw [of_int h1, RpS.ints h2, List.map_cons]
theorem ints_rs {H : Hp} : ∀ {ns : List Int}, RpS H (ns.map D.int) (ns.map V.int)
  | [] => rs_nil
  | n :: ns => rs_cons rp_int ints_rs
theorem RpS.bls {H : Hp} : ∀ {ns : List Bool} {vs : List V}, RpS H (ns.map D.bl) vs → vs = ns.map V.bl
  | [], vs, h => of_nil h
  | n :: ns, vs, h => by
    obtain ⟨v, r, rfl, h1, h2⟩ := of_cons h
    rw [of_bl h1, RpS.bls h2, List.map_cons]
theorem imm_ints : ∀ {ns : List Int}, immS (ns.map D.int) = true
  | [] => rfl
  | n :: ns => by
    rw [List.map_cons]
    unfold immS
    rw [imm_ints]
    rfl
end
/-- tuples, lists and dicts stand, those at p may be locked -/
def LEx (p : Addr) (H H' : Hp) : Prop := ∀ a o, a ≠ p → H a = some o → H' a = some o
mutual
/-- nothing but a dict shown stands at p -/
theorem Rp.off {p : Addr} {H H' : Hp} (e : LEx p H H') (hp : ∃ kvs, H p = some (.dK kvs)) : ∀ {d : D} {v : V}, noD d = true → Rp H d v → Rp H' d v
  | .non, v, _, h => h
  | .bl _, v, _, h => h
  | .int _, v, _, h => h
  | .str _, v, _, h => h
  | .ty _, v, _, h => h
  | .ptr _, v, _, h => h
  | .tup ds, v, nd, h => by
    unfold noD at nd
    unfold Rp at h ⊢
    obtain ⟨a, vs, e1, e2, r⟩ := h
    obtain ⟨kvs, hk⟩ := hp
    exact ⟨a, vs, e1, e a _ (fun z => by rw [z, hk] at e2; cases e2) e2, RpS.off e ⟨kvs, hk⟩ nd r⟩
  | .lst ds, v, nd, h => by
    unfold noD at nd
    unfold Rp at h ⊢
    obtain ⟨a, vs, e1, e2, r⟩ := h
    obtain ⟨kvs, hk⟩ := hp
    exact ⟨a, vs, e1, e a _ (fun z => by rw [z, hk] at e2; cases e2) e2, RpS.off e ⟨kvs, hk⟩ nd r⟩
  | .dct ks ds, v, nd, h => by
    unfold noD at nd
    cases nd
  | .dcf ks ds, v, nd, h => by
    unfold noD at nd
    cases nd
theorem RpS.off {p : Addr} {H H' : Hp} (e : LEx p H H') (hp : ∃ kvs, H p = some (.dK kvs)) : ∀ {ds : List D} {vs : List V}, noDS ds = true → RpS H ds vs → RpS H' ds vs
  | [], vs, _, h => h
  | d :: ds, vs, nd, h => by
    unfold noDS at nd
    rw [Bool.and_eq_true] at nd
    unfold RpS at h ⊢
    obtain ⟨v, r, e1, h1, h2⟩ := h
    exact ⟨v, r, e1, Rp.off e hp nd.1 h1, RpS.off e hp nd.2 h2⟩
end
/-! ### slots -/
abbrev DE := List (Option D)
/-- the slots show the data -/
structure Env (σ : St) (H : Hp) (δ : DE) : Prop where
  len : σ.length = δ.length
  at_ : ∀ (i : Nat) (d : D), δ[i]? = some (some d) → ∃ v, σ[i]? = some (some v) ∧ Rp H d v
section
variable {σ : St} {H H' : Hp} {δ : DE} {d : D} {v : V}
theorem Env.mono (E : Env σ H δ) (e : Ex H H') : Env σ H' δ := ⟨E.len, fun i d h => let ⟨v, h1, h2⟩ := E.at_ i d h; ⟨v, h1, h2.mono e⟩⟩
theorem Env.set (E : Env σ H δ) (i : Nat) (r : Rp H d v) : Env (σ.set i (some v)) H (δ.set i (some d)) := by
  refine ⟨by rw [List.length_set, List.length_set]; exact E.len, fun j e h => ?_⟩
  by_cases hj : i = j
  · subst hj
    have hl : i < δ.length := by
      have := (List.getElem?_eq_some_iff.mp h).1
      rw [List.length_set] at this
      exact this
    rw [List.getElem?_set_self hl] at h
    have e1 : d = e := Option.some.inj (Option.some.inj h)
    refine ⟨v, List.getElem?_set_self (by rw [E.len]; exact hl), ?_⟩
    rw [← e1]
    exact r
  · rw [List.getElem?_set_ne hj] at h
    rw [List.getElem?_set_ne hj]
    exact E.at_ j e h
/-- data slots forgotten -/
def wipeD (δ : DE) : List Nat → DE
  | [] => δ
  | v :: vs => (wipeD δ vs).set v none
theorem Env.unset (E : Env σ H δ) (i : Nat) : Env (σ.set i none) H (δ.set i none) := by
  refine ⟨by rw [List.length_set, List.length_set]; exact E.len, fun j e h => ?_⟩
  by_cases hj : i = j
  · subst hj
    have hl : i < δ.length := by
      have := (List.getElem?_eq_some_iff.mp h).1
      rw [List.length_set] at this
      exact this
    rw [List.getElem?_set_self hl] at h
    cases Option.some.inj h
  · rw [List.getElem?_set_ne hj] at h
    rw [List.getElem?_set_ne hj]
    exact E.at_ j e h
theorem Env.wipe (E : Env σ H δ) : ∀ vs, Env (L2.wipe σ vs) H (wipeD δ vs)
  | [] => E
  | v :: vs => by
    unfold L2.wipe wipeD
    exact (E.wipe vs).unset v
theorem env_nil : Env [] H [] := ⟨rfl, fun i d h => by simp at h⟩
theorem env_cons (r : Rp H d v) (E : Env σ H δ) : Env (some v :: σ) H (some d :: δ) := by
  refine ⟨by rw [List.length_cons, List.length_cons, E.len], fun i e h => ?_⟩
  cases i with
  | zero =>
    have e1 : d = e := Option.some.inj (Option.some.inj h)
    exact ⟨v, rfl, by rw [← e1]; exact r⟩
  | succ i => exact E.at_ i e h
theorem env_skip {o : Option V} (E : Env σ H δ) : Env (o :: σ) H (none :: δ) := by
  refine ⟨by rw [List.length_cons, List.length_cons, E.len], fun i e h => ?_⟩
  cases i with
  | zero => cases Option.some.inj h
  | succ i => exact E.at_ i e h
theorem of_envc {σ : St} (E : Env σ H (some d :: δ)) : ∃ v σ', σ = some v :: σ' ∧ Rp H d v ∧ Env σ' H δ := by
  obtain ⟨v, h1, h2⟩ := E.at_ 0 d rfl
  cases σ with
  | nil => simp at h1
  | cons o σ' =>
    have h1 : o = some v := Option.some.inj h1
    subst h1
    refine ⟨v, σ', rfl, h2, ⟨Nat.succ.inj E.len, fun i e h => E.at_ (i + 1) e h⟩⟩
theorem of_envn {σ : St} {o : Option D} (E : Env σ H (o :: δ)) : ∃ v σ', σ = v :: σ' ∧ Env σ' H δ := by
  cases σ with
  | nil => exact absurd E.len (by simp)
  | cons v σ' => exact ⟨v, σ', rfl, ⟨Nat.succ.inj E.len, fun i e h => E.at_ (i + 1) e h⟩⟩
theorem of_env0 {σ : St} (E : Env σ H []) : σ = [] := List.eq_nil_of_length_eq_zero E.len
/-- every slot without lists -/
def immE (δ : DE) : Bool := δ.all fun o => match o with
  | some d => imm d
  | none => true
theorem Env.keep (E : Env σ H δ) (i : immE δ = true) (e : TEx H H') : Env σ H' δ := ⟨E.len, fun j d h => by
  obtain ⟨v, h1, h2⟩ := E.at_ j d h
  refine ⟨v, h1, h2.keep e ?_⟩
  unfold immE at i
  have := List.all_eq_true.mp i _ (List.mem_of_getElem? h)
  exact this⟩
def startD (N : Nat) (ds : List D) : DE := ds.map some ++ List.replicate (N - ds.length) none
theorem env_start {N : List Str} {ds : List D} {vs : List V} (r : RpS H ds vs) : Env (L2.start N vs) H (startD N.length ds) := by
  unfold L2.start startD
  have hl := r.length
  refine ⟨by simp [hl], fun i d h => ?_⟩
  by_cases hi : i < ds.length
  · rw [List.getElem?_append_left (by rw [List.length_map]; exact hi), List.getElem?_map] at h
    cases e : ds[i]? with
    | none =>
      rw [e] at h
      cases h
    | some d' =>
      rw [e] at h
      have e2 : d' = d := Option.some.inj (Option.some.inj h)
      obtain ⟨v, h1, h2⟩ := r.get e
      refine ⟨v, ?_, by rw [← e2]; exact h2⟩
      rw [List.getElem?_append_left (by rw [List.length_map, hl]; exact hi), List.getElem?_map, h1]
      rfl
  · rw [List.getElem?_append_right (by rw [List.length_map]; omega), List.getElem?_replicate] at h
    split at h
    · cases Option.some.inj h
    · cases h
/-- wiping again, after stores to wiped slots, changes nothing -/
theorem wipe_set {i : Nat} {x : Option V} : ∀ {vs : List Nat}, i ∈ vs → L2.wipe (σ.set i x) vs = L2.wipe σ vs
  | v :: vs, h => by
    unfold L2.wipe
    by_cases hv : i = v
    · subst hv
      by_cases hm : i ∈ vs
      · rw [wipe_set hm]
      · have e : L2.wipe (σ.set i x) vs = (L2.wipe σ vs).set i x := wipe_comm hm
        rw [e, List.set_set]
    · have hm : i ∈ vs := by
        rcases List.mem_cons.mp h with q | q
        · exact absurd q hv
        · exact q
      rw [wipe_set hm]
where
  wipe_comm {i : Nat} {x : Option V} : ∀ {vs : List Nat}, i ∉ vs → L2.wipe (σ.set i x) vs = (L2.wipe σ vs).set i x
    | [], _ => rfl
    | v :: vs, h => by
      unfold L2.wipe
      have h1 : i ≠ v := fun q => h (by rw [q]; exact List.mem_cons_self)
      have h2 : i ∉ vs := fun q => h (List.mem_cons_of_mem _ q)
      rw [wipe_comm h2, List.set_comm _ _ h1]
theorem wipe_idem : ∀ (vs us : List Nat), (∀ x ∈ us, x ∈ vs) → L2.wipe (L2.wipe σ us) vs = L2.wipe σ vs
  | vs, [], _ => rfl
  | vs, u :: us, h => by
    show L2.wipe ((L2.wipe σ us).set u none) vs = L2.wipe σ vs
    rw [wipe_set (h u List.mem_cons_self)]
    exact wipe_idem vs us fun x hx => h x (List.mem_cons_of_mem _ hx)
theorem wipe_wipe (vs : List Nat) : L2.wipe (L2.wipe σ vs) vs = L2.wipe σ vs := wipe_idem vs vs fun _ h => h
end
end Oa
/-! What a reading evaluates to, over data. -/
namespace Oa
open PySem L2
/-- an expression's datum, a test's truth, arguments' data, a slice's end -/
def EvD (te : TE) (δ : DE) (d : D) : Prop := ∀ σ H, Env σ H δ → ∀ Q : VK, (∀ v H', Ex H H' → Rp H' d v → Q v H') → te σ H Q
def EtD (tt : TT) (δ : DE) (b : Bool) : Prop := ∀ σ H, Env σ H δ → ∀ Q : Bool → Hp → Prop, (∀ H', Ex H H' → Q b H') → tt σ H Q
def EaD (ta : TA) (δ : DE) (ds : List D) : Prop := ∀ σ H, Env σ H δ → ∀ Q : List V → Hp → Prop, (∀ vs H', Ex H H' → RpS H' ds vs → Q vs H') → ta σ H Q
def EoD (to : TO) (δ : DE) (o : Option Int) : Prop := ∀ σ H, Env σ H δ → ∀ Q : Option Int → Hp → Prop, (∀ H', Ex H H' → Q o H') → to σ H Q
/-- operations on values, over data -/
def RD (r : R2) (x y z : D) : Prop := ∀ H vx vy, Rp H x vx → Rp H y vy → ∀ Q : VK, (∀ v H', Ex H H' → Rp H' z v → Q v H') → r vx vy H Q
def RU (r : V → Hp → VK → Prop) (x z : D) : Prop := ∀ H vx, Rp H x vx → ∀ Q : VK, (∀ v H', Ex H H' → Rp H' z v → Q v H') → r vx H Q
def RC (r : List V → Hp → VK → Prop) (xs : List D) (z : D) : Prop := ∀ H vs, RpS H xs vs → ∀ Q : VK, (∀ v H', Ex H H' → Rp H' z v → Q v H') → r vs H Q
def RS (r : V → Option Int → Option Int → Hp → VK → Prop) (x : D) (lo hi : Option Int) (z : D) : Prop := ∀ H vx, Rp H x vx → ∀ Q : VK, (∀ v H', Ex H H' → Rp H' z v → Q v H') → r vx lo hi H Q
/-- a def's promise at data -/
def Pr (sp : Sp) (ds : List D) (d : D) : Prop := ∀ H vs, RpS H ds vs → ∀ (Q : VK) (E : XK), (∀ v H', Ex H H' → Rp H' d v → Q v H') → sp vs H Q E
/-- the promise of a def that changes nothing: R tells its answers -/
def spR (R : List D → D → Prop) : Sp := fun vs H Q _ => ∃ ds d, RpS H ds vs ∧ R ds d ∧ ∀ v H', Ex H H' → Rp H' d v → Q v H'
theorem pr_R {R : List D → D → Prop} {ds : List D} {d : D} (h : R ds d) : Pr (spR R) ds d := fun _ _ r _ _ q => ⟨ds, d, r, h, q⟩
section
variable {δ : DE} {d x y z : D} {ds es : List D} {te ta tb tc : TE} {t u : TT} {b c : Bool} {i : Nat} {K : PySem.W.Frag}
theorem EvD.to (h : EvD te δ x) (e : x = y) : EvD te δ y := e ▸ h
theorem EtD.to (h : EtD t δ b) (e : b = c) : EtD t δ c := e ▸ h
theorem ed_var (h : δ[i]? = some (some d)) : EvD (tVar i) δ d := fun σ H E Q q => by
  obtain ⟨v, h1, h2⟩ := E.at_ i d h
  exact ⟨v, h1, q v H (Same.refl H) h2⟩
theorem ed_int {n : Int} : EvD (tC (.int n)) δ (.int n) := fun σ H E Q q => q _ _ (Same.refl H) rp_int
theorem ed_bl {n : Bool} : EvD (tC (.bl n)) δ (.bl n) := fun σ H E Q q => q _ _ (Same.refl H) rp_bl
theorem ed_str {n : Str} : EvD (tC (.str n)) δ (.str n) := fun σ H E Q q => q _ _ (Same.refl H) rp_str
theorem ed_non : EvD (tC .non) δ .non := fun σ H E Q q => q _ _ (Same.refl H) rp_non
theorem ed_ty {n : String} : EvD (tC (.ty n)) δ (.ty n) := fun σ H E Q q => q _ _ (Same.refl H) rp_ty
theorem ed_op {r : R2} (ha : EvD ta δ x) (hb : EvD tb δ y) (hr : RD r x y z) : EvD (tOp r ta tb) δ z := fun σ H E Q q =>
  ha σ H E _ fun vx H1 e1 r1 => hb σ H1 (E.mono e1) _ fun vy H2 e2 r2 => hr H2 vx vy (r1.mono e2) r2 Q fun v H3 e3 r3 => q v H3 ((e1.trans e2).trans e3) r3
theorem ed_un {r : V → Hp → VK → Prop} (ha : EvD ta δ x) (hr : RU r x z) : EvD (tUn r ta) δ z := fun σ H E Q q =>
  ha σ H E _ fun vx H1 e1 r1 => hr H1 vx r1 Q fun v H3 e3 r3 => q v H3 (e1.trans e3) r3
theorem ea_nil : EaD tNil δ [] := fun σ H E Q q => q [] H (Same.refl H) rs_nil
theorem ea_cons {tr : TA} (h : EvD te δ d) (hr : EaD tr δ ds) : EaD (tCons te tr) δ (d :: ds) := fun σ H E Q q =>
  h σ H E _ fun v H1 e1 r1 => hr σ H1 (E.mono e1) _ fun vs H2 e2 r2 => q (v :: vs) H2 (e1.trans e2) (rs_cons (r1.mono e2) r2)
theorem sz1000 {n : Nat} (h : n ≤ 1000) : n ≤ sizeLine := Nat.le_of_lt (small1000 h)
theorem ed_tup {ta : TA} (h : EaD ta δ ds) (hl : ds.length ≤ 1000) : EvD (tTup ta) δ (.tup ds) := fun σ H E Q q =>
  h σ H E _ fun vs H1 e1 r1 => ⟨sz1000 (by rw [r1.length]; exact hl), fun p hp => q _ _ (e1.trans (ex_new hp)) (rp_tup upd_same (r1.mono (ex_new hp)))⟩
theorem ed_lst {ta : TA} (h : EaD ta δ ds) (hl : ds.length ≤ 1000) : EvD (tLst ta) δ (.lst ds) := fun σ H E Q q =>
  h σ H E _ fun vs H1 e1 r1 => ⟨sz1000 (by rw [r1.length]; exact hl), fun p hp => q _ _ (e1.trans (ex_new hp)) (rp_lst upd_same (r1.mono (ex_new hp)))⟩
theorem ed_call {sp : Sp} {E0 : XK} {ta : TA} (h : EaD ta δ ds) (hp : Pr sp ds d) : EvD (tCall sp [] E0 ta) δ d := fun σ H E Q q =>
  h σ H E _ fun vs H1 e1 r1 => by
    rw [List.append_nil]
    exact hp H1 vs r1 Q E0 fun v H2 e2 r2 => q v H2 (e1.trans e2) r2
theorem ed_cb {r : List V → Hp → VK → Prop} {ta : TA} (h : EaD ta δ ds) (hr : RC r ds d) : EvD (tCB r ta) δ d := fun σ H E Q q =>
  h σ H E _ fun vs H1 e1 r1 => hr H1 vs r1 Q fun v H2 e2 r2 => q v H2 (e1.trans e2) r2
theorem ed_sl {r : V → Option Int → Option Int → Hp → VK → Prop} {tl th : TO} {lo hi : Option Int} (h : EvD te δ x) (hl : EoD tl δ lo) (hh : EoD th δ hi) (hr : RS r x lo hi z) : EvD (tSl r te tl th) δ z := fun σ H E Q q =>
  h σ H E _ fun vx H1 e1 r1 => hl σ H1 (E.mono e1) _ fun H2 e2 => hh σ H2 (E.mono (e1.trans e2)) _ fun H3 e3 => hr H3 vx (r1.mono (e2.trans e3)) Q fun v H4 e4 r4 => q v H4 (((e1.trans e2).trans e3).trans e4) r4
theorem eo_none : EoD tNoPart δ none := fun σ H E Q q => q H (Same.refl H)
theorem eo_some {n : Int} (h : EvD te δ (.int n)) : EoD (tPart te) δ (some n) := fun σ H E Q q => h σ H E _ fun v H1 e1 r1 => ⟨n, of_int r1, q H1 e1⟩
/-! tests -/
theorem et_test (h : EvD te δ (.bl b)) : EtD (tTest te) δ b := fun σ H E Q q => h σ H E _ fun v H1 e1 r1 => ⟨b, of_bl r1, q H1 e1⟩
theorem et_B (h : EvD te δ (.bl b)) : EtD (tB te) δ b := fun σ H E Q q => h σ H E _ fun v H1 e1 r1 => ⟨b, of_bl r1, q H1 e1⟩
theorem et_yes : EtD tYes δ true := fun σ H E Q q => q H (Same.refl H)
theorem et_and (h : EtD t δ b) (h2 : b = true → EtD u δ c) : EtD (tAnd t u) δ (b && c) := fun σ H E Q q => h σ H E _ fun H1 e1 => by
  cases b with
  | true =>
    rw [if_pos rfl]
    exact h2 rfl σ H1 (E.mono e1) Q fun H2 e2 => q H2 (e1.trans e2)
  | false =>
    rw [if_neg Bool.false_ne_true]
    exact q H1 e1
theorem et_or (h : EtD t δ b) (h2 : b = false → EtD u δ c) : EtD (tOr t u) δ (b || c) := fun σ H E Q q => h σ H E _ fun H1 e1 => by
  cases b with
  | true =>
    rw [if_pos rfl]
    exact q H1 e1
  | false =>
    rw [if_neg Bool.false_ne_true]
    exact h2 rfl σ H1 (E.mono e1) Q fun H2 e2 => q H2 (e1.trans e2)
theorem et_not (h : EtD t δ b) : EtD (tNot t) δ (!b) := fun σ H E Q q => h σ H E _ fun H1 e1 => q H1 e1
theorem ed_andV (h : EvD ta δ (.bl b)) (h2 : b = true → EvD tb δ (.bl c)) : EvD (tAndV ta tb) δ (.bl (b && c)) := fun σ H E Q q => h σ H E _ fun v H1 e1 r1 => ⟨b, of_bl r1, by
  cases b with
  | true =>
    rw [if_pos rfl]
    exact h2 rfl σ H1 (E.mono e1) Q fun v H2 e2 r2 => q v H2 (e1.trans e2) r2
  | false =>
    rw [if_neg Bool.false_ne_true]
    exact q _ H1 e1 rp_bl⟩
theorem ed_orV (h : EvD ta δ (.bl b)) (h2 : b = false → EvD tb δ (.bl c)) : EvD (tOrV ta tb) δ (.bl (b || c)) := fun σ H E Q q => h σ H E _ fun v H1 e1 r1 => ⟨b, of_bl r1, by
  cases b with
  | true =>
    rw [if_pos rfl]
    exact q _ H1 e1 rp_bl
  | false =>
    rw [if_neg Bool.false_ne_true]
    exact h2 rfl σ H1 (E.mono e1) Q fun v H2 e2 r2 => q v H2 (e1.trans e2) r2⟩
theorem ed_notV (h : EvD ta δ (.bl b)) : EvD (tNotV ta) δ (.bl (!b)) := fun σ H E Q q => h σ H E _ fun v H1 e1 r1 => ⟨b, of_bl r1, q _ H1 e1 rp_bl⟩
/-- a < b < c -/
theorem ed_chain {r r' : R2} {w : D} (ha : EvD ta δ x) (hb : EvD tb δ y) (hr : RD r x y (.bl b)) (hc : b = true → EvD tc δ w) (hr' : b = true → RD r' y w (.bl c)) : EvD (tChain r r' ta tb tc) δ (.bl (b && c)) := fun σ H E Q q =>
  ha σ H E _ fun vx H1 e1 r1 => hb σ H1 (E.mono e1) _ fun vy H2 e2 r2 => hr H2 vx vy (r1.mono e2) r2 _ fun v H3 e3 r3 => ⟨b, of_bl r3, by
    have e13 := (e1.trans e2).trans e3
    cases b with
    | true =>
      rw [if_pos rfl]
      exact hc rfl σ H3 (E.mono e13) _ fun vw H4 e4 r4 => hr' rfl H4 vy vw (r2.mono (e3.trans e4)) r4 Q fun v H5 e5 r5 => q v H5 ((e13.trans e4).trans e5) r5
    | false =>
      rw [if_neg Bool.false_ne_true]
      exact q _ H3 e13 rp_bl⟩
/-! operations -/
theorem rd_I0 {g : Int → Int → V} {i j : Int} (h : ∀ H, Rp H z (g i j)) : RD (rI0 g) (.int i) (.int j) z := fun H vx vy rx ry Q q => ⟨i, j, of_int rx, of_int ry, q _ H (Same.refl H) (h H)⟩
theorem rd_I {C : Int → Int → Prop} {g : Int → Int → V} {i j : Int} (hc : C i j) (h : ∀ H, Rp H z (g i j)) : RD (rI C g) (.int i) (.int j) z := fun H vx vy rx ry Q q => ⟨i, j, of_int rx, of_int ry, hc, q _ H (Same.refl H) (h H)⟩
theorem rd_ii {g : Int → Int → Int} {i j : Int} : RD (rI0 fun i j => .int (g i j)) (.int i) (.int j) (.int (g i j)) := rd_I0 fun _ => rp_int
theorem rd_ib {g : Int → Int → Bool} {i j : Int} : RD (rI0 fun i j => .bl (g i j)) (.int i) (.int j) (.bl (g i j)) := rd_I0 fun _ => rp_bl
theorem rd_iiC {C : Int → Int → Prop} {g : Int → Int → Int} {i j : Int} (hc : C i j) : RD (rI C fun i j => .int (g i j)) (.int i) (.int j) (.int (g i j)) := rd_I hc fun _ => rp_int
theorem rd_eqI {i j : Int} : RD rEq (.int i) (.int j) (.bl (decide (i = j))) := fun H vx vy rx ry Q q => by
  rw [of_int rx, of_int ry]
  refine ⟨rfl, ?_⟩
  have e : decide (V.int i = V.int j) = decide (i = j) := by
    by_cases h : i = j
    · rw [decide_eq_true h, decide_eq_true (congrArg V.int h)]
    · rw [decide_eq_false h, decide_eq_false fun z => h (V.int.inj z)]
  rw [e]
  exact q _ H (Same.refl H) rp_bl
theorem rd_neI {i j : Int} : RD rNe (.int i) (.int j) (.bl (!decide (i = j))) := fun H vx vy rx ry Q q => by
  rw [of_int rx, of_int ry]
  refine ⟨rfl, ?_⟩
  have e : decide (V.int i = V.int j) = decide (i = j) := by
    by_cases h : i = j
    · rw [decide_eq_true h, decide_eq_true (congrArg V.int h)]
    · rw [decide_eq_false h, decide_eq_false fun z => h (V.int.inj z)]
  rw [e]
  exact q _ H (Same.refl H) rp_bl
theorem rd_eqS {i j : Str} : RD rEq (.str i) (.str j) (.bl (decide (i = j))) := fun H vx vy rx ry Q q => by
  rw [of_str rx, of_str ry]
  refine ⟨rfl, ?_⟩
  have e : decide (V.str i = V.str j) = decide (i = j) := by
    by_cases h : i = j
    · rw [decide_eq_true h, decide_eq_true (congrArg V.str h)]
    · rw [decide_eq_false h, decide_eq_false fun z => h (V.str.inj z)]
  rw [e]
  exact q _ H (Same.refl H) rp_bl
theorem rd_neS {i j : Str} : RD rNe (.str i) (.str j) (.bl (!decide (i = j))) := fun H vx vy rx ry Q q => by
  rw [of_str rx, of_str ry]
  refine ⟨rfl, ?_⟩
  have e : decide (V.str i = V.str j) = decide (i = j) := by
    by_cases h : i = j
    · rw [decide_eq_true h, decide_eq_true (congrArg V.str h)]
    · rw [decide_eq_false h, decide_eq_false fun z => h (V.str.inj z)]
  rw [e]
  exact q _ H (Same.refl H) rp_bl
theorem rd_eqB {i j : Bool} : RD rEq (.bl i) (.bl j) (.bl (decide (i = j))) := fun H vx vy rx ry Q q => by
  rw [of_bl rx, of_bl ry]
  refine ⟨rfl, ?_⟩
  have e : decide (V.bl i = V.bl j) = decide (i = j) := by
    cases i <;> cases j <;> rfl
  rw [e]
  exact q _ H (Same.refl H) rp_bl
theorem rd_neB {i j : Bool} : RD rNe (.bl i) (.bl j) (.bl (!decide (i = j))) := fun H vx vy rx ry Q q => by
  rw [of_bl rx, of_bl ry]
  refine ⟨rfl, ?_⟩
  have e : decide (V.bl i = V.bl j) = decide (i = j) := by
    cases i <;> cases j <;> rfl
  rw [e]
  exact q _ H (Same.refl H) rp_bl
theorem rd_ixT {n : Int} {j : Nat} (hn : n = (j : Int)) (h : ds[j]? = some d) : RD (rIxT K) (.tup ds) (.int n) d := fun H vx vy rx ry Q q => by
  obtain ⟨a, vs, e1, e2, r⟩ := of_tup rx
  obtain ⟨v, h1, h2⟩ := r.get h
  exact ⟨a, vs, n, v, e1, of_int ry, SqT.of e2, by rw [hn]; exact atI_nat h1, q v H (Same.refl H) h2⟩
theorem rd_ixL {n : Int} {j : Nat} (hn : n = (j : Int)) (h : ds[j]? = some d) : RD (rIxL K) (.lst ds) (.int n) d := fun H vx vy rx ry Q q => by
  obtain ⟨a, vs, e1, e2, r⟩ := of_lst rx
  obtain ⟨v, h1, h2⟩ := r.get h
  exact ⟨a, vs, n, v, e1, of_int ry, SqL.of e2, by rw [hn]; exact atI_nat h1, q v H (Same.refl H) h2⟩
theorem rd_catL (hl : ds.length + es.length ≤ 1000) : RD rCat (.lst ds) (.lst es) (.lst (ds ++ es)) := fun H vx vy rx ry Q q => by
  obtain ⟨a, vs, e1, e2, r⟩ := of_lst rx
  obtain ⟨b, ws, e3, e4, r2⟩ := of_lst ry
  exact ⟨a, b, vs, ws, e1, e3, e2, e4, sz1000 (by rw [r.length, r2.length]; exact hl), fun p hp => q _ _ (ex_new hp) (rp_lst upd_same ((r.append r2).mono (ex_new hp)))⟩
theorem rd_catT (hl : ds.length + es.length ≤ 1000) : RD (rCatA K) (.tup ds) (.tup es) (.tup (ds ++ es)) := fun H vx vy rx ry Q q => by
  obtain ⟨a, vs, e1, e2, r⟩ := of_tup rx
  obtain ⟨b, ws, e3, e4, r2⟩ := of_tup ry
  refine ⟨a, b, vs, ws, e1, e3, SqT.of e2, SqT.of e4, sz1000 (by rw [r.length, r2.length]; exact hl), fun h => ?_, fun h1 h2 => ?_, fun _ _ p hp => q _ _ (ex_new hp) (rp_tup upd_same ((r.append r2).mono (ex_new hp)))⟩
  · subst h
    have hd : ds = [] := List.eq_nil_of_length_eq_zero (by rw [← r.length]; rfl)
    subst hd
    exact q _ H (Same.refl H) (rp_tup e4 r2)
  · subst h2
    have hd : es = [] := List.eq_nil_of_length_eq_zero (by rw [← r2.length]; rfl)
    subst hd
    rw [List.append_nil] at q
    exact q _ H (Same.refl H) (rp_tup e2 r)
theorem rs_slL {lo hi : Option Int} : RS (rSlL K) (.lst ds) lo hi (.lst ((ds.drop (HT.sIx ds.length 0 lo)).take (HT.sIx ds.length ds.length hi - HT.sIx ds.length 0 lo))) := fun H vx rx Q q => by
  obtain ⟨a, vs, e1, e2, r⟩ := of_lst rx
  refine ⟨a, vs, e1, SqL.of e2, fun p hp => q _ _ (ex_new hp) (rp_lst upd_same ?_)⟩
  unfold cutV
  rw [r.length]
  exact ((r.drop _).take _).mono (ex_new hp)
theorem rs_slT {lo hi : Option Int} : RS (rSlA K) (.tup ds) lo hi (.tup ((ds.drop (HT.sIx ds.length 0 lo)).take (HT.sIx ds.length ds.length hi - HT.sIx ds.length 0 lo))) := fun H vx rx Q q => by
  obtain ⟨a, vs, e1, e2, r⟩ := of_tup rx
  refine ⟨a, vs, e1, SqT.of e2, fun h => ?_, fun _ p hp => q _ _ (ex_new hp) (rp_tup upd_same ?_)⟩
  · refine q _ H (Same.refl H) (rp_tup e2 ?_)
    rw [r.length] at h
    rw [h.1, h.2, List.drop_zero, Nat.sub_zero, List.take_length]
    exact r
  · unfold cutV
    rw [r.length]
    exact ((r.drop _).take _).mono (ex_new hp)
theorem rd_isN {b : Bool} (h : ∀ H v, Rp H x v → decide (v = V.non) = b) : RD (fun x y H Q => y = .non ∧ Q (.bl (decide (x = .non))) H) x .non (.bl b) := fun H vx vy rx ry Q q => by
  refine ⟨of_non ry, ?_⟩
  rw [h H vx rx]
  exact q _ H (Same.refl H) rp_bl
theorem rd_notN {b : Bool} (h : ∀ H v, Rp H x v → decide (v = V.non) = b) : RD (fun x y H Q => y = .non ∧ Q (.bl (!decide (x = .non))) H) x .non (.bl (!b)) := fun H vx vy rx ry Q q => by
  refine ⟨of_non ry, ?_⟩
  rw [h H vx rx]
  exact q _ H (Same.refl H) rp_bl
/-- whether a datum is None -/
def isNon : D → Bool
  | .non => true
  | _ => false
theorem isNon_v {H : Hp} {v : V} (h : Rp H x v) : decide (v = V.non) = isNon x := by
  cases x with
  | non => rw [of_non h]; rfl
  | bl b => rw [of_bl h]; rfl
  | int b => rw [of_int h]; rfl
  | str b => rw [of_str h]; rfl
  | ty b => rw [of_ty h]; rfl
  | ptr b => rw [of_ptr h]; rfl
  | tup ds => obtain ⟨a, vs, e, _⟩ := of_tup h; rw [e]; rfl
  | lst ds => obtain ⟨a, vs, e, _⟩ := of_lst h; rw [e]; rfl
  | dct ks ds => obtain ⟨a, vs, e, _⟩ := of_dct h; rw [e]; rfl
  | dcf ks ds => obtain ⟨a, o, vs, e, _⟩ := of_dcf h; rw [e]; rfl
theorem rd_isN' : RD (fun x y H Q => y = .non ∧ Q (.bl (decide (x = .non))) H) x .non (.bl (isNon x)) := rd_isN fun _ _ h => isNon_v h
theorem rd_notN' : RD (fun x y H Q => y = .non ∧ Q (.bl (!decide (x = .non))) H) x .non (.bl (!isNon x)) := rd_notN fun _ _ h => isNon_v h
theorem any_int {n : Int} : ∀ {ns : List Int}, inV (.int n) (ns.map V.int) = decide (n ∈ ns)
  | [] => rfl
  | m :: ns => by
    have ih := any_int (n := n) (ns := ns)
    unfold inV at ih ⊢
    rw [List.map_cons, List.any_cons, ih]
    show (m == n || decide (n ∈ ns)) = decide (n ∈ m :: ns)
    by_cases h : m = n
    · subst h
      simp
    · have h2 : ¬ n = m := fun z => h z.symm
      simp [h, h2]
theorem all_flat : ∀ {ns : List Int}, (ns.map V.int).all flatV = true
  | [] => rfl
  | n :: ns => by
    rw [List.map_cons, List.all_cons, all_flat]
    rfl
theorem rd_inL {n : Int} {ns : List Int} : RD (rIn K false) (.int n) (.lst (ns.map D.int)) (.bl (decide (n ∈ ns))) := fun H vx vy rx ry Q q => by
  obtain ⟨a, vs, e1, e2, r⟩ := of_lst ry
  rw [r.ints] at e2
  rw [of_int rx]
  refine ⟨a, _, e1, .inl (SqL.of e2), rfl, all_flat, ?_⟩
  rw [any_int]
  exact q _ H (Same.refl H) rp_bl
/-! built-ins -/
theorem rc_lenL : RC (fun xs H Q => ∃ p ys, xs = [.ref p] ∧ (SqL K H p ys ∨ SqT K H p ys) ∧ Q (.int ys.length) H) [.lst ds] (.int ds.length) := fun H vs r Q q => by
  obtain ⟨v, r0, rfl, h1, h2⟩ := of_cons r
  rw [of_nil h2]
  obtain ⟨a, ws, rfl, e2, r2⟩ := of_lst h1
  refine ⟨a, ws, rfl, .inl (SqL.of e2), ?_⟩
  rw [r2.length]
  exact q _ H (Same.refl H) rp_int
theorem rc_lenT : RC (fun xs H Q => ∃ p ys, xs = [.ref p] ∧ (SqL K H p ys ∨ SqT K H p ys) ∧ Q (.int ys.length) H) [.tup ds] (.int ds.length) := fun H vs r Q q => by
  obtain ⟨v, r0, rfl, h1, h2⟩ := of_cons r
  rw [of_nil h2]
  obtain ⟨a, ws, rfl, e2, r2⟩ := of_tup h1
  refine ⟨a, ws, rfl, .inr (SqT.of e2), ?_⟩
  rw [r2.length]
  exact q _ H (Same.refl H) rp_int
theorem rc_all {bs : List Bool} : RC (rAll K) [.lst (bs.map D.bl)] (.bl (bs.all id)) := fun H vs r Q q => by
  obtain ⟨v, r0, rfl, h1, h2⟩ := of_cons r
  rw [of_nil h2]
  obtain ⟨a, ws, rfl, e2, r2⟩ := of_lst h1
  rw [r2.bls] at e2
  exact ⟨a, bs, rfl, SqL.of e2, q _ H (Same.refl H) rp_bl⟩
theorem rc_max {i j : Int} : RC (fun xs H Q => ∃ i j, xs = [.int i, .int j] ∧ Q (.int (if j > i then j else i)) H) [.int i, .int j] (.int (max i j)) := fun H vs r Q q => by
  obtain ⟨v, r0, rfl, h1, h2⟩ := of_cons r
  obtain ⟨v2, r0, rfl, h3, h4⟩ := of_cons h2
  rw [of_nil h4, of_int h1, of_int h3]
  refine ⟨i, j, rfl, q _ H (Same.refl H) ?_⟩
  have e : (if j > i then j else i) = max i j := by
    split <;> omega
  rw [e]
  exact rp_int
theorem rc_min {i j : Int} : RC (fun xs H Q => ∃ i j, xs = [.int i, .int j] ∧ Q (.int (if j < i then j else i)) H) [.int i, .int j] (.int (min i j)) := fun H vs r Q q => by
  obtain ⟨v, r0, rfl, h1, h2⟩ := of_cons r
  obtain ⟨v2, r0, rfl, h3, h4⟩ := of_cons h2
  rw [of_nil h4, of_int h1, of_int h3]
  refine ⟨i, j, rfl, q _ H (Same.refl H) ?_⟩
  have e : (if j < i then j else i) = min i j := by
    split <;> omega
  rw [e]
  exact rp_int
theorem rc_tupleL : RC (fun xs H Q => ∃ p ys, xs = [.ref p] ∧ ((SqL K H p ys ∧ ∀ l, H l = none → Q (.ref l) (upd H l (.tup ys))) ∨ (SqT K H p ys ∧ Q (.ref p) H))) [.lst ds] (.tup ds) := fun H vs r Q q => by
  obtain ⟨v, r0, rfl, h1, h2⟩ := of_cons r
  rw [of_nil h2]
  obtain ⟨a, ws, rfl, e2, r2⟩ := of_lst h1
  exact ⟨a, ws, rfl, .inl ⟨SqL.of e2, fun p hp => q _ _ (ex_new hp) (rp_tup upd_same (r2.mono (ex_new hp)))⟩⟩
theorem rc_listL : RC (fun xs H Q => ∃ p ys, xs = [.ref p] ∧ (SqL K H p ys ∨ SqT K H p ys) ∧ ∀ l, H l = none → Q (.ref l) (upd H l (.lst ys))) [.lst ds] (.lst ds) := fun H vs r Q q => by
  obtain ⟨v, r0, rfl, h1, h2⟩ := of_cons r
  rw [of_nil h2]
  obtain ⟨a, ws, rfl, e2, r2⟩ := of_lst h1
  exact ⟨a, ws, rfl, .inl (SqL.of e2), fun p hp => q _ _ (ex_new hp) (rp_lst upd_same (r2.mono (ex_new hp)))⟩
/-- the ints, falling -/
def desc (ns : List Int) : List Int := ns.mergeSort fun a b => decide (b ≤ a)
theorem perm_pair {r : Int → Int → Prop} (asym : ∀ a b, r a b → r b a → a = b) : ∀ {l1 l2 : List Int}, l1.Perm l2 → l1.Pairwise r → l2.Pairwise r → l1 = l2
  | [], l2, p, _, _ => (List.nil_perm.mp p).symm
  | a :: l1, l2, p, h1, h2 => by
    cases l2 with
    | nil => exact absurd p.length_eq (by simp)
    | cons b l2 =>
      have e : a = b := by
        have ha : a ∈ b :: l2 := p.mem_iff.mp List.mem_cons_self
        have hb : b ∈ a :: l1 := p.mem_iff.mpr List.mem_cons_self
        rcases List.mem_cons.mp ha with q | q
        · exact q
        · rcases List.mem_cons.mp hb with q2 | q2
          · exact q2.symm
          · exact asym a b ((List.pairwise_cons.mp h1).1 b q2) ((List.pairwise_cons.mp h2).1 a q)
      subst e
      rw [perm_pair asym (List.Perm.cons_inv p) (List.pairwise_cons.mp h1).2 (List.pairwise_cons.mp h2).2]
theorem desc_perm (ns : List Int) : (desc ns).Perm ns := List.mergeSort_perm ns _
theorem desc_pair (ns : List Int) : (desc ns).Pairwise (· ≥ ·) := by
  have h := List.pairwise_mergeSort (le := fun a b : Int => decide (b ≤ a)) (fun a b c h1 h2 => by
    have h1 := of_decide_eq_true h1
    have h2 := of_decide_eq_true h2
    exact decide_eq_true (by omega)) (fun a b => by
    by_cases h : b ≤ a
    · simp [h]
    · have : a ≤ b := by omega
      simp [this]) ns
  exact h.imp fun {a b} h => of_decide_eq_true h
theorem desc_eq {ns ns' : List Int} (hp : ns'.Perm ns) (ho : ns'.Pairwise (· ≥ ·)) : ns' = desc ns :=
  perm_pair (fun a b h1 h2 => by omega) (hp.trans (desc_perm ns).symm) ho (desc_pair ns)
/-- sorted(.., reverse=True) of ints -/
theorem ed_sortedR {ta tk : TA} {ns : List Int} (h : EaD ta δ [.lst (ns.map D.int)]) (hk : EaD tk δ [.bl true]) : EvD (tCKw (rSortedKw K true [.bl true]) ta tk) δ (.lst ((desc ns).map D.int)) := fun σ H E Q q =>
  h σ H E _ fun vs H1 e1 r1 => hk σ H1 (E.mono e1) _ fun ws H2 e2 r2 => by
    obtain ⟨v, r0, rfl, h1, h2⟩ := of_cons (r1.mono e2)
    rw [of_nil h2]
    obtain ⟨a, us, rfl, e3, r3⟩ := of_lst h1
    rw [r3.ints] at e3
    obtain ⟨w, r4, rfl, h5, h6⟩ := of_cons r2
    rw [of_nil h6, of_bl h5]
    refine ⟨a, ns, rfl, rfl, SqL.of e3, fun ns' p hp ho hn => q _ _ ((e1.trans e2).trans (ex_new hn)) ?_⟩
    rw [← desc_eq hp ho]
    exact rp_lst upd_same ints_rs
end
end Oa
/-! Targets, walks, comprehensions, statements, over data. -/
namespace Oa
open PySem L2
/-- a target: the data behind the store, the slots stored to -/
def GD (g : TG) (is : List Nat) (d : D) (δ δ' : DE) : Prop := ∀ σ H v, Env σ H δ → Rp H d v → ∀ Q : St → Hp → Prop, (∀ σ', Env σ' H δ' → (∀ vs : List Nat, (∀ i ∈ is, i ∈ vs) → wipe σ' vs = wipe σ vs) → Q σ' H) → g v σ H Q
def GDs (g : TGs) (is : List Nat) (ds : List D) (δ δ' : DE) : Prop := ∀ σ H vs, Env σ H δ → RpS H ds vs → ∀ Q : St → Hp → Prop, (∀ σ', Env σ' H δ' → (∀ vs : List Nat, (∀ i ∈ is, i ∈ vs) → wipe σ' vs = wipe σ vs) → Q σ' H) → g vs σ H Q
section
variable {δ δ' δ1 δ2 : DE} {d x y z : D} {ds es : List D} {te ta tb tc : TE} {t u : TT} {b c : Bool} {i : Nat} {K : PySem.W.Frag}
theorem gd_name : GD (gName i) [i] d δ (δ.set i (some d)) := fun σ H v E r Q q => q _ (E.set i r) fun vs h => wipe_set (h i List.mem_cons_self)
theorem gds_nil : GDs gNil [] [] δ δ := fun σ H vs E r Q q => ⟨of_nil r, q σ E fun _ _ => rfl⟩
theorem gds_cons {g : TG} {gs : TGs} {is js : List Nat} (h : GD g is d δ δ1) (hs : GDs gs js ds δ1 δ2) : GDs (gCons g gs) (is ++ js) (d :: ds) δ δ2 := fun σ H vs E r Q q => by
  obtain ⟨v, r0, rfl, h1, h2⟩ := of_cons r
  refine ⟨v, r0, rfl, h σ H v E h1 _ fun σ1 E1 w1 => hs σ1 H r0 E1 h2 Q fun σ2 E2 w2 => q σ2 E2 fun vs hv => ?_⟩
  rw [w2 vs fun i hi => hv i (List.mem_append_right _ hi), w1 vs fun i hi => hv i (List.mem_append_left _ hi)]
theorem gd_tup {gs : TGs} {is : List Nat} {n : Nat} (h : GDs gs is ds δ δ') (hn : ds.length = n) : GD (gTup K n gs) is (.tup ds) δ δ' := fun σ H v E r Q q => by
  obtain ⟨a, vs, e1, e2, r2⟩ := of_tup r
  exact ⟨a, vs, e1, SqT.of e2, by rw [r2.length]; exact hn, h σ H vs E r2 Q q⟩
/-! what is walked -/
def WD (wi : TI) (δ : DE) (ds : List D) : Prop := ∀ σ H, Env σ H δ → ∀ R : It → Hp → Prop, (∀ J H1 (G : Hp → Prop) (Y : Nat → Hp → V → Hp → Prop), Ex H H1 → Walk J ds.length G Y → (∀ H', Ex H1 H' → G H') →
  (∀ i H' x H'', Ex H1 H' → i < ds.length → Y i H' x H'' → Ex H' H'' ∧ ∃ d, ds[i]? = some d ∧ Rp H'' d x) → R J H1) → wi σ H R
theorem wd_list {tl : TE} (h : EvD tl δ (.lst ds)) : WD (iList K tl) δ ds := fun σ H E R q => h σ H E _ fun v H1 e1 r1 => by
  obtain ⟨a, vs, rfl, h2, r2⟩ := of_lst r1
  refine ⟨a, rfl, ⟨vs, SqL.of h2⟩, ?_⟩
  have w := walk_list (K := K) (a := a) (xs := vs)
  rw [r2.length] at w
  refine q _ H1 _ _ e1 w (fun H' e => e.seq (SqL.of h2)) fun i H' x H'' e hi y => ?_
  obtain ⟨rfl, y⟩ := y
  obtain ⟨d, h3, h4⟩ := r2.at y
  exact ⟨Same.refl _, d, h3, h4.mono e⟩
theorem wd_tup {tl : TE} (h : EvD tl δ (.tup ds)) : WD (iTup K tl) δ ds := fun σ H E R q => h σ H E _ fun v H1 e1 r1 => by
  obtain ⟨a, vs, rfl, h2, r2⟩ := of_tup r1
  refine ⟨a, rfl, ⟨vs, SqT.of h2⟩, ?_⟩
  have w := walk_tup (K := K) (a := a) (xs := vs)
  rw [r2.length] at w
  refine q _ H1 _ _ e1 w (fun H' e => .inl (.inl (e _ _ h2))) fun i H' x H'' e hi y => ?_
  obtain ⟨rfl, y⟩ := y
  obtain ⟨d, h3, h4⟩ := r2.at y
  exact ⟨Same.refl _, d, h3, h4.mono e⟩
/-- range(n) -/
def rng (n : Nat) : List D := (List.range n).map fun (i : Nat) => D.int (i : Int)
theorem rng_get {n i : Nat} (h : i < n) : (rng n)[i]? = some (.int (i : Int)) := by
  unfold rng
  rw [List.getElem?_map, List.getElem?_range h]
  rfl
theorem rng_len {n : Nat} : (rng n).length = n := by
  unfold rng
  rw [List.length_map, List.length_range]
theorem wd_range {ta : TA} {n : Int} (h : EaD ta δ [.int n]) (h0 : 0 ≤ n) (h1 : n < 100000) : WD (iRng1 ta) δ (rng n.toNat) := fun σ H E R q => h σ H E _ fun vs H1 e1 r1 => by
  obtain ⟨v, r0, rfl, h3, h2⟩ := of_cons r1
  rw [of_nil h2, of_int h3]
  refine ⟨n, rfl, by omega, by omega, ?_⟩
  have w := walk_range (lo := 0) (n := n.toNat)
  refine q _ H1 (fun _ => True) _ e1 (by rw [rng_len]; exact w) (fun _ _ => trivial) fun i H' x H'' e hi y => ?_
  rw [rng_len] at hi
  obtain ⟨rfl, rfl⟩ := y
  refine ⟨Same.refl _, _, rng_get hi, ?_⟩
  show Rp H'' (.int (i : Int)) (.int (0 + (i : Int)))
  rw [Int.zero_add]
  exact rp_int
/-- zip -/
theorem zip_get {xs ys : List D} {i : Nat} {x y : D} (h1 : xs[i]? = some x) (h2 : ys[i]? = some y) : ((xs.zip ys).map fun p => D.tup [p.1, p.2])[i]? = some (.tup [x, y]) := by
  have h3 : (xs.zip ys)[i]? = some (x, y) := List.getElem?_zip_eq_some.mpr ⟨h1, h2⟩
  rw [List.getElem?_map, h3]
  rfl
def zipD (xs ys : List D) : List D := (xs.zip ys).map fun p => D.tup [p.1, p.2]
theorem zipD_len {xs ys : List D} : (zipD xs ys).length = min xs.length ys.length := by
  unfold zipD
  rw [List.length_map, List.length_zip]
theorem wd_zipL {ta : TA} {xs ys : List D} (h : EaD ta δ [.lst xs, .lst ys]) : WD (iZip K ta) δ (zipD xs ys) := fun σ H E R q => h σ H E _ fun vs H1 e1 r1 => by
  obtain ⟨v, r0, rfl, h3, h2⟩ := of_cons r1
  obtain ⟨v2, r2, rfl, h4, h5⟩ := of_cons h2
  rw [of_nil h5]
  obtain ⟨a, us, rfl, h6, r6⟩ := of_lst h3
  obtain ⟨b, ws, rfl, h7, r7⟩ := of_lst h4
  refine ⟨a, b, us, ws, rfl, SqL.of h6, SqL.of h7, ?_⟩
  have w := walk_zip (K := K) (a := a) (b := b) (xs := us) (ys := ws) (n := min us.length ws.length) rfl
  rw [r6.length, r7.length, ← zipD_len] at w
  refine q _ H1 _ _ e1 w (fun H' e => ⟨e.seq (SqL.of h6), e.seq (SqL.of h7)⟩) fun i H' x H'' e hi y => ?_
  obtain ⟨T, x', y', rfl, hT, rfl, hx, hy⟩ := y
  obtain ⟨d, k1, k2⟩ := r6.at hx
  obtain ⟨d2, k3, k4⟩ := r7.at hy
  exact ⟨ex_new hT, _, zip_get k1 k3, rp_tup upd_same (rs_cons (k2.mono (e.trans (ex_new hT))) (rs_cons (k4.mono (e.trans (ex_new hT))) rs_nil))⟩
/-- enumerate -/
def enD (xs : List D) : List D := zipD (rng xs.length) xs
theorem enD_len {xs : List D} : (enD xs).length = xs.length := by
  unfold enD
  rw [zipD_len, rng_len, Nat.min_self]
theorem enD_get {xs : List D} {i : Nat} {x : D} (h : xs[i]? = some x) : (enD xs)[i]? = some (.tup [.int (i : Int), x]) := zip_get (rng_get (List.getElem?_eq_some_iff.mp h).1) h
theorem wd_enumL {ta : TA} {xs : List D} (h : EaD ta δ [.lst xs]) : WD (iEnum K ta) δ (enD xs) := fun σ H E R q => h σ H E _ fun vs H1 e1 r1 => by
  obtain ⟨v, r0, rfl, h3, h2⟩ := of_cons r1
  rw [of_nil h2]
  obtain ⟨a, us, rfl, h6, r6⟩ := of_lst h3
  refine ⟨a, us, rfl, SqL.of h6, ?_⟩
  have w := walk_enum (K := K) (a := a) (xs := us)
  rw [r6.length, ← enD_len (xs := xs)] at w
  refine q _ H1 _ _ e1 w (fun H' e => e.seq (SqL.of h6)) fun i H' x H'' e hi y => ?_
  obtain ⟨T, x', y', rfl, hT, rfl, hx, hy⟩ := y
  cases hx
  obtain ⟨d2, k3, k4⟩ := r6.at hy
  exact ⟨ex_new hT, _, enD_get k3, rp_tup upd_same (rs_cons rp_int (rs_cons (k4.mono (e.trans (ex_new hT))) rs_nil))⟩
/-! comprehensions -/
theorem immS_append : ∀ {xs ys : List D}, immS (xs ++ ys) = (immS xs && immS ys)
  | [], ys => by
    show immS ys = (true && immS ys)
    rw [Bool.true_and]
  | x :: xs, ys => by
    show (imm x && immS (xs ++ ys)) = (imm x && immS xs && immS ys)
    rw [immS_append, Bool.and_assoc]
/-- one turn: the item's datum, where it is kept -/
def Turn1 (g : TG) (tt : TT) (te : TE) (vs : List Nat) (δ : DE) (d : D) (o : Option D) : Prop :=
  ∃ is δ2, (∀ i ∈ is, i ∈ vs) ∧ GD g is d (wipeD δ vs) δ2 ∧ EtD tt δ2 o.isSome ∧ ∀ e, o = some e → imm e = true ∧ EvD te δ2 e
/-- a new list -/
def EvN (te : TE) (δ : DE) (ds : List D) : Prop := ∀ σ H, Env σ H δ → ∀ Q : VK, (∀ p vs H', H p = none → Ex H H' → H' p = some (.lst vs) → RpS H' ds vs → Q (.ref p) H') → te σ H Q
theorem EvN.ed (h : EvN te δ ds) : EvD te δ (.lst ds) := fun σ H E Q q => h σ H E Q fun p vs H' _ e hp r => q _ _ e (rp_lst hp r)
theorem en_lst {ta : TA} (h : EaD ta δ ds) (hl : ds.length ≤ 1000) : EvN (tLst ta) δ ds := fun σ H E Q q =>
  h σ H E _ fun vs H1 e1 r1 => ⟨sz1000 (by rw [r1.length]; exact hl), fun p hp => q p vs _ (e1.free hp) (e1.trans (ex_new hp)) upd_same (r1.mono (ex_new hp))⟩
theorem en_lcI {wi : TI} {g : TG} {tt : TT} {te : TE} {vs : List Nat} (fs : List (Option D)) (hfs : fs.length = ds.length) (h : WD wi δ ds) (hl : ds.length ≤ 100000) (ht : ∀ (i : Nat) d o, ds[i]? = some d → fs[i]? = some o → Turn1 g tt te vs δ d o) : EvN (tLc wi g tt te vs) δ (fs.filterMap id) := fun σ H E Q q => by
  refine h σ H E _ fun J H1 G Y e1 w hG hY Dl hD => ?_
  refine lc_it w (fun i H' => Ex H1 H' ∧ ∃ acc, H' Dl = some (.lst acc) ∧ acc.length ≤ i ∧ immS ((fs.take i).filterMap id) = true ∧ RpS H' ((fs.take i).filterMap id) acc) ?_ (fun i H' _ p => hG H' p.1) ?_ ?_
  · exact ⟨ex_new hD, [], upd_same, Nat.le_refl _, by rw [List.take_zero]; rfl, by rw [List.take_zero]; exact rs_nil⟩
  · rintro i x H' H'' hi ⟨e2, acc, hacc, hlen, him, hr⟩ hy
    obtain ⟨e3, d, hd, rd⟩ := hY i H' x H'' e2 hi hy
    obtain ⟨o, ho⟩ : ∃ o, fs[i]? = some o := ⟨_, List.getElem?_eq_getElem (by rw [hfs]; exact hi)⟩
    obtain ⟨is, δ2, his, hg, htt, hte⟩ := ht i d o hd ho
    have E2 : Env (wipe σ vs) H'' (wipeD δ vs) := (E.wipe vs).mono ((e1.trans e2).trans e3)
    refine hg _ H'' x E2 rd _ fun σ2 E3 hw => ⟨by rw [hw vs his, wipe_wipe], htt σ2 H'' E3 _ fun H3 e4 => ?_⟩
    have hs : (fs.take (i + 1)).filterMap id = (fs.take i).filterMap id ++ o.toList := by
      rw [List.take_add_one, ho, List.filterMap_append]
      congr 1
    cases hf : o with
    | none =>
      rw [hf] at hs
      show Ex H1 H3 ∧ _
      refine ⟨(e2.trans e3).trans e4, acc, e4 _ _ (e3 _ _ hacc), Nat.le_succ_of_le hlen, ?_, ?_⟩
      · rw [hs, immS_append, him]
        rfl
      · rw [hs]
        show RpS H3 (_ ++ []) acc
        rw [List.append_nil]
        exact hr.mono (e3.trans e4)
    | some e =>
      rw [hf] at hs
      show te σ2 H3 _
      obtain ⟨hi2, hte⟩ := hte e hf
      refine hte σ2 H3 (E3.mono e4) _ fun y H4 e5 ry => ?_
      have e6 := (e3.trans e4).trans e5
      have ha : H4 Dl = some (.lst acc) := e6 _ _ hacc
      refine ⟨acc, ha, Nat.lt_of_le_of_lt hlen (Nat.lt_of_lt_of_le hi (Nat.le_trans hl (by decide))), ?_⟩
      have e7 : Ex H1 (upd H4 Dl (.lst (acc ++ [y]))) := ex_mut (e2.trans e6) hD
      have him2 : immS ((fs.take (i + 1)).filterMap id) = true := by
        rw [hs, immS_append, him]
        show (true && (imm e && true)) = true
        rw [hi2]
        rfl
      refine ⟨e7, acc ++ [y], upd_same, by rw [List.length_append]; exact Nat.succ_le_succ hlen, him2, ?_⟩
      refine RpS.keep (tex_lst ha) him2 ?_
      rw [hs]
      exact (hr.mono e6).append (rs_cons ry rs_nil)
  · rintro H' ⟨e2, acc, hacc, _, _, hr⟩
    rw [← hfs, List.take_length] at hr
    exact q Dl acc H' (e1.free hD) (e1.trans e2) hacc hr
theorem en_lc {wi : TI} {g : TG} {tt : TT} {te : TE} {vs : List Nat} (f : D → Option D) (h : WD wi δ ds) (hl : ds.length ≤ 100000) (ht : ∀ d ∈ ds, Turn1 g tt te vs δ d (f d)) : EvN (tLc wi g tt te vs) δ (ds.filterMap f) := by
  have e : ds.filterMap f = (ds.map f).filterMap id := by
    rw [List.filterMap_map]
    rfl
  rw [e]
  refine en_lcI (ds.map f) (by rw [List.length_map]) h hl fun i d o hd ho => ?_
  rw [List.getElem?_map, hd] at ho
  have ho := Option.some.inj ho
  subst ho
  exact ht d (List.mem_of_getElem? hd)
/-- by items of any kind: kept where p, told as e -/
theorem filterMap_if {α : Type} {p : α → Bool} {e : α → D} : ∀ {l : List α}, (l.map fun a => if p a then some (e a) else none).filterMap id = (l.filter p).map e
  | [] => rfl
  | a :: l => by
    rw [List.map_cons, List.filterMap_cons, List.filter_cons]
    cases h : p a with
    | true => simp [filterMap_if (l := l)]
    | false => simp [filterMap_if (l := l)]
theorem en_lcM {α : Type} {wi : TI} {g : TG} {tt : TT} {te : TE} {vs : List Nat} {F : α → D} {l : List α} (p : α → Bool) (e : α → D) (h : WD wi δ (l.map F)) (hl : l.length ≤ 100000)
    (ht : ∀ a ∈ l, ∃ is δ2, (∀ i ∈ is, i ∈ vs) ∧ GD g is (F a) (wipeD δ vs) δ2 ∧ EtD tt δ2 (p a) ∧ (p a = true → imm (e a) = true ∧ EvD te δ2 (e a))) : EvN (tLc wi g tt te vs) δ ((l.filter p).map e) := by
  rw [← filterMap_if]
  refine en_lcI _ (by rw [List.length_map, List.length_map]) h (by rw [List.length_map]; exact hl) fun i d o hd ho => ?_
  rw [List.getElem?_map] at hd ho
  cases ha : l[i]? with
  | none =>
    rw [ha] at hd
    cases hd
  | some a =>
    rw [ha] at hd ho
    have hd := Option.some.inj hd
    have ho : (if p a = true then some (e a) else none) = o := Option.some.inj ho
    subst hd ho
    obtain ⟨is, δ2, h1, h2, h3, h4⟩ := ht a (List.mem_of_getElem? ha)
    refine ⟨is, δ2, h1, h2, ?_, ?_⟩
    · cases hp : p a with
      | true =>
        rw [hp] at h3
        rw [if_pos rfl]
        exact h3
      | false =>
        rw [hp] at h3
        rw [if_neg Bool.false_ne_true]
        exact h3
    · intro e' he
      cases hp : p a with
      | true =>
        rw [if_pos hp] at he
        have he := Option.some.inj he
        subst he
        exact h4 hp
      | false =>
        rw [if_neg (by rw [hp]; exact Bool.false_ne_true)] at he
        cases he
theorem ed_lc {wi : TI} {g : TG} {tt : TT} {te : TE} {vs : List Nat} (f : D → Option D) (h : WD wi δ ds) (hl : ds.length ≤ 100000) (ht : ∀ d ∈ ds, Turn1 g tt te vs δ d (f d)) : EvD (tLc wi g tt te vs) δ (.lst (ds.filterMap f)) := (en_lc f h hl ht).ed
/-! statements -/
/-- what a statement comes to: Nx of the data behind it, or Rt of what is handed back -/
def SD (ts : TS) (δ : DE) (Nx : DE → Prop) (Rt : D → Prop) : Prop := ∀ σ H, Env σ H δ → ∀ En : Ends, (∀ δ' σ' H', Nx δ' → Ex H H' → Env σ' H' δ' → En.nx σ' H') → (∀ d v H', Rt d → Ex H H' → Rp H' d v → En.rt v H') → ts En σ H
variable {ts us : TS} {Nx Nx' : DE → Prop} {Rt : D → Prop}
theorem sd_seq (h : SD ts δ Nx' Rt) (h2 : ∀ δ', Nx' δ' → SD us δ' Nx Rt) : SD (tSeq ts us) δ Nx Rt := fun σ H E En hn hr =>
  h σ H E { En with nx := us En } (fun δ' σ' H' n e E' => h2 δ' n σ' H' E' En (fun δ2 σ2 H2 n2 e2 E2 => hn δ2 σ2 H2 n2 (e.trans e2) E2) fun d v H2 r e2 rp => hr d v H2 r (e.trans e2) rp) hr
/-- the same where one thing follows -/
theorem sd_one (h : SD ts δ (fun δ' => δ' = δ1) Rt) (h2 : SD us δ1 Nx Rt) : SD (tSeq ts us) δ Nx Rt := sd_seq h fun _ e => e ▸ h2
theorem sd_next (h : Nx δ) : SD tNext δ Nx Rt := fun σ H E En hn hr => hn δ σ H h (Same.refl H) E
theorem sd_asg {g : TG} {is : List Nat} (h : EvD te δ d) (hg : GD g is d δ δ1) (hx : Nx δ1) : SD (tAsg te g) δ Nx Rt := fun σ H E En hn hr =>
  h σ H E _ fun v H1 e1 r1 => hg σ H1 v (E.mono e1) r1 _ fun σ' E' _ => hn δ1 σ' H1 hx e1 E'
theorem sd_set (h : EvD te δ d) (hx : Nx (δ.set i (some d))) : SD (tAsg te (gName i)) δ Nx Rt := sd_asg h gd_name hx
theorem sd_if (h : EtD t δ b) (h1 : b = true → SD ts δ Nx Rt) (h2 : b = false → SD us δ Nx Rt) : SD (tIfS t ts us) δ Nx Rt := fun σ H E En hn hr => h σ H E _ fun H1 e1 => by
  cases b with
  | true =>
    rw [if_pos rfl]
    exact h1 rfl σ H1 (E.mono e1) En (fun δ2 σ2 H2 n2 e2 E2 => hn δ2 σ2 H2 n2 (e1.trans e2) E2) fun d v H2 r e2 rp => hr d v H2 r (e1.trans e2) rp
  | false =>
    rw [if_neg Bool.false_ne_true]
    exact h2 rfl σ H1 (E.mono e1) En (fun δ2 σ2 H2 n2 e2 E2 => hn δ2 σ2 H2 n2 (e1.trans e2) E2) fun d v H2 r e2 rp => hr d v H2 r (e1.trans e2) rp
theorem sd_ret (h : EvD te δ d) (hr : Rt d) : SD (tRet te) δ Nx Rt := fun σ H E En hn hrt => h σ H E _ fun v H1 e1 r1 => hrt d v H1 hr e1 r1
/-- known = [..]; if c: known.append(e) -/
theorem sd_lcApp {i : Nat} {tc : TT} {te2 : TE} {es : List D} {e : D} (hi : i < δ.length) (hn : EvN te δ ds) (him : immS ds = true) (hc : EtD tc (δ.set i (some (.lst ds))) b) (he : b = true → EvD te2 (δ.set i (some (.lst ds))) e ∧ imm e = true) (hl : ds.length < 1000)
    (hes : es = if b then ds ++ [e] else ds) (k : SD us (δ.set i (some (.lst es))) Nx Rt) : SD (tSeq (tAsg te (gName i)) (tSeq (tIfS tc (tDrop (tBM K "list" rAppend (tVar i) (tCons te2 tNil))) tNext) us)) δ Nx Rt := fun σ H E En hn' hr => by
  refine hn σ H E _ fun p vs H1 hp e1 h1 r1 => ?_
  have E1 : Env (σ.set i (some (.ref p))) H1 (δ.set i (some (.lst ds))) := (E.mono e1).set i (rp_lst h1 r1)
  refine hc _ H1 E1 _ fun H2 e2 => ?_
  have fin : ∀ (H3 : Hp) ws, Ex H H3 → H3 p = some (.lst ws) → RpS H3 es ws → us En (σ.set i (some (.ref p))) H3 := fun H3 ws e3 h3 r3 =>
    k _ H3 ((E.mono e3).set i (rp_lst h3 r3)) En (fun δ' σ' H' n e4 => hn' δ' σ' H' n (e3.trans e4)) fun d v H' n e4 => hr d v H' n (e3.trans e4)
  cases b with
  | false =>
    rw [if_neg Bool.false_ne_true]
    rw [if_neg Bool.false_ne_true] at hes
    subst hes
    exact fin H2 vs (e1.trans e2) (e2 _ _ h1) (r1.mono e2)
  | true =>
    rw [if_pos rfl]
    rw [if_pos rfl] at hes
    subst hes
    obtain ⟨he, hie⟩ := he rfl
    refine ⟨.ref p, ?_, .inl ⟨rfl, vs, .inl (.inl (e2 _ _ h1))⟩, ?_⟩
    · rw [List.getElem?_set_self (by rw [E.len]; exact hi)]
    · refine he _ H2 (E1.mono e2) _ fun v H3 e3 r3 => ?_
      have h3 : H3 p = some (.lst vs) := e3 _ _ (e2 _ _ h1)
      refine ⟨p, vs, v, rfl, rfl, h3, ?_, ?_⟩
      · rw [r1.length]
        exact small1000 (Nat.le_of_lt hl)
      · refine fin _ (vs ++ [v]) (ex_mut ((e1.trans e2).trans e3) hp) upd_same ?_
        refine RpS.keep (tex_lst h3) ?_ ((r1.mono (e2.trans e3)).append (rs_cons r3 rs_nil))
        rw [immS_append, him]
        show (true && (imm e && true)) = true
        rw [hie]
        rfl
/-- a for: what holds of the data ahead of each turn -/
theorem sd_for {wi : TI} {g : TG} (I : Nat → DE → Prop) (h : WD wi δ ds) (h0 : I 0 δ) (hs : ∀ i d δ', ds[i]? = some d → I i δ' → ∃ is δ2, GD g is d δ' δ2 ∧ SD ts δ2 (I (i + 1)) Rt) (hd : ∀ δ', I ds.length δ' → Nx δ') : SD (tFor wi g ts) δ Nx Rt := fun σ H E En hn hr => by
  refine h σ H E _ fun J H1 G Y e1 w hG hY => ?_
  refine for_it w (fun i σ' H' => Ex H1 H' ∧ ∃ δ', I i δ' ∧ Env σ' H' δ') ⟨Same.refl _, δ, h0, E.mono e1⟩ (fun i σ' H' _ p => hG H' p.1) ?_ ?_
  · rintro i x σ' H' H'' hi ⟨e2, δ', hI, E'⟩ hy
    obtain ⟨e3, d, hd', rd⟩ := hY i H' x H'' e2 hi hy
    obtain ⟨is, δ2, hg, hb⟩ := hs i d δ' hd' hI
    refine hg σ' H'' x (E'.mono e3) rd _ fun σ2 E2 _ => ?_
    exact hb σ2 H'' E2 _ (fun δ3 σ3 H3 n3 e4 E3 => ⟨(e2.trans e3).trans e4, δ3, n3, E3⟩) fun d v H3 r e4 rp => hr d v H3 r (((e1.trans e2).trans e3).trans e4) rp
  · rintro σ' H' ⟨e2, δ', hI, E'⟩
    exact hn δ' σ' H' (hd δ' hI) (e1.trans e2) E'
/-- a def's body: its promise from what its statements come to -/
theorem body_R {R : List D → D → Prop} {N : List Str} {vs : List V} {H : Hp} {Q : VK} {E : XK} (h : spR R vs H Q E) (hb : ∀ ds d, R ds d → SD ts (startD N.length ds) (fun _ => d = .non) (fun d' => d' = d)) :
    ts { nx := fun _ H' => Q .non H', rt := Q } (L2.start N vs) H := by
  obtain ⟨ds, d, r, hR, q⟩ := h
  refine hb ds d hR _ H (env_start r) _ (fun δ' σ' H' n e _ => ?_) fun d' v H' e1 e rp => ?_
  · subst n
    exact q .non H' e rp_non
  · subst e1
    exact q v H' e rp
end
end Oa
/-! Rules of our own, and the layer's rules with the written part by name. -/
namespace Oa
open PySem L2 PyProof.Rows
section
variable {X : Cx} {K : PySem.W.Frag}
theorem k_ixT (h : X.K = K) : IxR X (rIxT K) := h ▸ ix_tup
theorem k_ixL (h : X.K = K) : IxR X (rIxL K) := h ▸ ix_list
theorem k_in (h : X.K = K) : OpR X (compareOp .In) (rIn K false) := h ▸ op_in_seq
theorem k_slT (h : X.K = K) : SlR X (rSlA K) := h ▸ sl_tupA
theorem k_slL (h : X.K = K) : SlR X (rSlL K) := h ▸ sl_list
theorem k_catT (h : X.K = K) : OpR X (binaryOp .Add) (rCatA K) := h ▸ op_catA
theorem k_piT {tg l : Expr} {tl : TE} (h : X.K = K) (hl : PE X l tl) : PI X tg l (iTup K tl) := h ▸ pi_tup hl
theorem k_piL {tg l : Expr} {tl : TE} (h : X.K = K) (hl : PE X l tl) : PI X tg l (iList K tl) := h ▸ pi_list hl
theorem k_len (h : X.K = K) : CallR X (.builtin "len") (fun xs H Q => ∃ p ys, xs = [.ref p] ∧ (SqL K H p ys ∨ SqT K H p ys) ∧ Q (.int ys.length) H) := h ▸ call_len_seq
theorem k_all (h : X.K = K) (hc : X.calm = true) : CallR X (.builtin "all") (rAll K) := h ▸ cr_all hc
theorem k_sum (h : X.K = K) (hc : X.calm = true) : CallR X (.builtin "sum") (rSum K) := h ▸ cr_sum hc
theorem k_tuple (h : X.K = K) : CallR X (.type "tuple") (fun xs H Q => ∃ p ys, xs = [.ref p] ∧ ((SqL K H p ys ∧ ∀ l, H l = none → Q (.ref l) (upd H l (.tup ys))) ∨ (SqT K H p ys ∧ Q (.ref p) H))) := h ▸ call_tuple_of
theorem k_list (h : X.K = K) : CallR X (.type "list") (fun xs H Q => ∃ p ys, xs = [.ref p] ∧ (SqL K H p ys ∨ SqT K H p ys) ∧ ∀ l, H l = none → Q (.ref l) (upd H l (.lst ys))) := h ▸ call_list_of
theorem k_isi (h : X.K = K) : CallR X (.builtin "isinstance") (rIsi K) := h ▸ call_isi
theorem k_isiT (h : X.K = K) : CallR X (.builtin "isinstance") (rIsiT K) := h ▸ call_isiT
theorem k_sortedRev (h : X.K = K) {b : Bool} : CallRK X (.builtin "sorted") [Str.ofString "reverse"] (rSortedKw K b [.bl b]) := h ▸ cr_sortedRev
theorem pk_one {e : Expr} {te : TE} {nm : Option Str} {kpos : Pos} (h : PE X e te) : PK X [⟨nm, e, kpos⟩] (tCons te tNil) := pk_cons h pk_nil
theorem k_pgT {es : List Expr} {k : Nat} {t : TGs} {n : Nat} {pos : Pos} (h : X.K = K) (hc : X.calm = true) (hs : PGs X es t) (hn : (assignEach es X.env).length = n := by rfl) (hst : (assignEach es X.env).findIdx? (·.1) = none := by rfl) : PG X (.Tuple es k pos) (gTup K n t) := h ▸ pg_tup hc hs hn hst
theorem k_pgL {es : List Expr} {k : Nat} {t : TGs} {n : Nat} {pos : Pos} (h : X.K = K) (hc : X.calm = true) (hs : PGs X es t) (hn : (assignEach es X.env).length = n := by rfl) (hst : (assignEach es X.env).findIdx? (·.1) = none := by rfl) : PG X (.Tuple es k pos) (gUnl K n t) := h ▸ pg_unl hc hs hn hst
theorem gd_unl {δ δ' : DE} {ds : List D} {gs : TGs} {is : List Nat} {n : Nat} (h : GDs gs is ds δ δ') (hn : ds.length = n) : GD (gUnl K n gs) is (.lst ds) δ δ' := fun σ H v E r Q q => by
  obtain ⟨a, vs, e1, e2, r2⟩ := of_lst r
  exact ⟨a, vs, e1, SqL.of e2, by rw [r2.length]; exact hn, h σ H vs E r2 Q q⟩
theorem k_pienum {e : Expr} {ta : TA} {p pos tpos : Pos} {elts : List Expr} {kk : Nat} (h : X.K = K) (hg : Gl X "enumerate") (hm : X.mg "enumerate" = none) (ha : PA X [e] ta) (hs : starEach [e] X.env = [(false, eval e X.env)] := by rfl) :
    PI X (.Tuple elts kk tpos) (.Call (.Name "enumerate" p) [e] [] pos) (iEnum K ta) := h ▸ pi_enum hg hm ha hs
theorem k_pizip {e e2 : Expr} {ta : TA} {p pos tpos : Pos} {elts : List Expr} {kk : Nat} (h : X.K = K) (hg : Gl X "zip") (hm : X.mg "zip" = none) (ha : PA X [e, e2] ta)
    (hs : starEach [e, e2] X.env = (false, eval e X.env) :: starEach [e2] X.env := by rfl) (hpl : (backTo pos (starEach [e2] X.env)).any (·.1) = false := by rfl) :
    PI X (.Tuple elts kk tpos) (.Call (.Name "zip" p) [e, e2] [] pos) (iZip K ta) := h ▸ pi_zip hg hm ha hs hpl
theorem k_pizipT {e e2 : Expr} {ta : TA} {p pos tpos : Pos} {elts : List Expr} {kk : Nat} (h : X.K = K) (hg : Gl X "zip") (hm : X.mg "zip" = none) (ha : PA X [e, e2] ta)
    (hs : starEach [e, e2] X.env = (false, eval e X.env) :: starEach [e2] X.env := by rfl) (hpl : (backTo pos (starEach [e2] X.env)).any (·.1) = false := by rfl) :
    PI X (.Tuple elts kk tpos) (.Call (.Name "zip" p) [e, e2] [] pos) (RZ.iZipA K ta) := h ▸ RZ.pi_zipA hg hm ha hs hpl
end
/-! ### sorted of tuples of ints and texts -/
abbrev Item := Sum Int Str
def itemV : Item → V
  | .inl i => .int i
  | .inr s => .str s
def itemD : Item → D
  | .inl i => .int i
  | .inr s => .str s
def tupI (l : List Item) : D := .tup (l.map itemD)
def keyI : Item → Int ⊕ List Nat
  | .inl i => .inl i
  | .inr s => .inr s.cps.toList
def keyL (l : List Item) : List (Int ⊕ List Nat) := l.map keyI
theorem keyI_inj : ∀ {a b : Item}, keyI a = keyI b → a = b
  | .inl i, .inl j, h => by
    cases h
    rfl
  | .inr s, .inr t, h => by
    have e : s.cps.toList = t.cps.toList := Sum.inr.inj h
    cases s
    cases t
    have e2 := Array.ext' e
    cases e2
    rfl
  | .inl i, .inr t, h => nomatch h
  | .inr s, .inl j, h => nomatch h
theorem keyL_inj : ∀ {a b : List Item}, keyL a = keyL b → a = b
  | [], [], _ => rfl
  | [], _ :: _, h => nomatch h
  | _ :: _, [], h => nomatch h
  | x :: a, y :: b, h => by
    unfold keyL at h
    rw [List.map_cons, List.map_cons] at h
    injection h with h1 h2
    rw [keyI_inj h1, keyL_inj h2]
/-- the order in which tuples stand -/
abbrev TO_ : KeyOrd := listOrd itemOrd
def leI (a b : List Item) : Bool := !(TO_.blt (keyL b) (keyL a))
theorem leI_iff {a b : List Item} : leI a b = true ↔ TO_.kle (keyL a) (keyL b) := by
  unfold leI KeyOrd.kle
  cases TO_.blt (keyL b) (keyL a) <;> simp
theorem leI_trans (a b c : List Item) (h1 : leI a b = true) (h2 : leI b c = true) : leI a c = true := leI_iff.mpr (KeyOrd.kle_trans (leI_iff.mp h1) (leI_iff.mp h2))
theorem leI_total (a b : List Item) : (leI a b || leI b a) = true := by
  cases h : leI a b with
  | true => rfl
  | false =>
    show leI b a = true
    refine leI_iff.mpr (KeyOrd.klt_asymm ?_)
    unfold leI at h
    unfold KeyOrd.klt
    simpa using h
theorem leI_anti {a b : List Item} (h1 : leI a b = true) (h2 : leI b a = true) : a = b := keyL_inj (KeyOrd.kle_antisymm (leI_iff.mp h1) (leI_iff.mp h2))
def sortI (ls : List (List Item)) : List (List Item) := ls.mergeSort leI
theorem sortI_perm (ls : List (List Item)) : (sortI ls).Perm ls := List.mergeSort_perm ls _
theorem sortI_eq {ls ms : List (List Item)} (hp : ms.Perm ls) (ho : ms.Pairwise fun a b => leI a b = true) : ms = sortI ls :=
  (hp.trans (sortI_perm ls).symm).eq_of_pairwise (fun a b _ _ h1 h2 => leI_anti h1 h2) ho (List.pairwise_mergeSort leI_trans leI_total ls)
def vItem : V → Item
  | .int i => .inl i
  | .str s => .inr s
  | _ => .inl 0
theorem vItem_back (l : List Item) : (l.map itemV).map vItem = l := by
  rw [List.map_map]
  have e : (vItem ∘ itemV) = id := by
    funext x
    cases x <;> rfl
  rw [e, List.map_id]
/-- the items of a tuple that stands -/
def lV (H : Hp) (v : V) : List Item := match v with
  | .ref t => match H t with
    | some (.tup ys) => ys.map vItem
    | _ => []
  | _ => []
theorem lV_tup {H : Hp} {t : Addr} {ys : List V} (h : H t = some (.tup ys)) : lV H (.ref t) = ys.map vItem := by
  show (match H t with
    | some (.tup ys) => ys.map vItem
    | _ => []) = ys.map vItem
  rw [h]
def isTxt : Item → Bool
  | .inl _ => false
  | .inr _ => true
def ShapeOk (shape : Nat → Bool) : Nat → List Item → Prop
  | _, [] => True
  | i, x :: r => shape i = isTxt x ∧ ShapeOk shape (i + 1) r
def GoodT (H : Hp) (shape : Nat → Bool) (x : V) : Prop := ∃ t l, x = .ref t ∧ H t = some (.tup (l.map itemV)) ∧ l ≠ [] ∧ ShapeOk shape 0 l
theorem items_ok {shape : Nat → Bool} : ∀ {l : List Item} {its : List Value} {i : Nat}, Vals (l.map itemV) its → ShapeOk shape i l → tupItems shape i its = some (keyL l)
  | [], _, _, .nil, _ => rfl
  | x :: l, _, i, .cons (b := u) (l₂ := us) r rr, h => by
    obtain ⟨h1, h2⟩ := h
    have ih := items_ok rr h2
    cases x with
    | inl n =>
      obtain ⟨t, rfl⟩ := (show ∃ t, u = Value.int n t from r)
      show (if shape i = true then none else (tupItems shape (i + 1) us).map (Sum.inl n :: ·)) = some (keyL (.inl n :: l))
      rw [h1, if_neg (show ¬ isTxt (.inl n) = true from Bool.false_ne_true), ih]
      rfl
    | inr s =>
      obtain ⟨t, rfl⟩ := (show ∃ t, u = Value.str s t from r)
      show (if shape i = true then (tupItems shape (i + 1) us).map (Sum.inr s.cps.toList :: ·) else none) = some (keyL (.inr s :: l))
      rw [h1, if_pos (show isTxt (.inr s) = true from rfl), ih]
      rfl
def rSortU' (K : PySem.W.Frag) : List V → Hp → VK → Prop := fun vs H Q => ∃ (a : Addr) (xs : List V) (shape : Nat → Bool), vs = [.ref a] ∧ SqL K H a xs ∧ (∀ x ∈ xs, GoodT H shape x) ∧
  ∀ ys p, ys.Perm xs → (ys.map (lV H)).Pairwise (fun k l => leI k l = true) → H p = none → Q (.ref p) (upd H p (.lst ys))
theorem tups_of {h : Heap} {shape : Nat → Bool} : ∀ {vs : List Value}, (∀ v ∈ vs, ∃ f, TupOf h shape v f) → ∃ fs, TupsOf h shape vs fs
  | [], _ => ⟨[], .nil⟩
  | v :: vs, hv => by
    obtain ⟨f, hf⟩ := hv v List.mem_cons_self
    obtain ⟨fs, hfs⟩ := tups_of fun v' m => hv v' (List.mem_cons_of_mem _ m)
    exact ⟨f :: fs, .cons hf hfs⟩
section
variable {X : Cx} {K : PySem.W.Frag}
theorem good_value {pins : List (Addr × Obj)} {σ : L2.St} {H : Hp} {s : Shared} {shape : Nat → Bool} (I : Inv X pins σ H s) {x : V} {u : Value} (r : RelV x u) (g : GoodT H shape x) :
    (∃ f, TupOf s.heap shape u f) ∧ G.tupKeyC s.heap shape u = some (keyL (lV H x)) := by
  obtain ⟨t, l, rfl, ht, hne, hsh⟩ := g
  cases r
  obtain ⟨_, its, rv, o, ho, hc, n, hd⟩ := I.hok _ _ ht
  have hk := items_ok rv hsh
  have e : lV H (.ref t) = l := by
    rw [lV_tup ht]
    exact vItem_back l
  have hkey : G.tupKeyC s.heap shape (Value.ref t) = some (keyL (lV H (.ref t))) := by
    unfold G.tupKeyC
    have h1 : G.isTupObj s.heap (Value.ref t) = true := by
      unfold G.isTupObj
      simp only [ho, hc]
      rfl
    rw [if_pos h1]
    unfold tupKey
    simp only [ho, hd]
    rw [e]
    exact hk
  refine ⟨?_, hkey⟩
  cases l with
  | nil => exact absurd rfl hne
  | cons x l =>
    cases rv with
    | cons rx rr =>
      rename_i u us
      refine ⟨u, t, o, _, n, rfl, ho, hc, hd, rfl, fun h0 => ?_, fun h0 => ?_⟩
      · cases x with
        | inl k =>
          obtain ⟨tk, rfl⟩ := (show ∃ t, u = Value.int k t from rx)
          exact ⟨k, tk, rfl⟩
        | inr z =>
          have := hsh.1
          rw [h0] at this
          cases this
      · cases x with
        | inr z =>
          obtain ⟨tk, rfl⟩ := (show ∃ t, u = Value.str z t from rx)
          exact ⟨z, tk, rfl⟩
        | inl k =>
          have := hsh.1
          rw [h0] at this
          cases this
theorem cr_sortedU (hK : X.K = K) : CallR X (.builtin "sorted") (rSortU' K) := by
  subst hK
  intro pins s σ H vs us Q I r h
  obtain ⟨a, xs, shape, rfl, hs, hx, q⟩ := h
  obtain ⟨its, rv, hl, hz⟩ := I.list hs
  obtain rfl := Vals.ref1 r
  obtain ⟨e1, e2⟩ := refs_back rv fun x m => by
    obtain ⟨t, _, e, _⟩ := hx x m
    exact ⟨t, e⟩
  have good : ∀ v ∈ its, (∃ f, TupOf s.heap shape v f) ∧ G.tupKeyC s.heap shape v = some (keyL (lV H (backV v))) := fun v hv => by
    obtain ⟨t, rfl⟩ := e2 v hv
    have hm : V.ref t ∈ xs := by rw [e1]; exact List.mem_map.mpr ⟨_, hv, rfl⟩
    exact good_value I (x := V.ref t) rfl (hx _ hm)
  obtain ⟨fs, hfs⟩ := tups_of fun v hv => (good v hv).1
  refine G.sorted_tups (shape := shape) hl.isList hfs (fun v hv => ⟨_, (good v hv).2⟩) (by rw [← rv.length]; exact hz) fun st' h1 h2 _ => ?_
  have hp : ((arrOf st').map (·.2)).toList.Perm its := by
    have h3 := (h1.toList.map (·.2))
    rw [Array.toList_map]
    refine h3.trans ?_
    rw [pairsOf_toList]
    have : (its.zip its).map (·.2) = its := by
      rw [List.map_snd_zip (Nat.le_refl _)]
    rw [this]
  have hsame : ∀ p ∈ (arrOf st').toList, p.1 = p.2 ∧ p.1 ∈ its := fun p hp' => by
    have h4 : p ∈ (pairsOf its).toList := h1.toList.mem_iff.mp hp'
    rw [pairsOf_toList] at h4
    exact mem_zip_self h4
  obtain ⟨ep, he⟩ := sortedAll_at s.heap its ((arrOf st').map (·.2))
  have h3 : ∀ u ∈ ((arrOf st').map (·.2)).toList, ∃ a, u = Value.ref a := fun u hu => e2 u (hp.mem_iff.mp hu)
  refine ⟨.ref _, upd H (s.heap.objs.size + 1) (.lst (((arrOf st').map (·.2)).toList.map backV)), I.laid (t' := s.toks) (fun _ _ => sortedAll_old) (Nat.le_succ _) ⟨?_, _, ep, vals_back h3, by rw [Array.toArray_toList]; exact he⟩, rfl, q _ _ ?_ ?_ (I.hok.fresh (Nat.le_succ _))⟩
  · rw [List.length_map, hp.length_eq, ← rv.length]
    exact hz
  · rw [e1]
    exact hp.map backV
  · rw [Array.toList_map, List.map_map, List.map_map, List.pairwise_iff_getElem]
    intro i j hi hj hij
    rw [List.length_map] at hi hj
    have hsz : (arrOf st').size = (pairsOf its).size := h1.size_eq
    have hj' : j < (pairsOf its).size := by
      rw [← hsz, ← Array.length_toList]
      exact hj
    have hle := h2 i j (Nat.le_of_lt hij) hj'
    rw [List.getElem_map, List.getElem_map]
    have kk : ∀ (k : Nat) (hk : k < (arrOf st').toList.length), KK (G.tupKindC s.heap shape) (arrOf st') k = keyL (lV H (backV ((arrOf st').toList[k]).2)) := fun k hk => by
      have hk2 : k < (arrOf st').size := by
        rw [← Array.length_toList]
        exact hk
      have hmem := hsame _ (List.getElem_mem hk)
      unfold KK
      rw [Array.getElem?_eq_getElem hk2]
      show (G.tupKeyC s.heap shape ((arrOf st')[k]).1).getD _ = _
      have ex : (arrOf st')[k] = (arrOf st').toList[k] := by rw [Array.getElem_toList]
      rw [ex, (good _ hmem.2).2, ← hmem.1]
      rfl
    rw [kk i hi, kk j hj] at hle
    exact leI_iff.mpr hle
end
/-- sorted of tuples, over data -/
theorem rp_tupI {H : Hp} {l : List Item} {v : V} (h : Rp H (tupI l) v) : ∃ t, v = .ref t ∧ H t = some (.tup (l.map itemV)) := by
  obtain ⟨t, vs, e1, e2, r⟩ := of_tup h
  refine ⟨t, e1, ?_⟩
  have : ∀ {l : List Item} {vs : List V}, RpS H (l.map itemD) vs → vs = l.map itemV := by
    intro l
    induction l with
    | nil => intro vs r; exact of_nil r
    | cons x l ih =>
      intro vs r
      obtain ⟨v, r0, rfl, h1, h2⟩ := of_cons r
      rw [ih h2, List.map_cons]
      congr 1
      cases x with
      | inl i => exact of_int h1
      | inr s => exact of_str h1
  rw [e2, this r]
theorem tupI_rp {H : Hp} {l : List Item} {t : Addr} (h : H t = some (.tup (l.map itemV))) : Rp H (tupI l) (.ref t) := by
  refine rp_tup h ?_
  clear h
  induction l with
  | nil => exact rs_nil
  | cons x l ih =>
    refine rs_cons ?_ ih
    cases x with
    | inl i => exact rp_int
    | inr s => exact rp_str
theorem lV_of {H : Hp} {l : List Item} {v : V} (h : Rp H (tupI l) v) : lV H v = l := by
  obtain ⟨t, rfl, e⟩ := rp_tupI h
  rw [lV_tup e]
  exact vItem_back l
theorem rc_sortedU {K : PySem.W.Frag} {ls : List (List Item)} {shape : Nat → Bool} (hs : ∀ l ∈ ls, l ≠ [] ∧ ShapeOk shape 0 l) : RC (rSortU' K) [.lst (ls.map tupI)] (.lst ((sortI ls).map tupI)) := fun H vs r Q q => by
  obtain ⟨v, r0, rfl, h1, h2⟩ := of_cons r
  rw [of_nil h2]
  obtain ⟨a, ws, rfl, e2, r2⟩ := of_lst h1
  have hat : ∀ x ∈ ws, ∃ l ∈ ls, Rp H (tupI l) x := fun x hx => by
    obtain ⟨i, hi⟩ := List.mem_iff_getElem?.mp hx
    obtain ⟨d, hd, rd⟩ := r2.at hi
    rw [List.getElem?_map] at hd
    cases e : ls[i]? with
    | none =>
      rw [e] at hd
      cases hd
    | some l =>
      rw [e] at hd
      have : tupI l = d := Option.some.inj hd
      exact ⟨l, List.mem_of_getElem? e, by rw [this]; exact rd⟩
  have hmap : ws.map (lV H) = ls := by
    apply List.ext_getElem?
    intro i
    rw [List.getElem?_map]
    cases e : ws[i]? with
    | none =>
      have h3 := List.getElem?_eq_none_iff.mp e
      rw [r2.length, List.length_map] at h3
      exact (List.getElem?_eq_none_iff.mpr h3).symm
    | some x =>
      obtain ⟨d, hd, rd⟩ := r2.at e
      rw [List.getElem?_map] at hd
      cases e3 : ls[i]? with
      | none =>
        rw [e3] at hd
        cases hd
      | some l =>
        rw [e3] at hd
        have : tupI l = d := Option.some.inj hd
        rw [← this] at rd
        show some (lV H x) = some l
        rw [lV_of rd]
  refine ⟨a, ws, shape, rfl, SqL.of e2, fun x hx => ?_, fun ys p hp ho hn => q _ _ (ex_new hn) (rp_lst upd_same ?_)⟩
  · obtain ⟨l, hl, rl⟩ := hat x hx
    obtain ⟨t, e3, e4⟩ := rp_tupI rl
    exact ⟨t, l, e3, e4, (hs l hl).1, (hs l hl).2⟩
  · have hys : ys.map (lV H) = sortI ls := sortI_eq (by rw [← hmap]; exact hp.map _) ho
    rw [← hys]
    have hy : ∀ y ∈ ys, Rp H (tupI (lV H y)) y := fun y hy => by
      obtain ⟨l, _, rl⟩ := hat y (hp.mem_iff.mp hy)
      rw [lV_of rl]
      exact rl
    refine RpS.mono (ex_new hn) ?_
    clear hys hp ho
    induction ys with
    | nil => exact rs_nil
    | cons y ys ih => exact rs_cons (hy y List.mem_cons_self) (ih fun z hz => hy z (List.mem_cons_of_mem _ hz))
end Oa
/-! enumerate over a tuple. -/
namespace Oa
open PySem L2 PyProof.Rows
theorem meets_enum1 {v : Value} {o : Obj} {H : Heap → Prop} (B : Begins v o H) :
    Meets (Builtin.«enumerate.__new__» ⟨[.type "enumerate", v], []⟩) (fun _ R s => H s.heap ∧
      R (.ok (.ret (.ref (s.heap.push o).objs.size))) { s with heap := (s.heap.push o).push { cls := .type "enumerate", data := .fields #[.none, .bool false, .ref s.heap.objs.size, rawInt 0, .none, .none] } }) :=
  .of_wp fun prog w A R s h => by
    obtain ⟨hp, g, d, tk, os⟩ := s; obtain ⟨h1, h⟩ := h
    have hsub := sub_enumerate
    have q1 : ∀ {A' : Around} {E : Value → Shared → Prop} {Q : Value → Shared → Prop}, Q (.ref hp.objs.size) ⟨hp.push o, g, d, tk, os⟩ → wpAny (model prog w) A' (pyIter v) Q E ⟨hp, g, d, tk, os⟩ :=
      fun q => B.iter prog w _ _ ⟨hp, g, d, tk, os⟩ _ h1 q
    wp_walk using q1
    refine wpAny_stack_any fun st => wpAny_pure ?_
    split
    · rename_i c _ _ _ _ _
      cases (c == Value.type "enumerate")
      · wp_walk using q1
        exact ⟨_, rfl, h⟩
      · wp_walk using q1
        exact ⟨_, rfl, h⟩
    · wp_walk using q1
      exact ⟨_, rfl, h⟩
section
variable {prog : Program} {w : World} {A : Around} {E : Value → Shared → Prop} {s : Shared}
theorem enum_begins1 {v : Value} {o : Obj} {H : Heap → Prop} {Q : Value → Shared → Prop} (B : Begins v o H) (h1 : H s.heap)
    (h : ∀ h', IsEnum h' (s.heap.objs.size + 1) s.heap.objs.size 0 .none → h'.get? s.heap.objs.size = some o → h'.objs.size = s.heap.objs.size + 2 →
      (∀ b o, s.heap.get? b = some o → h'.get? b = some o) → Q (.ref (s.heap.objs.size + 1)) { s with heap := h' }) :
    wpAny (model prog w) A (call (.type "enumerate") [v]) Q E s := by
  refine callType_new F.called_enumerate (by decide) (F.typeCall_enumerate_1 _) (F.newCall_enumerate_1 _) (fun obj => F.args_object_init_2 obj _) F.entry_enumerate_new
    (meets_enum1 B) ⟨h1, ?_⟩
  have hz : (s.heap.push o).objs.size = s.heap.objs.size + 1 := Heap.size_push ..
  show _ ∧ _
  rw [hz]
  have he : IsEnum ((s.heap.push o).push { cls := .type "enumerate", data := .fields #[.none, .bool false, .ref s.heap.objs.size, rawInt 0, .none, .none] }) (s.heap.objs.size + 1) s.heap.objs.size 0 .none := by
    have := Heap.get?_push_size (s.heap.push o) (o := { cls := .type "enumerate", data := .fields #[.none, .bool false, .ref s.heap.objs.size, rawInt 0, .none, .none] }) rfl
    rw [hz] at this; exact this
  refine ⟨⟨_, he, rfl⟩, h _ he (Heap.get?_push_of_some _ (Heap.get?_push_size _ B.free)) (by rw [Heap.size_push, hz]) fun b o x => Heap.get?_push_of_some _ (Heap.get?_push_of_some _ x)⟩
end
/-- the tuple at a, each item in a new pair -/
def IteT (K : PySem.W.Frag) (a : Addr) : It :=
  ⟨fun i H => ∃ (xs : List V) (x : V), SqT K H a xs ∧ xs[i]? = some x, fun i H v H' => ∃ T x, v = .ref T ∧ H T = none ∧ H' = upd H T (.tup [.int (i : Nat), x]) ∧ ∀ xs, SqT K H a xs → xs[i]? = some x, fun i H => ∃ xs : List V, SqT K H a xs ∧ xs.length = i⟩
theorem turn_enumT {P : Program} {w : World} {K : PySem.W.Frag} {elts : List Expr} {kk : Nat} {tpos : Pos} (a e it : Addr) :
    Turn P w K (.Tuple elts kk tpos) (IteT K a) [e, it] e (fun i h => (∃ old, IsEnum h e it ((i : Nat) : Int) old) ∧ h.IsTupleIter it a i ∧ e ≠ it ∧ e ≠ a ∧ a ≠ it) where
  mem := by simp
  obj := fun i h st b hb => by
    obtain ⟨⟨old, he⟩, ⟨o, ho, hc, hd⟩, _⟩ := st
    have e' : b = e ∨ b = it := by simpa using hb
    rcases e' with z | z
    · rw [z]; exact ⟨_, he, fun v q => nomatch q⟩
    · rw [z]; exact ⟨o, ho, fun v q => by rw [hd] at q; cases q⟩
  keep := fun i h h' st k => let ⟨⟨old, he⟩, hi, hne⟩ := st; ⟨⟨old, k e (by simp) _ he⟩, hi.at fun o q => k it (by simp) o q, hne⟩
  item := by
    intro X hP hw hK hc i pins s σ H E I hf st hg
    subst hP hw hK
    obtain ⟨⟨old, he⟩, hit, hne, hea, hai⟩ := st
    obtain ⟨xs, x, hq, hx⟩ := hg
    obtain ⟨its, rv, p, hz⟩ := I.tuple hq
    obtain ⟨u, hu, ru⟩ := rv.get hx
    have hel : e < s.heap.objs.size := Heap.lt_size he
    have hil : it < s.heap.objs.size := by obtain ⟨_, q, _⟩ := hit; exact Heap.lt_size q
    have hlt : i < its.toArray.size := by
      rw [List.size_toArray]
      exact (List.getElem?_eq_some_iff.mp hu).1
    refine wpAny_pyNext_enum_itemD (Draws.tuple (A := X.A.in1) (show X.A.in1.handled = none from I.ok.hd hc) it a hai its.toArray) he ⟨hit, (show s.heap.IsTuple a its.toArray from p)⟩ hlt hne (by simp [hne, hea]) fun v h' tk hv ho hst hT hsz hk => ?_
    have ev : v = u := by
      rw [List.getElem?_toArray, hu] at hv
      exact (Option.some.inj hv).symm
    subst ev
    obtain ⟨hit', hp'⟩ := hst
    refine ⟨_, rfl, wpAny_letOwnedTupleGo_enum (s := { s with heap := h', toks := tk + 1 }) ho fun h'' he' sb => ?_⟩
    have hT2 : h''.get? s.heap.objs.size = some { cls := .type "tuple", data := .seq #[.int i tk, v] } := (sb.2 _ (Nat.ne_of_gt hel)).trans hT
    have new : ObjOk X.prog X.w (upd H s.heap.objs.size (.tup [.int (i : Nat), x])) h'' s.heap.objs.size (.tup [.int (i : Nat), x]) :=
      ⟨by show 2 ≤ sizeLine; decide, [.int i tk, v], .cons ⟨_, rfl⟩ (.cons ru .nil), ⟨_, hT2, rfl, _, rfl⟩⟩
    have I1 : Inv X pins σ (upd H s.heap.objs.size (.tup [.int (i : Nat), x])) { s with heap := h'', toks := tk + 1 } :=
      I.turnedNew (ch := [e, it]) (fun b ob hb q => (sb.2 b (fun z => hb (by simp [z]))).trans (hk b ob (fun z => hb (by simp [z])) (fun z => hb (by simp [z])) q)) hf (Nat.le_refl _) new
    refine ⟨.ref s.heap.objs.size, _, I1, rfl, ⟨_, x, rfl, I.hok.fresh (Nat.le_refl _), rfl, fun ys hy => by rw [I.tuple_inj hy hq]; exact hx⟩, ⟨⟨v, ?_⟩, hit'.at fun o q => (sb.2 it (Ne.symm hne)).trans q, hne, hea, hai⟩, fun b hb => ?_⟩
    · have e1 : ((i + 1 : Nat) : Int) = (i : Int) + 1 := by omega
      rw [e1]; exact he'
    · have hb' : b < s.heap.objs.size := by
        have e' : b = e ∨ b = it := by simpa using hb
        rcases e' with z | z
        · rw [z]; exact hel
        · rw [z]; exact hil
      rw [upd_ne (Nat.ne_of_lt hb')]
      exact (hf b hb).1
  done := by
    intro X hP hw hK hc i pins s σ H E I hf st hg
    subst hP hw hK
    obtain ⟨⟨old, he⟩, hit, hne, hea, hai⟩ := st
    obtain ⟨xs, hq, hx⟩ := hg
    obtain ⟨its, rv, p, hz⟩ := I.tuple hq
    obtain ⟨f0, f1, f2, f3, f4, f5⟩ := hf it (by simp)
    have hl := rv.length
    have hi : its.toArray.size = i := by
      rw [List.size_toArray]
      omega
    subst hi
    exact wpAny_pyNext_enum_endD (Draws.tuple (A := X.A.in1) (show X.A.in1.handled = none from I.ok.hd hc) it a hai its.toArray) he ⟨hit, (show s.heap.IsTuple a its.toArray from p)⟩ fun h' eb => ⟨rfl, I.turned (t' := s.toks) (fun b o hb q => eb b o hb q) f0 f1 f3 f4 f5⟩
  self := fun A i s Q E st h => let ⟨⟨_, he⟩, _⟩ := st; wpAny_pyIter_enum he h
def iEnumT (K : PySem.W.Frag) (ta : TA) : TI := fun σ H R => ta σ H fun vs H1 => ∃ a xs, vs = [.ref a] ∧ SqT K H1 a xs ∧ R (IteT K a) H1
theorem pi_enumT {X : Cx} {K : PySem.W.Frag} {e : Expr} {ta : TA} {p pos tpos : Pos} {elts : List Expr} {kk : Nat} (hK : X.K = K) (hg : Gl X "enumerate") (hm : X.mg "enumerate" = none) (ha : PA X [e] ta) (hs : starEach [e] X.env = [(false, eval e X.env)] := by rfl) :
    PI X (.Tuple elts kk tpos) (.Call (.Name "enumerate" p) [e] [] pos) (iEnumT K ta) := by
  subst hK
  refine ⟨fun pins s σ H R I h => ?_⟩
  refine Call_ (ld_blt I hg hm boot_enumerate (PyProof.Rows.callWith_type1 (thn (ha.run pos pins s σ H _ I h) fun us s1 ⟨vs, H1, I1, r1, q1⟩ => ?_) hs rfl))
  obtain ⟨a, xs, ex, hq, q⟩ := q1
  subst ex
  cases r1 with
  | cons r rr =>
    cases rr
    cases r
    obtain ⟨its, rv, p', hz⟩ := I1.tuple hq
    have hal : a < s1.heap.objs.size := p'.lt
    refine enum_begins1 (begins_tuple a its.toArray) (show s1.heap.IsTuple a its.toArray from p') fun h' he hit hsz hk => wpAny_pyIter_enum he ?_
    have I2 : Inv X pins σ H1 { s1 with heap := h' } := I1.kept (t' := s1.toks) hk
    refine ⟨s1.heap.objs.size + 1, [s1.heap.objs.size + 1, s1.heap.objs.size], _, _, H1, rfl, I2, turn_enumT a (s1.heap.objs.size + 1) s1.heap.objs.size, ⟨⟨.none, he⟩, ⟨_, hit, rfl, rfl⟩, Nat.succ_ne_self _, Nat.ne_of_gt (Nat.lt_succ_of_lt hal), Nat.ne_of_lt hal⟩, fun b hb => ?_, q⟩
    have e' : b = s1.heap.objs.size + 1 ∨ b = s1.heap.objs.size := by simpa using hb
    have hle : s1.heap.objs.size ≤ b := by
      rcases e' with z | z
      · rw [z]; exact Nat.le_add_right _ _
      · rw [z]; exact Nat.le_refl _
    exact I1.fpOk hle (I1.hok.fresh hle)
theorem walk_enumT {K : PySem.W.Frag} {a : Addr} {xs : List V} : Walk (IteT K a) xs.length (fun H => SqT K H a xs) (YPair (fun i => some (.int (i : Nat))) (fun i => xs[i]?)) :=
  ⟨fun i H hi h => ⟨xs, xs[i], h, List.getElem?_eq_getElem hi⟩, fun H h => ⟨xs, h, rfl⟩, fun i H x H' hi h ⟨T, y, e1, e2, e3, e4⟩ => ⟨T, _, y, e1, e2, e3, rfl, e4 xs h⟩⟩
theorem wd_enumT {K : PySem.W.Frag} {δ : DE} {ta : TA} {xs : List D} (h : EaD ta δ [.tup xs]) : WD (iEnumT K ta) δ (enD xs) := fun σ H E R q => h σ H E _ fun vs H1 e1 r1 => by
  obtain ⟨v, r0, rfl, h3, h2⟩ := of_cons r1
  rw [of_nil h2]
  obtain ⟨a, us, rfl, h6, r6⟩ := of_tup h3
  refine ⟨a, us, rfl, SqT.of h6, ?_⟩
  have w := walk_enumT (K := K) (a := a) (xs := us)
  rw [r6.length, ← enD_len (xs := xs)] at w
  refine q _ H1 _ _ e1 w (fun H' e => .inl (.inl (e _ _ h6))) fun i H' x H'' e hi y => ?_
  obtain ⟨T, x', y', rfl, hT, rfl, hx, hy⟩ := y
  cases hx
  obtain ⟨d2, k3, k4⟩ := r6.at hy
  exact ⟨ex_new hT, _, enD_get k3, rp_tup upd_same (rs_cons rp_int (rs_cons (k4.mono (e.trans (ex_new hT))) rs_nil))⟩
end Oa
/-! Dicts, over data. -/
namespace Oa
open PySem L2
def kD : Key → D
  | .inl i => .int i
  | .inr s => .str s
theorem rp_key {H : Hp} {k : Key} {v : V} (h : Rp H (kD k) v) : v = kV k := by
  cases k with
  | inl i => exact of_int h
  | inr s => exact of_str h
theorem key_rp {H : Hp} {k : Key} : Rp H (kD k) (kV k) := by
  cases k with
  | inl i => exact rp_int
  | inr s => exact rp_str
/-- a dict's pairs -/
abbrev Es := List (Key × D)
def dctE (es : Es) : D := .dct (es.map (·.1)) (es.map (·.2))
def dcfE (es : Es) : D := .dcf (es.map (·.1)) (es.map (·.2))
def valE (es : Es) (k : Key) : Option D := (es.find? fun kv => decide (kv.1 = k)).map (·.2)
def putE (es : Es) (k : Key) (d : D) : Es := if (es.any fun kv => decide (kv.1 = k)) = true then es.map (fun kv => if kv.1 = k then (kv.1, d) else kv) else es ++ [(k, d)]
/-- pairs shown by pairs -/
def KvR (H : Hp) : Es → List (Key × V) → Prop
  | [], kvs => kvs = []
  | e :: es, kvs => ∃ kv r, kvs = kv :: r ∧ kv.1 = e.1 ∧ Rp H e.2 kv.2 ∧ KvR H es r
theorem kvr_of {H : Hp} : ∀ {es : Es} {kvs : List (Key × V)}, kvs.map (·.1) = es.map (·.1) → RpS H (es.map (·.2)) (kvs.map (·.2)) → KvR H es kvs
  | [], [], _, _ => rfl
  | [], _ :: _, h, _ => nomatch h
  | _ :: _, [], h, _ => nomatch h
  | e :: es, kv :: r, h, h2 => by
    rw [List.map_cons, List.map_cons] at h
    injection h with h3 h4
    obtain ⟨v, r0, e1, h5, h6⟩ := of_cons h2
    rw [List.map_cons] at e1
    injection e1 with e2 e3
    subst e2 e3
    exact ⟨kv, r, rfl, h3, h5, kvr_of h4 h6⟩
theorem KvR.keys {H : Hp} : ∀ {es : Es} {kvs : List (Key × V)}, KvR H es kvs → kvs.map (·.1) = es.map (·.1)
  | [], _, h => by
    cases h
    rfl
  | e :: es, _, ⟨kv, r, rfl, h1, h2, h3⟩ => by
    rw [List.map_cons, List.map_cons, h1, h3.keys]
theorem KvR.vals {H : Hp} : ∀ {es : Es} {kvs : List (Key × V)}, KvR H es kvs → RpS H (es.map (·.2)) (kvs.map (·.2))
  | [], _, h => by
    cases h
    exact rs_nil
  | e :: es, _, ⟨kv, r, rfl, h1, h2, h3⟩ => rs_cons h2 h3.vals
theorem rp_dctE {H : Hp} {a : Addr} {es : Es} {kvs : List (Key × V)} (h : H a = some (.dK kvs)) (r : KvR H es kvs) : Rp H (dctE es) (.ref a) := rp_dct h r.keys r.vals
theorem of_dctE {H : Hp} {es : Es} {v : V} (h : Rp H (dctE es) v) : ∃ a kvs, v = .ref a ∧ H a = some (.dK kvs) ∧ KvR H es kvs := by
  obtain ⟨a, kvs, e1, e2, e3, r⟩ := of_dct h
  exact ⟨a, kvs, e1, e2, kvr_of e3 r⟩
theorem of_dcfE {H : Hp} {es : Es} {v : V} (h : Rp H (dcfE es) v) : ∃ a o kvs, v = .ref a ∧ H a = some (.frz o (.dK kvs)) ∧ KvR H es kvs := by
  obtain ⟨a, o, kvs, e1, e2, e3, r⟩ := of_dcf h
  exact ⟨a, o, kvs, e1, e2, kvr_of e3 r⟩
theorem KvR.val {H : Hp} {k : Key} : ∀ {es : Es} {kvs : List (Key × V)}, KvR H es kvs → (valE es k = none ∧ valV kvs k = none) ∨ ∃ d v, valE es k = some d ∧ valV kvs k = some v ∧ Rp H d v
  | [], _, h => by
    cases h
    exact .inl ⟨rfl, rfl⟩
  | e :: es, _, ⟨kv, r, rfl, h1, h2, h3⟩ => by
    by_cases hk : e.1 = k
    · refine .inr ⟨e.2, kv.2, ?_, valV_pos (by rw [h1]; exact hk), h2⟩
      simp [valE, List.find?_cons, hk]
    · have e1 : valE (e :: es) k = valE es k := by simp [valE, List.find?_cons, hk]
      have e2 : valV (kv :: r) k = valV r k := valV_neg (by rw [h1]; exact hk)
      rw [e1, e2]
      exact h3.val
theorem KvR.any {H : Hp} {k : Key} : ∀ {es : Es} {kvs : List (Key × V)}, KvR H es kvs → (kvs.any fun kv => decide (kv.1 = k)) = es.any fun kv => decide (kv.1 = k)
  | [], _, h => by
    cases h
    rfl
  | e :: es, _, ⟨kv, r, rfl, h1, h2, h3⟩ => by
    rw [List.any_cons, List.any_cons, h1, h3.any]
theorem KvR.map {H : Hp} {k : Key} {d : D} {v : V} (hd : Rp H d v) : ∀ {es : Es} {kvs : List (Key × V)}, KvR H es kvs → KvR H (es.map fun kv => if kv.1 = k then (kv.1, d) else kv) (kvs.map fun kv => if kv.1 = k then (kv.1, v) else kv)
  | [], _, h => by
    cases h
    rfl
  | e :: es, _, ⟨kv, r, rfl, h1, h2, h3⟩ => by
    rw [List.map_cons, List.map_cons]
    refine ⟨_, _, rfl, ?_, ?_, h3.map hd⟩
    · rw [h1]
      split <;> first | rfl | exact h1
    · rw [h1]
      split
      · exact hd
      · exact h2
theorem KvR.append {H : Hp} {k : Key} {d : D} {v : V} (hd : Rp H d v) : ∀ {es : Es} {kvs : List (Key × V)}, KvR H es kvs → KvR H (es ++ [(k, d)]) (kvs ++ [(k, v)])
  | [], _, h => by
    cases h
    exact ⟨_, _, rfl, rfl, hd, rfl⟩
  | e :: es, _, ⟨kv, r, rfl, h1, h2, h3⟩ => ⟨kv, _, rfl, h1, h2, h3.append hd⟩
theorem KvR.put {H : Hp} {k : Key} {d : D} {v : V} {es : Es} {kvs : List (Key × V)} (h : KvR H es kvs) (hd : Rp H d v) : KvR H (putE es k d) (putK kvs k v) := by
  unfold putE putK
  rw [h.any]
  split
  · exact h.map hd
  · exact h.append hd
theorem KvR.keep {H H' : Hp} (e : TEx H H') : ∀ {es : Es} {kvs : List (Key × V)}, (es.all fun x => imm x.2) = true → KvR H es kvs → KvR H' es kvs
  | [], _, _, h => h
  | x :: es, _, hi, ⟨kv, r, rfl, h1, h2, h3⟩ => by
    rw [List.all_cons, Bool.and_eq_true] at hi
    exact ⟨kv, r, rfl, h1, h2.keep e hi.1, h3.keep e hi.2⟩
theorem KvR.length {H : Hp} : ∀ {es : Es} {kvs : List (Key × V)}, KvR H es kvs → kvs.length = es.length
  | [], _, h => by
    cases h
    rfl
  | e :: es, _, ⟨kv, r, rfl, h1, h2, h3⟩ => by
    rw [List.length_cons, List.length_cons, h3.length]
section
variable {δ : DE} {td ty tx : TE} {es : Es} {k : Key} {dz d : D}
theorem dget_dctE {H : Hp} {v : V} (h : Rp H (dctE es) v ∨ Rp H (dcfE es) v) : ∃ a kvs, v = .ref a ∧ Rd H a (.dK kvs) ∧ KvR H es kvs := by
  rcases h with h | h
  · obtain ⟨a, kvs, e1, e2, r⟩ := of_dctE h
    exact ⟨a, kvs, e1, .inl e2, r⟩
  · obtain ⟨a, o, kvs, e1, e2, r⟩ := of_dcfE h
    exact ⟨a, kvs, e1, .inr ⟨o, e2⟩, r⟩
theorem rd_mono {H H' : Hp} {a : Addr} {u : HO} (e : Ex H H') (h : Rd H a u) : Rd H' a u := by
  rcases h with h | ⟨o, h⟩
  · exact .inl (e a _ h)
  · exact .inr ⟨o, e a _ h⟩
/-- d.get(k, x) -/
theorem ed_dget2 (h : EvD td δ (dctE es)) (hk : EvD ty δ (kD k)) (hx : EvD tx δ dz) : EvD (tDGet2 td ty tx) δ ((valE es k).getD dz) := fun σ H E Q q =>
  h σ H E _ fun v H1 e1 r1 => by
    obtain ⟨a, kvs, rfl, hr, _⟩ := dget_dctE (.inl r1)
    refine ⟨a, rfl, .inl ⟨kvs, hr⟩, hk σ H1 (E.mono e1) _ fun y H2 e2 r2 => hx σ H2 (E.mono (e1.trans e2)) _ fun z H3 e3 r3 => ?_⟩
    obtain ⟨a', kvs', e', hr', kv'⟩ := dget_dctE (.inl (r1.mono (e2.trans e3)))
    cases e'
    refine ⟨valV kvs' k, .inl ⟨kvs', k, hr', rp_key r2, rfl⟩, ?_⟩
    have e13 := (e1.trans e2).trans e3
    rcases kv'.val (k := k) with ⟨h1, h2⟩ | ⟨d, w, h1, h2, h3⟩
    · rw [h1] at q
      rw [h2]
      exact q _ H3 e13 r3
    · rw [h1] at q
      rw [h2]
      exact q _ H3 e13 h3
/-- d[k], there -/
theorem ed_dget (h : EvD td δ (dctE es) ∨ EvD td δ (dcfE es)) (hk : EvD ty δ (kD k)) (hv : valE es k = some d) : EvD (tDGet td ty) δ d := fun σ H E Q q => by
  have main : ∀ v H1, Ex H H1 → (Rp H1 (dctE es) v ∨ Rp H1 (dcfE es) v) → ty σ H1 fun y H2 => ∃ a w, v = .ref a ∧ DGet H2 a y (some w) ∧ Q w H2 := fun v H1 e1 r1 =>
    hk σ H1 (E.mono e1) _ fun y H2 e2 r2 => by
      have r1' : Rp H2 (dctE es) v ∨ Rp H2 (dcfE es) v := by
        rcases r1 with r1 | r1
        · exact .inl (r1.mono e2)
        · exact .inr (r1.mono e2)
      obtain ⟨a, kvs, rfl, hr, kv⟩ := dget_dctE r1'
      rcases kv.val (k := k) with ⟨h1, h2⟩ | ⟨d', w, h1, h2, h3⟩
      · rw [hv] at h1
        cases h1
      · rw [hv] at h1
        cases h1
        exact ⟨a, w, rfl, .inl ⟨kvs, k, hr, rp_key r2, h2.symm⟩, q w H2 (e1.trans e2) h3⟩
  rcases h with h | h
  · exact h σ H E _ fun v H1 e1 r1 => main v H1 e1 (.inl r1)
  · exact h σ H E _ fun v H1 e1 r1 => main v H1 e1 (.inr r1)
/-- for k in d, d locked -/
theorem wd_keys (h : EvD td δ (dcfE es)) : WD (iKeys td) δ (es.map fun e => kD e.1) := fun σ H E R q => h σ H E _ fun v H1 e1 r1 => by
  obtain ⟨a, o, kvs, rfl, h2, kv⟩ := of_dcfE r1
  refine ⟨a, o, rfl, .inl ⟨kvs, h2, ?_⟩⟩
  have w := walk_keys (d := a) (o := o) (kvs := kvs)
  rw [kv.length] at w
  refine q _ H1 _ _ e1 (by rw [List.length_map]; exact w) (fun H' e => e _ _ h2) fun i H' x H'' e hi y => ?_
  obtain ⟨rfl, k, v, hkv, rfl⟩ := y
  refine ⟨Same.refl _, kD k, ?_, key_rp⟩
  have hm := kv.keys
  have h3 : (kvs.map (·.1))[i]? = some k := by
    rw [List.getElem?_map, hkv]
    rfl
  rw [hm, List.getElem?_map] at h3
  rw [List.getElem?_map]
  cases h4 : es[i]? with
  | none =>
    rw [h4] at h3
    cases h3
  | some e =>
    rw [h4] at h3
    have h3 : e.1 = k := Option.some.inj h3
    show some (kD e.1) = some (kD k)
    rw [h3]
/-- the i-th slot's dict under a lock -/
theorem en_lock {t : TE} {ds : List D} {i : Nat} (hi : δ[i]? = some (some (dctE es))) (him : (es.all fun x => imm x.2) = true) (hδ : ∀ j d, j ≠ i → δ[j]? = some (some d) → noD d = true) (hds : immS ds = true)
    (h : EvN t (δ.set i (some (dcfE es))) ds) : EvN (tLockE t) δ ds := fun σ H E Q q => by
  obtain ⟨v, h1, h2⟩ := E.at_ i _ hi
  obtain ⟨a, kvs, rfl, ha, kv⟩ := of_dctE h2
  refine ⟨a, .dK kvs, ha, trivial, fun od => ?_⟩
  have te : TEx H (upd H a (.frz od (.dK kvs))) := tex_upd fun xs z => by
    rw [ha] at z
    cases z
  have lx : LEx a H (upd H a (.frz od (.dK kvs))) := fun b o hb e => by
    rw [upd_ne hb]
    exact e
  have hil : i < δ.length := (List.getElem?_eq_some_iff.mp hi).1
  have E2 : Env σ (upd H a (.frz od (.dK kvs))) (δ.set i (some (dcfE es))) := by
    refine ⟨by rw [List.length_set]; exact E.len, fun j d hj => ?_⟩
    by_cases hji : i = j
    · subst hji
      rw [List.getElem?_set_self hil] at hj
      have hd : dcfE es = d := Option.some.inj (Option.some.inj hj)
      subst hd
      exact ⟨.ref a, h1, rp_dcf upd_same kv.keys (kv.keep te him).vals⟩
    · rw [List.getElem?_set_ne hji] at hj
      obtain ⟨v, h3, h4⟩ := E.at_ j d hj
      exact ⟨v, h3, h4.off lx ⟨kvs, ha⟩ (hδ j d (fun z => hji z.symm) hj)⟩
  refine h σ _ E2 _ fun p vs H' hp e hvs r => ?_
  have hpa : p ≠ a := fun z => by
    rw [z, upd_same] at hp
    cases hp
  have hp' : H p = none := by
    rw [upd_ne hpa] at hp
    exact hp
  have hfa : H' a = some (.frz od (.dK kvs)) := e a _ upd_same
  refine ⟨hfa, q p vs _ hp' ?_ (by rw [upd_ne hpa]; exact hvs) (r.keep (tex_upd fun xs z => by rw [hfa] at z; cases z) hds)⟩
  intro b o hb
  by_cases hba : b = a
  · subst hba
    rw [upd_same, ← ha]
    exact hb
  · rw [upd_ne hba]
    exact e b o (by rw [upd_ne hba]; exact hb)
end
end Oa
/-! The text's defs by place (printed by gen.py). -/
namespace Oa
open PySem L2
def top (i : Nat) : Stmt := PySem.Challenge.pw_oathlog_k92_whole_held_and_leased.main.body.getD i (.Pass ⟨0, 0, 0, 0⟩)
/-- a def of the text, where it stands -/
structure DefAt (K : PySem.W.Frag) (mg : Str → Option Value) (x : Str) (st : Stmt) (ps : List Str) where
  f : Addr
  fd : FuncData
  F : Fun K x x st f fd
  b : Binds K fd ps []
  g : mg x = some (.ref f)
abbrev s_is_enough : Stmt := top 1
abbrev nN_is_enough : List Str := ["group", "houses", "one", "house"]
theorem sc_is_enough : FnScope nN_is_enough ["group", "houses"] (defScope s_is_enough) := ⟨rfl, rfl, rfl, by decide +kernel, rfl, by decide +kernel, by decide +kernel⟩
abbrev s_group_after : Stmt := top 3
abbrev nN_group_after : List Str := ["group", "row"]
theorem sc_group_after : FnScope nN_group_after ["group", "row"] (defScope s_group_after) := ⟨rfl, rfl, rfl, by decide +kernel, rfl, by decide +kernel, by decide +kernel⟩
abbrev s_group_behind : Stmt := top 4
abbrev nN_group_behind : List Str := ["group", "rows", "row"]
theorem sc_group_behind : FnScope nN_group_behind ["group", "rows"] (defScope s_group_behind) := ⟨rfl, rfl, rfl, by decide +kernel, rfl, by decide +kernel, by decide +kernel⟩
abbrev s_mark : Stmt := top 5
abbrev nN_mark : List Str := ["rows", "found", "place", "row"]
theorem sc_mark : FnScope nN_mark ["rows"] (defScope s_mark) := ⟨rfl, rfl, rfl, by decide +kernel, rfl, by decide +kernel, by decide +kernel⟩
abbrev s_length : Stmt := top 7
abbrev nN_length : List Str := ["log"]
theorem sc_length : FnScope nN_length ["log"] (defScope s_length) := ⟨rfl, rfl, rfl, by decide +kernel, rfl, by decide +kernel, by decide +kernel⟩
abbrev s_log_group : Stmt := top 8
abbrev nN_log_group : List Str := ["log"]
theorem sc_log_group : FnScope nN_log_group ["log"] (defScope s_log_group) := ⟨rfl, rfl, rfl, by decide +kernel, rfl, by decide +kernel, by decide +kernel⟩
abbrev s_log_mark : Stmt := top 9
abbrev nN_log_mark : List Str := ["log"]
theorem sc_log_mark : FnScope nN_log_mark ["log"] (defScope s_log_mark) := ⟨rfl, rfl, rfl, by decide +kernel, rfl, by decide +kernel, by decide +kernel⟩
abbrev s_put : Stmt := top 10
abbrev nN_put : List Str := ["log", "row", "cut", "store", "group", "rows"]
theorem sc_put : FnScope nN_put ["log", "row"] (defScope s_put) := ⟨rfl, rfl, rfl, by decide +kernel, rfl, by decide +kernel, by decide +kernel⟩
abbrev s_reads_until : Stmt := top 13
abbrev nN_reads_until : List Str := ["house", "me", "lease", "word", "start", "stamp", "acks", "known", "one", "count", "time", "group", "last"]
theorem sc_reads_until : FnScope nN_reads_until ["house", "me", "lease"] (defScope s_reads_until) := ⟨rfl, rfl, rfl, by decide +kernel, rfl, by decide +kernel, by decide +kernel⟩
abbrev s_may_read : Stmt := top 14
abbrev nN_may_read : List Str := ["house", "me", "time", "lease", "until"]
theorem sc_may_read : FnScope nN_may_read ["house", "me", "time", "lease"] (defScope s_may_read) := ⟨rfl, rfl, rfl, by decide +kernel, rfl, by decide +kernel, by decide +kernel⟩
abbrev s_may_put : Stmt := top 15
abbrev nN_may_put : List Str := ["house", "row", "log"]
theorem sc_may_put : FnScope nN_may_put ["house", "row"] (defScope s_may_put) := ⟨rfl, rfl, rfl, by decide +kernel, rfl, by decide +kernel, by decide +kernel⟩
abbrev s_owner : Stmt := top 17
abbrev nN_owner : List Str := ["which", "many"]
theorem sc_owner : FnScope nN_owner ["which", "many"] (defScope s_owner) := ⟨rfl, rfl, rfl, by decide +kernel, rfl, by decide +kernel, by decide +kernel⟩
abbrev s_settled_anew : Stmt := top 18
abbrev nN_settled_anew : List Str := ["house", "me", "log", "known", "one", "count", "time", "there", "least"]
theorem sc_settled_anew : FnScope nN_settled_anew ["house", "me"] (defScope s_settled_anew) := ⟨rfl, rfl, rfl, by decide +kernel, rfl, by decide +kernel, by decide +kernel⟩
abbrev s_sent : Stmt := top 20
abbrev nN_sent : List Str := ["house", "time", "lease", "which", "taken", "log", "settled", "until", "awake", "role", "word", "start", "stamp", "acks", "later"]
theorem sc_sent : FnScope nN_sent ["house", "time", "lease"] (defScope s_sent) := ⟨rfl, rfl, rfl, by decide +kernel, rfl, by decide +kernel, by decide +kernel⟩
abbrev s_told : Stmt := top 21
abbrev nN_told : List Str := ["house", "me", "many", "letter", "lease", "old", "taken", "log", "settled", "until", "awake", "role", "word", "which", "other", "known", "time", "later"]
theorem sc_told : FnScope nN_told ["house", "me", "many", "letter", "lease"] (defScope s_told) := ⟨rfl, rfl, rfl, by decide +kernel, rfl, by decide +kernel, by decide +kernel⟩
abbrev s_acks_with : Stmt := top 22
abbrev nN_acks_with : List Str := ["acks", "one", "count", "time", "other", "least", "stamp", "ack"]
theorem sc_acks_with : FnScope nN_acks_with ["acks", "one", "count", "time"] (defScope s_acks_with) := ⟨rfl, rfl, rfl, by decide +kernel, rfl, by decide +kernel, by decide +kernel⟩
abbrev s_counted : Stmt := top 23
abbrev nN_counted : List Str := ["house", "me", "letter", "role", "word", "start", "stamp", "acks"]
theorem sc_counted : FnScope nN_counted ["house", "me", "letter"] (defScope s_counted) := ⟨rfl, rfl, rfl, by decide +kernel, rfl, by decide +kernel, by decide +kernel⟩
abbrev s_written : Stmt := top 24
abbrev nN_written : List Str := ["house", "me", "row"]
theorem sc_written : FnScope nN_written ["house", "me", "row"] (defScope s_written) := ⟨rfl, rfl, rfl, by decide +kernel, rfl, by decide +kernel, by decide +kernel⟩
abbrev s__law_pot : Stmt := top 26
abbrev nN__law_pot : List Str := ["_law_cell", "_law_salt", "_law_mixed"]
theorem sc__law_pot : FnScope nN__law_pot ["_law_cell", "_law_salt"] (defScope s__law_pot) := ⟨rfl, rfl, rfl, by decide +kernel, rfl, by decide +kernel, by decide +kernel⟩
abbrev s__law_take : Stmt := top 27
abbrev nN__law_take : List Str := ["_law_pot_here", "_law_many", "_law_found"]
theorem sc__law_take : FnScope nN__law_take ["_law_pot_here", "_law_many"] (defScope s__law_take) := ⟨rfl, rfl, rfl, by decide +kernel, rfl, by decide +kernel, by decide +kernel⟩
abbrev s__law_number : Stmt := top 28
abbrev nN__law_number : List Str := ["_law_pot_here"]
theorem sc__law_number : FnScope nN__law_number ["_law_pot_here"] (defScope s__law_number) := ⟨rfl, rfl, rfl, by decide +kernel, rfl, by decide +kernel, by decide +kernel⟩
abbrev s__law_same : Stmt := top 29
abbrev nN__law_same : List Str := ["_law_found", "_law_due", "_law_one", "_law_other"]
theorem sc__law_same : FnScope nN__law_same ["_law_found", "_law_due"] (defScope s__law_same) := ⟨rfl, rfl, rfl, by decide +kernel, rfl, by decide +kernel, by decide +kernel⟩
abbrev s__law_set : Stmt := top 30
abbrev nN__law_set : List Str := ["_law_pot_here", "_law_many", "_law_bits", "_law_house"]
theorem sc__law_set : FnScope nN__law_set ["_law_pot_here", "_law_many"] (defScope s__law_set) := ⟨rfl, rfl, rfl, by decide +kernel, rfl, by decide +kernel, by decide +kernel⟩
abbrev s__law_deed : Stmt := top 31
abbrev nN__law_deed : List Str := ["_law_pot_here", "_law_word", "_law_key"]
theorem sc__law_deed : FnScope nN__law_deed ["_law_pot_here"] (defScope s__law_deed) := ⟨rfl, rfl, rfl, by decide +kernel, rfl, by decide +kernel, by decide +kernel⟩
abbrev s__law_row : Stmt := top 32
abbrev nN__law_row : List Str := ["_law_pot_here", "_law_many", "_law_group"]
theorem sc__law_row : FnScope nN__law_row ["_law_pot_here", "_law_many", "_law_group"] (defScope s__law_row) := ⟨rfl, rfl, rfl, by decide +kernel, rfl, by decide +kernel, by decide +kernel⟩
abbrev s__law_behind : Stmt := top 33
abbrev nN__law_behind : List Str := ["_law_group", "_law_rows_here", "_law_row_here"]
theorem sc__law_behind : FnScope nN__law_behind ["_law_group", "_law_rows_here"] (defScope s__law_behind) := ⟨rfl, rfl, rfl, by decide +kernel, rfl, by decide +kernel, by decide +kernel⟩
abbrev s__law_rows : Stmt := top 34
abbrev nN__law_rows : List Str := ["_law_pot_here", "_law_many", "_law_group", "_law_rows_here", "_law_more", "_law_k"]
theorem sc__law_rows : FnScope nN__law_rows ["_law_pot_here", "_law_many", "_law_group", "_law_rows_here", "_law_more"] (defScope s__law_rows) := ⟨rfl, rfl, rfl, by decide +kernel, rfl, by decide +kernel, by decide +kernel⟩
abbrev s__law_log : Stmt := top 35
abbrev nN__law_log : List Str := ["_law_group", "_law_rows_here", "_law_cut", "_law_long_here", "_law_values", "_law_last", "_law_row_here", "_law_deed_here", "_law_answer", "_law_store", "_law_key", "_law_client"]
theorem sc__law_log : FnScope nN__law_log ["_law_group", "_law_rows_here", "_law_cut", "_law_long_here"] (defScope s__law_log) := ⟨rfl, rfl, rfl, by decide +kernel, rfl, by decide +kernel, by decide +kernel⟩
abbrev s__law_enough : Stmt := top 36
abbrev nN__law_enough : List Str := ["_law_group", "_law_houses", "_law_one", "_law_house"]
theorem sc__law_enough : FnScope nN__law_enough ["_law_group", "_law_houses"] (defScope s__law_enough) := ⟨rfl, rfl, rfl, by decide +kernel, rfl, by decide +kernel, by decide +kernel⟩
abbrev s__law_begun : Stmt := top 37
abbrev nN__law_begun : List Str := ["_law_script", "_law_many", "_law_pot_here", "_law_group", "_law_long_here", "_law_rows_here", "_law_me", "_law_own", "_law_houses", "_law_one", "_law_size", "_law_known", "_law_log_here", "_law_taken", "_law_house"]
theorem sc__law_begun : FnScope nN__law_begun ["_law_script", "_law_many"] (defScope s__law_begun) := ⟨rfl, rfl, rfl, by decide +kernel, rfl, by decide +kernel, by decide +kernel⟩
abbrev s__law_moved : Stmt := top 38
abbrev nN__law_moved : List Str := ["_law_turn", "_law_state", "_law_letters", "_law_time", "_law_lease", "_law_houses", "_law_me", "_law_group", "_law_rows_here", "_law_many", "_law_way", "_law_row_here", "_law_some", "_law_letter", "_law_one"]
theorem sc__law_moved : FnScope nN__law_moved ["_law_turn", "_law_state", "_law_letters", "_law_time", "_law_lease"] (defScope s__law_moved) := ⟨rfl, rfl, rfl, by decide +kernel, rfl, by decide +kernel, by decide +kernel⟩
abbrev s__law_long : Stmt := top 39
abbrev nN__law_long : List Str := ["_law_house"]
theorem sc__law_long : FnScope nN__law_long ["_law_house"] (defScope s__law_long) := ⟨rfl, rfl, rfl, by decide +kernel, rfl, by decide +kernel, by decide +kernel⟩
abbrev s__law_right : Stmt := top 40
abbrev nN__law_right : List Str := ["_law_state", "_law_before", "_law_time", "_law_lease", "_law_houses", "_law_me", "_law_group", "_law_rows_here", "_law_head", "_law_behind_here", "_law_house", "_law_old", "_law_held", "_law_one"]
theorem sc__law_right : FnScope nN__law_right ["_law_state", "_law_before", "_law_time", "_law_lease"] (defScope s__law_right) := ⟨rfl, rfl, rfl, by decide +kernel, rfl, by decide +kernel, by decide +kernel⟩
abbrev s__law_ends : Stmt := top 41
abbrev nN__law_ends : List Str := ["_law_state", "_law_time", "_law_lease", "_law_houses", "_law_me", "_law_group", "_law_rows_here", "_law_some", "_law_one", "_law_gots", "_law_letter"]
theorem sc__law_ends : FnScope nN__law_ends ["_law_state", "_law_time", "_law_lease"] (defScope s__law_ends) := ⟨rfl, rfl, rfl, by decide +kernel, rfl, by decide +kernel, by decide +kernel⟩
abbrev s_law : Stmt := top 42
abbrev nN_law : List Str := ["_law_script", "_law_many", "_law_state", "_law_lease", "_law_time", "_law_letters", "_law_k", "_law_cell", "_law_turn", "_law_before"]
theorem sc_law : FnScope nN_law ["_law_script"] (defScope s_law) := ⟨rfl, rfl, rfl, by decide +kernel, rfl, by decide +kernel, by decide +kernel⟩
structure Defs (K : PySem.W.Frag) (mg : Str → Option Value) where
  is_enough : DefAt K mg "is_enough" s_is_enough ["group", "houses"]
  group_after : DefAt K mg "group_after" s_group_after ["group", "row"]
  group_behind : DefAt K mg "group_behind" s_group_behind ["group", "rows"]
  mark : DefAt K mg "mark" s_mark ["rows"]
  length : DefAt K mg "length" s_length ["log"]
  log_group : DefAt K mg "log_group" s_log_group ["log"]
  log_mark : DefAt K mg "log_mark" s_log_mark ["log"]
  put : DefAt K mg "put" s_put ["log", "row"]
  reads_until : DefAt K mg "reads_until" s_reads_until ["house", "me", "lease"]
  may_read : DefAt K mg "may_read" s_may_read ["house", "me", "time", "lease"]
  may_put : DefAt K mg "may_put" s_may_put ["house", "row"]
  owner : DefAt K mg "owner" s_owner ["which", "many"]
  settled_anew : DefAt K mg "settled_anew" s_settled_anew ["house", "me"]
  sent : DefAt K mg "sent" s_sent ["house", "time", "lease"]
  told : DefAt K mg "told" s_told ["house", "me", "many", "letter", "lease"]
  acks_with : DefAt K mg "acks_with" s_acks_with ["acks", "one", "count", "time"]
  counted : DefAt K mg "counted" s_counted ["house", "me", "letter"]
  written : DefAt K mg "written" s_written ["house", "me", "row"]
  _law_pot : DefAt K mg "_law_pot" s__law_pot ["_law_cell", "_law_salt"]
  _law_take : DefAt K mg "_law_take" s__law_take ["_law_pot_here", "_law_many"]
  _law_number : DefAt K mg "_law_number" s__law_number ["_law_pot_here"]
  _law_same : DefAt K mg "_law_same" s__law_same ["_law_found", "_law_due"]
  _law_set : DefAt K mg "_law_set" s__law_set ["_law_pot_here", "_law_many"]
  _law_deed : DefAt K mg "_law_deed" s__law_deed ["_law_pot_here"]
  _law_row : DefAt K mg "_law_row" s__law_row ["_law_pot_here", "_law_many", "_law_group"]
  _law_behind : DefAt K mg "_law_behind" s__law_behind ["_law_group", "_law_rows_here"]
  _law_rows : DefAt K mg "_law_rows" s__law_rows ["_law_pot_here", "_law_many", "_law_group", "_law_rows_here", "_law_more"]
  _law_log : DefAt K mg "_law_log" s__law_log ["_law_group", "_law_rows_here", "_law_cut", "_law_long_here"]
  _law_enough : DefAt K mg "_law_enough" s__law_enough ["_law_group", "_law_houses"]
  _law_begun : DefAt K mg "_law_begun" s__law_begun ["_law_script", "_law_many"]
  _law_moved : DefAt K mg "_law_moved" s__law_moved ["_law_turn", "_law_state", "_law_letters", "_law_time", "_law_lease"]
  _law_long : DefAt K mg "_law_long" s__law_long ["_law_house"]
  _law_right : DefAt K mg "_law_right" s__law_right ["_law_state", "_law_before", "_law_time", "_law_lease"]
  _law_ends : DefAt K mg "_law_ends" s__law_ends ["_law_state", "_law_time", "_law_lease"]
  law : DefAt K mg "law" s_law ["_law_script"]
  n_len : mg "len" = none
  n_all : mg "all" = none
  n_max : mg "max" = none
  n_min : mg "min" = none
  n_sorted : mg "sorted" = none
  n_tuple : mg "tuple" = none
  n_list : mg "list" = none
  n_sum : mg "sum" = none
  n_abs : mg "abs" = none
  n_int : mg "int" = none
  n_isinstance : mg "isinstance" = none
  n_range : mg "range" = none
  n_enumerate : mg "enumerate" = none
  n_zip : mg "zip" = none
  n_bool : mg "bool" = none
  n_str : mg "str" = none
  most : ∃ t, mg "MOST_ROWS" = some (.int 60 t)
theorem bb_len : bootBuiltins "len" = some (.builtin "len") := by decide +kernel
theorem bb_all : bootBuiltins "all" = some (.builtin "all") := by decide +kernel
theorem bb_max : bootBuiltins "max" = some (.builtin "max") := by decide +kernel
theorem bb_min : bootBuiltins "min" = some (.builtin "min") := by decide +kernel
theorem bb_sorted : bootBuiltins "sorted" = some (.builtin "sorted") := by decide +kernel
theorem bb_tuple : bootBuiltins "tuple" = some (.type "tuple") := by decide +kernel
theorem bb_list : bootBuiltins "list" = some (.type "list") := by decide +kernel
theorem bb_sum : bootBuiltins "sum" = some (.builtin "sum") := by decide +kernel
theorem bb_abs : bootBuiltins "abs" = some (.builtin "abs") := by decide +kernel
theorem bb_int : bootBuiltins "int" = some (.type "int") := by decide +kernel
theorem bb_isinstance : bootBuiltins "isinstance" = some (.builtin "isinstance") := by decide +kernel
theorem bb_range : bootBuiltins "range" = some (.type "range") := by decide +kernel
theorem bb_enumerate : bootBuiltins "enumerate" = some (.type "enumerate") := by decide +kernel
theorem bb_zip : bootBuiltins "zip" = some (.type "zip") := by decide +kernel
theorem bb_bool : bootBuiltins "bool" = some (.type "bool") := by decide +kernel
theorem bb_str : bootBuiltins "str" = some (.type "str") := by decide +kernel
end Oa
/-! The program's data as plain Lean types, and what its pure defs compute of them. -/
namespace Oa
open PySem L2
abbrev Grp := List (List Int)
inductive Deed where
  | get (k : Str) | put (k : Str) (v : Int) | add (k : Str) (v : Int)
inductive Row where
  | deed (c n : Int) (x : Deed) | change (s : List Int) | close
structure Log where
  cut : Int
  store : D
  group : Grp
  rows : List Row
inductive Role where
  | rests | heads (start : Int) (stamp : Option Int) (acks : List (Int × Int × Int))
structure House where
  which : Int
  taken : Int
  log : Log
  settled : Int
  until_ : Int
  role : Role
inductive Letter where
  | rows (which : Int) (log : Log) (known time : Int) | got (which one count time : Int)
def setD (s : List Int) : D := .tup (s.map D.int)
def grpD (g : Grp) : D := .tup (g.map setD)
def Deed.d : Deed → D
  | .get k => .tup [.str "get", .str k]
  | .put k v => .tup [.str "put", .str k, .int v]
  | .add k v => .tup [.str "add", .str k, .int v]
def Row.d : Row → D
  | .deed c n x => .tup [.str "deed", .int c, .int n, x.d]
  | .change s => .tup [.str "change", setD s]
  | .close => .tup [.str "close"]
def rowsD (l : List Row) : List D := l.map Row.d
def Log.d (l : Log) : D := .tup [.int l.cut, l.store, grpD l.group, .tup (rowsD l.rows)]
def optD : Option Int → D
  | none => .non
  | some i => .int i
def ackD (a : Int × Int × Int) : D := .tup [.int a.1, .int a.2.1, .int a.2.2]
def acksD (l : List (Int × Int × Int)) : D := .tup (l.map ackD)
def Role.d : Role → D
  | .rests => .non
  | .heads s t a => .tup [.str "heads", .int s, optD t, acksD a]
def House.d (h : House) : D := .tup [.int h.which, .int h.taken, h.log.d, .int h.settled, .int h.until_, .bl true, h.role.d]
def Letter.d : Letter → D
  | .rows w l k t => .tup [.str "rows", .int w, l.d, .int k, .int t]
  | .got w o c t => .tup [.str "got", .int w, .int o, .int c, .int t]
/-! what is computed -/
def isEnough (g : Grp) (hs : List Int) : Bool := g.all fun s => decide ((s.length : Int) < 2 * ((s.filter fun h => decide (h ∈ hs)).length : Int))
def groupAfter (g : Grp) : Row → Option Grp
  | .deed _ _ _ => some g
  | .change s => match g with
    | [a] => some [a, s]
    | _ => none
  | .close => match g with
    | [_, b] => some [b]
    | _ => none
def groupBehind (g : Grp) : List Row → Option Grp
  | [] => some g
  | r :: rs => match groupAfter g r with
    | some g' => groupBehind g' rs
    | none => none
def grpO : Option Grp → D
  | none => .non
  | some g => grpD g
def isDeed : Row → Bool
  | .deed _ _ _ => true
  | _ => false
/-- the place of the last row that is no deed; i rows stand ahead -/
def markFrom (i : Int) (found : Int) : List Row → Int
  | [] => found
  | r :: rs => markFrom (i + 1) (if isDeed r then found else i + 1) rs
def mark (rs : List Row) : Int := markFrom 0 0 rs
def Log.len (l : Log) : Int := l.cut + (l.rows.length : Int)
def Log.grp (l : Log) : Option Grp := groupBehind l.group l.rows
def Log.mark (l : Log) : Int := l.cut + Oa.mark l.rows
def Log.put (l : Log) (r : Row) : Log := { l with rows := l.rows ++ [r] }
/-- the greatest of some numbers (from the greatest on) from which on enough have it -/
def atLeast (known : List (Int × Int)) (c : Int) : List Int := (known.filter fun p => decide (c ≤ p.2)).map (·.1)
def bestOf (g : Grp) (known : List (Int × Int)) : Option Int := (desc (known.map (·.2))).find? fun c => isEnough g (atLeast known c)
def knownTimes (me : Int) (stamp : Option Int) (acks : List (Int × Int × Int)) : List (Int × Int) := acks.map (fun a => (a.1, a.2.2)) ++ (match stamp with | none => [] | some t => [(me, t)])
def knownCounts (me len : Int) (acks : List (Int × Int × Int)) : List (Int × Int) := (me, len) :: (acks.filter fun a => !decide (a.1 = me)).map fun a => (a.1, a.2.1)
def readsUntil (g : Grp) (me lease : Int) (stamp : Option Int) (acks : List (Int × Int × Int)) : Option Int := (bestOf g (knownTimes me stamp acks)).map (· + lease)
def mayRead (g : Grp) (me time lease settled start : Int) (stamp : Option Int) (acks : List (Int × Int × Int)) : Bool := match readsUntil g me lease stamp acks with
  | none => false
  | some u => decide (time < u) && decide (start ≤ settled)
def mayPut (l : Log) (settled : Int) (g : Grp) (r : Row) : Bool := if decide (60 ≤ l.len) || (groupAfter g r).isNone then false else isDeed r || decide (l.mark ≤ settled)
def pick (settled : Int) : Option Int → Int
  | some c => if settled < c then c else settled
  | none => settled
def anew (g : Grp) (known : List (Int × Int)) (settled : Int) : Int := pick settled (bestOf g known)
def House.settledAnew (h : House) (g : Grp) (me : Int) (acks : List (Int × Int × Int)) : House := { h with settled := anew g (knownCounts me h.log.len acks) h.settled }
def House.sent (h : House) (start : Int) (acks : List (Int × Int × Int)) (time lease : Int) : House := { h with until_ := max h.until_ (time + lease), role := .heads start (some time) acks }
def toldLog (h : House) (w : Int) (other : Log) : Log := if h.taken < w ∨ h.log.len < other.len then other else h.log
def House.told (h : House) (w : Int) (other : Log) (known time lease : Int) : House :=
  { which := w, taken := w, log := toldLog h w other, settled := max h.settled (min known (toldLog h w other).len), until_ := max h.until_ (time + lease), role := .rests }
/-- acks_with, but for the order -/
def ackMax (acks : List (Int × Int × Int)) (one count time : Int) : Int × Int := acks.foldl (fun p a => if a.1 = one then (max p.1 a.2.1, max p.2 a.2.2) else p) (count, time)
def acksNew (acks : List (Int × Int × Int)) (one count time : Int) : List (Int × Int × Int) := (acks.filter fun a => !decide (a.1 = one)) ++ [(one, (ackMax acks one count time).1, (ackMax acks one count time).2)]
/-! no lists in them -/
theorem imm_set {s : List Int} : imm (setD s) = true := by
  unfold setD imm
  exact imm_ints
theorem immS_map {α : Type} {f : α → D} (h : ∀ a, imm (f a) = true) : ∀ l : List α, immS (l.map f) = true
  | [] => rfl
  | a :: l => by
    rw [List.map_cons]
    unfold immS
    rw [h a, immS_map h l]
    rfl
theorem imm_grp {g : Grp} : imm (grpD g) = true := by
  unfold grpD imm
  exact immS_map (fun _ => imm_set) g
theorem imm_row (r : Row) : imm r.d = true := by
  cases r with
  | deed c n x => cases x <;> rfl
  | change s =>
    show (true && (imm (setD s) && true)) = true
    rw [imm_set]
    rfl
  | close => rfl
theorem imm_rows (l : List Row) : immS (rowsD l) = true := immS_map imm_row l
theorem imm_ack (a : Int × Int × Int) : imm (ackD a) = true := rfl
theorem imm_opt (o : Option Int) : imm (optD o) = true := by cases o <;> rfl
theorem imm_role (r : Role) : imm r.d = true := by
  cases r with
  | rests => rfl
  | heads s t a =>
    show (true && (true && (imm (optD t) && (immS (a.map ackD) && true)))) = true
    rw [imm_opt, immS_map imm_ack]
    rfl
theorem imm_log {l : Log} (h : imm l.store = true) : imm l.d = true := by
  show (true && (imm l.store && (imm (grpD l.group) && (immS (rowsD l.rows) && true)))) = true
  rw [h, imm_grp, imm_rows]
  rfl
theorem imm_house {h : House} (hl : imm h.log.store = true) : imm h.d = true := by
  show (true && (true && (imm h.log.d && (true && (true && (true && (imm h.role.d && true))))))) = true
  rw [imm_log hl, imm_role]
  rfl
def Letter.store : Letter → D
  | .rows _ l _ _ => l.store
  | .got _ _ _ _ => .non
theorem imm_letter {l : Letter} (h : imm l.store = true) : imm l.d = true := by
  cases l with
  | rows w l k t =>
    show (true && (true && (imm l.d && (true && (true && true))))) = true
    rw [imm_log h]
    rfl
  | got => rfl
end Oa
/-! Groups, rows, logs. -/
namespace Oa
open PySem L2
theorem spR_len {R : List D → D → Prop} {vs : List V} {H : Hp} {Q : VK} {E : XK} {n : Nat} (h : spR R vs H Q E) (hn : ∀ ds d, R ds d → ds.length = n) : vs.length = n := by
  obtain ⟨ds, d, r, hR, _⟩ := h
  rw [r.length]
  exact hn ds d hR
theorem rd_ixT' {K : PySem.W.Frag} {ds : List D} {d : D} {n : Int} (h : ds[n.toNat]? = some d) (h0 : 0 ≤ n) : RD (rIxT K) (.tup ds) (.int n) d := rd_ixT (by omega) h
local macro_rules | `(tactic| walk_at "ed") => `(tactic| (repeat' (first
  | exact ed_var rfl
  | exact ed_int
  | exact ed_str
  | exact ed_bl
  | exact ed_non
  | exact ea_nil
  | apply ea_cons
  | (apply ed_tup; rotate_left 1; (show _ ≤ _; simp))
  | apply ed_op
  | apply ed_cb
  | apply ed_call
  | apply et_test
  | apply et_not
  | refine' et_and ?_ (fun _ => ?_)
  | refine' et_or ?_ (fun _ => ?_)
  | exact rd_ixT' rfl (by decide)
  | exact rd_ii
  | exact rd_ib
  | exact rd_eqI
  | exact rd_neI
  | exact rd_eqS
  | exact rd_neS
  | exact rd_isN'
  | exact rd_notN'
  | exact rc_lenL
  | exact rc_lenT
  | exact rc_max
  | exact rc_min)))
theorem fm_congr {α β : Type} {f g : α → Option β} : ∀ {l : List α}, (∀ a ∈ l, f a = g a) → l.filterMap f = l.filterMap g
  | [], _ => rfl
  | a :: l, h => by
    rw [List.filterMap_cons, List.filterMap_cons, h a List.mem_cons_self, fm_congr fun b hb => h b (List.mem_cons_of_mem _ hb)]
section
variable {δ : DE} {c : TT} {ts us : TS} {b : Bool} {Nx : DE → Prop} {Rt : D → Prop}
theorem sd_skip (h : EtD c δ b) (hb : b = false) (k : SD us δ Nx Rt) : SD (tSeq (tIfS c ts tNext) us) δ Nx Rt := by
  subst hb
  exact sd_one (sd_if h (fun z => nomatch z) fun _ => sd_next rfl) k
theorem sd_take {ws : TS} (h : EtD c δ b) (hb : b = true) (k : SD ts δ (fun _ => False) Rt) : SD (tSeq (tIfS c ts ws) us) δ Nx Rt := by
  subst hb
  exact sd_seq (sd_if h (fun _ => k) fun z => nomatch z) fun _ z => z.elim
end
/-! ### promises -/
def GOk (g : Grp) : Prop := g.length ≤ 1000 ∧ ∀ s ∈ g, s.length ≤ 1000
def Rp_is_enough (ds : List D) (d : D) : Prop := ∃ (g : Grp) (hs : List Int), ds = [grpD g, .lst (hs.map D.int)] ∧ GOk g ∧ d = .bl (isEnough g hs)
def Rp_group_after (ds : List D) (d : D) : Prop := ∃ (g : Grp) (r : Row), ds = [grpD g, r.d] ∧ d = grpO (groupAfter g r)
def Rp_group_behind (ds : List D) (d : D) : Prop := ∃ (g : Grp) (rows : List Row), (ds = [grpD g, .tup (rowsD rows)] ∨ ds = [grpD g, .lst (rowsD rows)]) ∧ d = grpO (groupBehind g rows)
def Rp_mark (ds : List D) (d : D) : Prop := ∃ rows : List Row, ds = [.tup (rowsD rows)] ∧ d = .int (mark rows)
def Rp_length (ds : List D) (d : D) : Prop := ∃ l : Log, ds = [l.d] ∧ d = .int l.len
def Rp_log_group (ds : List D) (d : D) : Prop := ∃ l : Log, ds = [l.d] ∧ d = grpO l.grp
def Rp_log_mark (ds : List D) (d : D) : Prop := ∃ l : Log, ds = [l.d] ∧ d = .int l.mark
def Rp_put (ds : List D) (d : D) : Prop := ∃ (l : Log) (r : Row), ds = [l.d, r.d] ∧ l.rows.length < 1000 ∧ d = (l.put r).d
theorem pr_is_enough {g : Grp} {hs : List Int} (hg : GOk g) : Pr (spR Rp_is_enough) [grpD g, .lst (hs.map D.int)] (.bl (isEnough g hs)) := pr_R ⟨g, hs, rfl, hg, rfl⟩
theorem pr_group_after {g : Grp} {r : Row} : Pr (spR Rp_group_after) [grpD g, r.d] (grpO (groupAfter g r)) := pr_R ⟨g, r, rfl, rfl⟩
theorem pr_group_behindT {g : Grp} {rows : List Row} : Pr (spR Rp_group_behind) [grpD g, .tup (rowsD rows)] (grpO (groupBehind g rows)) := pr_R ⟨g, rows, .inl rfl, rfl⟩
theorem pr_group_behindL {g : Grp} {rows : List Row} : Pr (spR Rp_group_behind) [grpD g, .lst (rowsD rows)] (grpO (groupBehind g rows)) := pr_R ⟨g, rows, .inr rfl, rfl⟩
theorem pr_mark {rows : List Row} : Pr (spR Rp_mark) [.tup (rowsD rows)] (.int (mark rows)) := pr_R ⟨rows, rfl, rfl⟩
theorem pr_length {l : Log} : Pr (spR Rp_length) [l.d] (.int l.len) := pr_R ⟨l, rfl, rfl⟩
theorem pr_log_group {l : Log} : Pr (spR Rp_log_group) [l.d] (grpO l.grp) := pr_R ⟨l, rfl, rfl⟩
theorem pr_log_mark {l : Log} : Pr (spR Rp_log_mark) [l.d] (.int l.mark) := pr_R ⟨l, rfl, rfl⟩
theorem pr_put {l : Log} {r : Row} (h : l.rows.length < 1000) : Pr (spR Rp_put) [l.d, r.d] ((l.put r).d) := pr_R ⟨l, r, rfl, h, rfl⟩
theorem isNon_grpO {o : Option Grp} : isNon (grpO o) = o.isNone := by
  cases o <;> rfl
theorem rows_get {rows : List Row} {i : Nat} {d : D} (h : (rowsD rows)[i]? = some d) : ∃ r, rows[i]? = some r ∧ d = r.d := by
  unfold rowsD at h
  rw [List.getElem?_map] at h
  cases e : rows[i]? with
  | none =>
    rw [e] at h
    cases h
  | some r =>
    rw [e] at h
    exact ⟨r, rfl, (Option.some.inj h).symm⟩
theorem drop_get {α : Type} {l : List α} {i : Nat} {x : α} (h : l[i]? = some x) : l.drop i = x :: l.drop (i + 1) := by
  obtain ⟨h1, h2⟩ := List.getElem?_eq_some_iff.mp h
  rw [List.drop_eq_getElem_cons h1, h2]
def scOuter_is_enough : Scope := match defBody s_is_enough with
  | [.Return (some (.Call _ [.ListComp _ _ sc _] _ _)) _] => sc
  | _ => { kind := .function, names := [], isGenerator := false, isCoroutine := false }
theorem fm_len {hs : List Int} : ∀ {s : List Int}, ((s.map D.int).filterMap fun x => match x with | .int n => if n ∈ hs then some (D.int n) else none | _ => none).length = (s.filter fun h => decide (h ∈ hs)).length
  | [] => rfl
  | n :: s => by
    have ih := fm_len (hs := hs) (s := s)
    rw [List.map_cons, List.filterMap_cons, List.filter_cons]
    by_cases hn : n ∈ hs
    · simp only [hn, if_true, decide_true, List.length_cons]
      rw [ih]
    · simp only [hn, if_false, decide_false]
      rw [ih]
      simp
section
variable {P : Program} {w : World} {K : PySem.W.Frag} {mg : Str → Option Value} {base : Heap} (T : Defs K mg)
theorem ok_is_enough : FnOk P w K mg base CX0 1 T.is_enough.f T.is_enough.fd ["group", "houses"] (spR Rp_is_enough) := by
  refine T.is_enough.F.ok sc_is_enough (fun vs H Q E h => spR_len h fun ds d ⟨_, _, e, _⟩ => by rw [e]; rfl) (fun cdv A outer s H vs Q E hr h => ?_)
  refine ⟨_,
    (pss_one (ps_ret (pe_callB (k_all (K := K) rfl rfl) (by rfl) T.n_all bb_all (pa_cons (pe_lc (own := [("one", 2)]) rfl sc_is_enough.nd (k_piT (K := K) rfl (pv 0)) (blkOk_by (N := nN_is_enough) (sc := defScope s_is_enough) (own := [("one", 2)]) (by decide +kernel)) (fun _ _ _ _ _ => (pg_name (i := 2) sc_is_enough.nd rfl (.inl rfl))) (fun _ _ _ _ _ => pts_nil) (fun _ _ _ _ _ => (pe_cmpR op_gt (pe_op op_mul pe_int (pe_callB (k_len (K := K) rfl) (by rfl) T.n_len bb_len (pa_cons (pe_lc (own := [("house", 3)]) rfl sc_is_enough.nd (k_piT (K := K) rfl (pv 2)) (blkOk_by (N := nN_is_enough) (sc := relS scOuter_is_enough (defScope s_is_enough)) (own := [("house", 3)]) (by decide +kernel)) (fun _ _ _ _ _ => (pg_name (i := 3) sc_is_enough.nd rfl (.inl rfl))) (fun _ _ _ _ _ => (pts_one (pt_cmpR (k_in (K := K) rfl) (pv 3) (pv 1) (by with_unfolding_all rfl)))) (fun _ _ _ _ _ => (pv 3))) pa_nil))) (pe_callB (k_len (K := K) rfl) (by rfl) T.n_len bb_len (pa_cons (pv 2) pa_nil)) (nomark _)))) pa_nil)))), ?_⟩
  refine body_R h fun ds d hR => ?_
  obtain ⟨g, hs, rfl, hg, rfl⟩ := hR
  refine sd_ret (d := .bl (isEnough g hs)) ?_ rfl
  have e : isEnough g hs = (g.map fun s => decide ((s.length : Int) < 2 * ((s.filter fun h => decide (h ∈ hs)).length : Int))).all id := by
    unfold isEnough
    rw [List.all_map]
    rfl
  rw [e]
  refine ed_cb (ea_cons ?_ ea_nil) rc_all
  have e2 : (g.map fun s => decide ((s.length : Int) < 2 * ((s.filter fun h => decide (h ∈ hs)).length : Int))).map D.bl = (g.map setD).filterMap (fun d => match d with | .tup ds => some (.bl (decide ((ds.length : Int) < 2 * ((ds.filterMap fun x => match x with | .int n => if n ∈ hs then some (D.int n) else none | _ => none).length : Int)))) | _ => none) := by
    rw [List.filterMap_map, List.map_map, ← List.filterMap_eq_map]
    refine fm_congr fun s _ => ?_
    show some (D.bl _) = some (D.bl _)
    rw [fm_len, List.length_map]
  rw [e2]
  refine ed_lc _ (wd_tup (ed_var rfl)) (by rw [List.length_map]; exact Nat.le_trans hg.1 (by decide)) fun d hd => ?_
  obtain ⟨s, hs', rfl⟩ := List.mem_map.mp hd
  refine ⟨_, _, fun i hi => hi, gd_name, et_yes, fun e he => ?_⟩
  cases he
  refine ⟨rfl, ?_⟩
  refine ed_op (ed_op ed_int (ed_cb (ea_cons (ed_lc (fun x => match x with | .int n => if n ∈ hs then some (D.int n) else none | _ => none) (wd_tup (ed_var rfl)) (by rw [List.length_map]; exact Nat.le_trans (hg.2 s hs') (by decide)) fun d hd => ?_) ea_nil) rc_lenL) (rd_iiC (.inl (by decide)))) (ed_cb (ea_cons (ed_var rfl) ea_nil) rc_lenT) rd_ib
  obtain ⟨n, _, rfl⟩ := List.mem_map.mp hd
  refine ⟨_, _, fun i hi => hi, gd_name, EtD.to (et_test (ed_op (ed_var rfl) (ed_var rfl) rd_inL)) ?_, fun e he => ?_⟩
  · by_cases hn : n ∈ hs
    · simp [hn]
    · simp [hn]
  · by_cases hn : n ∈ hs
    · simp [hn] at he
      subst he
      exact ⟨rfl, ed_var rfl⟩
    · simp [hn] at he
theorem sne1 : ¬ (("change" : Str) = "deed") := by decide +kernel
theorem sne2 : ¬ (("close" : Str) = "deed") := by decide +kernel
theorem sne3 : ¬ (("close" : Str) = "change") := by decide +kernel
theorem sne4 : ¬ (("change" : Str) = "close") := by decide +kernel
theorem grp_len {g : Grp} : (g.map setD).length = g.length := List.length_map ..
theorem ok_group_after : FnOk P w K mg base CX0 1 T.group_after.f T.group_after.fd ["group", "row"] (spR Rp_group_after) := by
  refine T.group_after.F.ok sc_group_after (fun vs H Q E h => spR_len h fun ds d ⟨_, _, e, _⟩ => by rw [e]; rfl) (fun cdv A outer s H vs Q E hr h => ?_)
  refine ⟨_,
    (pss_cons (ps_if (pt_cmpR op_eq (pe_ix (k_ixT (K := K) rfl) (pv 1) pe_int (fun _ _ => rfl)) pe_str (nomark _))
      (pss_one (ps_ret (pv 0))) pss_nil)
    (pss_cons (ps_if (PW.pt (pw_and (pt_cmpR op_eq (pe_ix (k_ixT (K := K) rfl) (pv 1) pe_int (fun _ _ => rfl)) pe_str (nomark _)) (pw_and1 (pt_cmpR op_eq (pe_callB (k_len (K := K) rfl) (by rfl) T.n_len bb_len (pa_cons (pv 0) pa_nil)) pe_int (nomark _)))))
      (pss_one (ps_ret (pe_tup (pa_cons (pe_ix (k_ixT (K := K) rfl) (pv 0) pe_int (fun _ _ => rfl)) (pa_cons (pe_ix (k_ixT (K := K) rfl) (pv 1) pe_int (fun _ _ => rfl)) pa_nil))))) pss_nil)
    (pss_cons (ps_if (PW.pt (pw_and (pt_cmpR op_eq (pe_ix (k_ixT (K := K) rfl) (pv 1) pe_int (fun _ _ => rfl)) pe_str (nomark _)) (pw_and1 (pt_cmpR op_eq (pe_callB (k_len (K := K) rfl) (by rfl) T.n_len bb_len (pa_cons (pv 0) pa_nil)) pe_int (nomark _)))))
      (pss_one (ps_ret (pe_tup (pa_cons (pe_ix (k_ixT (K := K) rfl) (pv 0) pe_int (fun _ _ => rfl)) pa_nil)))) pss_nil)
    (pss_one (ps_ret pe_non))))), ?_⟩
  refine body_R h fun ds d hR => ?_
  obtain ⟨g, r, rfl, rfl⟩ := hR
  cases r with
  | deed c n x =>
    refine' sd_take (by walk_at "ed") ?_ (sd_ret (ed_var rfl) rfl)
    · exact decide_eq_true rfl
  | change s =>
    refine' sd_skip (by walk_at "ed") ?_ ?_
    · exact decide_eq_false sne1
    ·
      match g with
      | [a] =>
        refine' sd_take (by walk_at "ed") ?_ (sd_ret ?_ rfl)
        · rfl
        walk_at "ed"
      | [] =>
        refine' sd_skip (by walk_at "ed") ?_ ?_
        · rfl
        refine' sd_skip (by walk_at "ed") ?_ (sd_ret ed_non rfl)
        · rfl
      | a :: b :: l =>
        refine' sd_skip (by walk_at "ed") ?_ ?_
        ·
          rw [Bool.and_eq_false_iff]
          right
          apply decide_eq_false
          rw [grp_len, List.length_cons, List.length_cons]
          omega
        refine' sd_skip (by walk_at "ed") ?_ (sd_ret ed_non rfl)
        · rfl
  | close =>
    refine' sd_skip (by walk_at "ed") ?_ ?_
    · exact decide_eq_false sne2
    ·
      refine' sd_skip (by walk_at "ed") ?_ ?_
      · rfl
      match g with
      | [a, b] =>
        refine' sd_take (by walk_at "ed") ?_ (sd_ret ?_ rfl)
        · rfl
        walk_at "ed"
      | [] =>
        refine' sd_skip (by walk_at "ed") ?_ (sd_ret ed_non rfl)
        · rfl
      | [a] =>
        refine' sd_skip (by walk_at "ed") ?_ (sd_ret ed_non rfl)
        · rfl
      | a :: b :: c :: l =>
        refine' sd_skip (by walk_at "ed") ?_ (sd_ret ed_non rfl)
        ·
          rw [Bool.and_eq_false_iff]
          right
          apply decide_eq_false
          rw [grp_len, List.length_cons, List.length_cons, List.length_cons]
          omega
theorem ok_group_behind : FnOk P w K mg base CX0 2 T.group_behind.f T.group_behind.fd ["group", "rows"] (spR Rp_group_behind) := by
  refine T.group_behind.F.ok sc_group_behind (fun vs H Q E h => spR_len h fun ds d ⟨_, _, e, _⟩ => by rcases e with e | e <;> (rw [e]; rfl)) (fun cdv A outer s H vs Q E hr h => ?_)
  obtain ⟨ds, d, r, hR, q⟩ := h
  have h : spR (fun ds' d' => ds' = ds ∧ d' = d) vs H Q E := ⟨ds, d, r, ⟨rfl, rfl⟩, q⟩
  obtain ⟨g, rows, hds, hd⟩ := hR
  have main : ∀ (X : D) (wi : TI) (tb : TS) (te : TE) (δ : DE), δ = [some (grpD g), some X, none] → WD wi δ (rowsD rows) → (∀ (g' : Grp) (r : Row), SD tb [some (grpD g'), some X, some r.d] (fun δ' => ∃ g2, groupAfter g' r = some g2 ∧ δ' = [some (grpD g2), some X, some r.d]) (fun d' => groupAfter g' r = none ∧ d' = .non)) →
      te = tVar 0 → SD (tSeq (tFor wi (gName 2) tb) (tRet te)) δ (fun _ => d = .non) (fun d' => d' = d) := by
    rintro X wi tb te δ rfl hw hb rfl
    subst hd
    refine sd_seq (Nx' := fun δ' => ∃ g' v2, δ' = [some (grpD g'), some X, v2] ∧ some g' = groupBehind g rows) (sd_for (fun i δ' => ∃ g' v2, δ' = [some (grpD g'), some X, v2] ∧ groupBehind g' (rows.drop i) = groupBehind g rows) hw ⟨g, none, rfl, by rw [List.drop_zero]⟩ ?_ ?_) ?_
    · rintro i d δ' hi ⟨g', v2, rfl, he⟩
      obtain ⟨r, hr', rfl⟩ := rows_get hi
      rw [drop_get hr'] at he
      refine ⟨_, _, gd_name, fun σ H E En hn hrt => hb g' r σ H E En (fun δ' σ' H' hN => ?_) fun d' v H' hD => ?_⟩
      · obtain ⟨g2, h2, rfl⟩ := hN
        refine hn _ σ' H' ⟨g2, _, rfl, ?_⟩
        rw [← he]
        show _ = groupBehind g' (r :: rows.drop (i + 1))
        unfold groupBehind
        rw [h2]
        cases rows.drop (i + 1) <;> rfl
      · obtain ⟨h2, rfl⟩ := hD
        refine hrt _ v H' ?_
        rw [← he]
        show _ = grpO (groupBehind g' (r :: rows.drop (i + 1)))
        unfold groupBehind
        rw [h2]
        rfl
    · rintro δ' ⟨g', v2, rfl, he⟩
      have hl : (rowsD rows).length = rows.length := List.length_map ..
      rw [hl, List.drop_length] at he
      exact ⟨g', v2, rfl, he⟩
    · rintro δ' ⟨g', v2, rfl, he⟩
      refine sd_ret (d := grpD g') (ed_var rfl) ?_
      rw [← he]
      rfl
  have bdy : ∀ (X : D) (g' : Grp) (r : Row) (sp : TS), sp = tSeq (tAsg (tCall (spR Rp_group_after) [] E0 (tCons (tVar 0) (tCons (tVar 2) tNil))) (gName 0)) (tIfS (tTest (tOp (fun x y H Q => y = .non ∧ Q (.bl (decide (x = .non))) H) (tVar 0) (tC .non))) (tRet (tC .non)) tNext) →
      SD sp [some (grpD g'), some X, some (Row.d r)] (fun δ' => ∃ g2, groupAfter g' r = some g2 ∧ δ' = [some (grpD g2), some X, some r.d]) (fun d' => groupAfter g' r = none ∧ d' = .non) := by
    rintro X g' r sp rfl
    refine sd_one (sd_set (ed_call (ea_cons (ed_var rfl) (ea_cons (ed_var rfl) ea_nil)) pr_group_after) rfl) ?_
    refine sd_if (et_test (ed_op (ed_var rfl) ed_non rd_isN')) (fun hb => ?_) (fun hb => ?_)
    · rw [isNon_grpO] at hb
      exact sd_ret ed_non ⟨Option.isNone_iff_eq_none.mp hb, rfl⟩
    · rw [isNon_grpO] at hb
      cases e : groupAfter g' r with
      | none =>
        rw [e] at hb
        cases hb
      | some g2 => exact sd_next ⟨g2, rfl, rfl⟩
  rcases hds with rfl | rfl
  · refine ⟨_,
      (pss_cons (ps_for PassesOwn.never rfl (k_piT (K := K) rfl (pv 1)) (pg_name (i := 2) sc_group_behind.nd rfl (.inl rfl))
        (pss_cons (ps_set (i := 0) sc_group_behind.nd rfl (.inl rfl) (pe_call (ok_group_after T) (hr.mono (by decide)) (by rfl) T.group_after.g T.group_after.F.kp T.group_after.b .nil pass0 (pa_cons (pv 0) (pa_cons (pv 2) pa_nil))))
        (pss_one (ps_if (pt_cmpR op_isN (pv 0) pe_non (nomark _))
          (pss_one (ps_ret pe_non)) pss_nil))))
      (pss_one (ps_ret (pv 0)))), ?_⟩
    exact body_R h fun ds' d' ⟨e1, e2⟩ => by
      subst e1 e2
      exact main _ _ _ _ _ rfl (wd_tup (ed_var rfl)) (fun g' r => bdy _ g' r _ rfl) rfl
  · refine ⟨_,
      (pss_cons (ps_for PassesOwn.never rfl (k_piL (K := K) rfl (pv 1)) (pg_name (i := 2) sc_group_behind.nd rfl (.inl rfl))
        (pss_cons (ps_set (i := 0) sc_group_behind.nd rfl (.inl rfl) (pe_call (ok_group_after T) (hr.mono (by decide)) (by rfl) T.group_after.g T.group_after.F.kp T.group_after.b .nil pass0 (pa_cons (pv 0) (pa_cons (pv 2) pa_nil))))
        (pss_one (ps_if (pt_cmpR op_isN (pv 0) pe_non (nomark _))
          (pss_one (ps_ret pe_non)) pss_nil))))
      (pss_one (ps_ret (pv 0)))), ?_⟩
    exact body_R h fun ds' d' ⟨e1, e2⟩ => by
      subst e1 e2
      exact main _ _ _ _ _ rfl (wd_list (ed_var rfl)) (fun g' r => bdy _ g' r _ rfl) rfl
theorem ok_mark : FnOk P w K mg base CX0 1 T.mark.f T.mark.fd ["rows"] (spR Rp_mark) := by
  refine T.mark.F.ok sc_mark (fun vs H Q E h => spR_len h fun ds d ⟨_, e, _⟩ => by rw [e]; rfl) (fun cdv A outer s H vs Q E hr h => ?_)
  refine ⟨_,
    (pss_cons (ps_set (i := 1) sc_mark.nd rfl (.inl rfl) pe_int)
    (pss_cons (ps_for PassesOwn.never rfl (pi_enumT (K := K) rfl (by rfl) T.n_enumerate (pa_cons (pv 0) pa_nil)) (k_pgT (K := K) (n := 2) rfl (by rfl) (pgs_cons (pg_name (i := 2) sc_mark.nd rfl (.inl rfl)) (pgs_cons (pg_name (i := 3) sc_mark.nd rfl (.inl rfl)) pgs_nil)))
      (pss_one (ps_if (pt_cmpR op_ne (pe_ix (k_ixT (K := K) rfl) (pv 3) pe_int (fun _ _ => rfl)) pe_str (nomark _))
        (pss_one (ps_set (i := 1) sc_mark.nd rfl (.inl rfl) (pe_op op_add (pv 2) pe_int))) pss_nil)))
    (pss_one (ps_ret (pv 1))))), ?_⟩
  refine body_R h fun ds d hR => ?_
  obtain ⟨rows, rfl, rfl⟩ := hR
  refine sd_one (sd_set ed_int rfl) ?_
  refine sd_seq (Nx' := fun δ' => ∃ v2 v3, δ' = [some (.tup (rowsD rows)), some (.int (mark rows)), v2, v3]) (sd_for (fun i δ' => ∃ f v2 v3, δ' = [some (.tup (rowsD rows)), some (.int f), v2, v3] ∧ markFrom (i : Int) f (rows.drop i) = mark rows) (wd_enumT (ea_cons (ed_var rfl) ea_nil)) ⟨0, none, none, rfl, by rw [List.drop_zero]; rfl⟩ ?_ ?_) ?_
  · rintro i d δ' hi ⟨f, v2, v3, rfl, he⟩
    have hl : i < (rowsD rows).length := by
      have := (List.getElem?_eq_some_iff.mp hi).1
      rw [enD_len] at this
      exact this
    obtain ⟨d2, hd2⟩ : ∃ d2, (rowsD rows)[i]? = some d2 := ⟨_, List.getElem?_eq_getElem hl⟩
    rw [enD_get hd2] at hi
    cases hi
    obtain ⟨r, hr', rfl⟩ := rows_get hd2
    rw [drop_get hr'] at he
    refine ⟨_, _, gd_tup (gds_cons gd_name (gds_cons gd_name gds_nil)) rfl, ?_⟩
    have hz : ∃ z rest, r.d = .tup (.str z :: rest) ∧ (!decide (z = "deed")) = !isDeed r := by
      cases r with
      | deed c n x => exact ⟨_, _, rfl, by rw [decide_eq_true rfl]; rfl⟩
      | change s => exact ⟨_, _, rfl, by rw [decide_eq_false sne1]; rfl⟩
      | close => exact ⟨_, _, rfl, by rw [decide_eq_false sne2]; rfl⟩
    obtain ⟨z, rest, hz1, hz2⟩ := hz
    have he2 : markFrom ((i : Int) + 1) (if isDeed r then f else (i : Int) + 1) (rows.drop (i + 1)) = mark rows := he
    refine sd_if (b := !isDeed r) (EtD.to (b := !decide (z = "deed")) (et_test (ed_op (ed_op (ed_var (d := .tup (.str z :: rest)) (by rw [← hz1]; rfl)) ed_int (rd_ixT' rfl (by decide))) ed_str rd_neS)) hz2) (fun hb => ?_) (fun hb => ?_)
    · have hd : isDeed r = false := by simpa using hb
      rw [hd] at he2
      exact sd_set (ed_op (ed_var rfl) ed_int rd_ii) ⟨_, _, _, rfl, he2⟩
    · have hd : isDeed r = true := by simpa using hb
      rw [hd] at he2
      exact sd_next ⟨_, _, _, rfl, he2⟩
  · rintro δ' ⟨f, v2, v3, rfl, he⟩
    have hl : (enD (rowsD rows)).length = rows.length := by
      rw [enD_len]
      exact List.length_map ..
    rw [hl, List.drop_length] at he
    exact ⟨v2, v3, by rw [← he]; rfl⟩
  · rintro δ' ⟨v2, v3, rfl⟩
    exact sd_ret (ed_var rfl) rfl
theorem ok_length : FnOk P w K mg base CX0 1 T.length.f T.length.fd ["log"] (spR Rp_length) := by
  refine T.length.F.ok sc_length (fun vs H Q E h => spR_len h fun ds d ⟨_, e, _⟩ => by rw [e]; rfl) (fun cdv A outer s H vs Q E hr h => ?_)
  refine ⟨_,
    (pss_one (ps_ret (pe_op op_add (pe_ix (k_ixT (K := K) rfl) (pv 0) pe_int (fun _ _ => rfl)) (pe_callB (k_len (K := K) rfl) (by rfl) T.n_len bb_len (pa_cons (pe_ix (k_ixT (K := K) rfl) (pv 0) pe_int (fun _ _ => rfl)) pa_nil))))), ?_⟩
  refine body_R h fun ds d hR => ?_
  obtain ⟨l, rfl, rfl⟩ := hR
  refine sd_ret (EvD.to (by walk_at "ed") ?_) rfl
  show D.int _ = D.int _
  unfold Log.len
  rw [show (rowsD l.rows).length = l.rows.length from List.length_map ..]
theorem ok_log_group : FnOk P w K mg base CX0 3 T.log_group.f T.log_group.fd ["log"] (spR Rp_log_group) := by
  refine T.log_group.F.ok sc_log_group (fun vs H Q E h => spR_len h fun ds d ⟨_, e, _⟩ => by rw [e]; rfl) (fun cdv A outer s H vs Q E hr h => ?_)
  refine ⟨_,
    (pss_one (ps_ret (pe_call (ok_group_behind T) (hr.mono (by decide)) (by rfl) T.group_behind.g T.group_behind.F.kp T.group_behind.b .nil pass0 (pa_cons (pe_ix (k_ixT (K := K) rfl) (pv 0) pe_int (fun _ _ => rfl)) (pa_cons (pe_ix (k_ixT (K := K) rfl) (pv 0) pe_int (fun _ _ => rfl)) pa_nil))))), ?_⟩
  refine body_R h fun ds d hR => ?_
  obtain ⟨l, rfl, rfl⟩ := hR
  refine sd_ret (ed_call (ea_cons ?_ (ea_cons ?_ ea_nil)) pr_group_behindT) rfl
  · walk_at "ed"
  · walk_at "ed"
theorem ok_log_mark : FnOk P w K mg base CX0 2 T.log_mark.f T.log_mark.fd ["log"] (spR Rp_log_mark) := by
  refine T.log_mark.F.ok sc_log_mark (fun vs H Q E h => spR_len h fun ds d ⟨_, e, _⟩ => by rw [e]; rfl) (fun cdv A outer s H vs Q E hr h => ?_)
  refine ⟨_,
    (pss_one (ps_ret (pe_op op_add (pe_ix (k_ixT (K := K) rfl) (pv 0) pe_int (fun _ _ => rfl)) (pe_call (ok_mark T) (hr.mono (by decide)) (by rfl) T.mark.g T.mark.F.kp T.mark.b .nil pass0 (pa_cons (pe_ix (k_ixT (K := K) rfl) (pv 0) pe_int (fun _ _ => rfl)) pa_nil))))), ?_⟩
  refine body_R h fun ds d hR => ?_
  obtain ⟨l, rfl, rfl⟩ := hR
  refine sd_ret (ed_op ?_ (ed_call (ea_cons ?_ ea_nil) pr_mark) rd_ii) rfl
  · walk_at "ed"
  · walk_at "ed"
theorem ok_put : FnOk P w K mg base CX0 1 T.put.f T.put.fd ["log", "row"] (spR Rp_put) := by
  refine T.put.F.ok sc_put (fun vs H Q E h => spR_len h fun ds d ⟨_, _, e, _⟩ => by rw [e]; rfl) (fun cdv A outer s H vs Q E hr h => ?_)
  refine ⟨_,
    (pss_cons (ps_asg (pv 0) (k_pgT (K := K) (n := 4) rfl (by rfl) (pgs_cons (pg_name (i := 2) sc_put.nd rfl (.inl rfl)) (pgs_cons (pg_name (i := 3) sc_put.nd rfl (.inl rfl)) (pgs_cons (pg_name (i := 4) sc_put.nd rfl (.inl rfl)) (pgs_cons (pg_name (i := 5) sc_put.nd rfl (.inl rfl)) pgs_nil))))))
    (pss_one (ps_ret (pe_tup (pa_cons (pv 2) (pa_cons (pv 3) (pa_cons (pv 4) (pa_cons (pe_op (k_catT (K := K) rfl) (pv 5) (pe_tup (pa_cons (pv 1) pa_nil))) pa_nil)))))))), ?_⟩
  refine body_R h fun ds d hR => ?_
  obtain ⟨l, r, rfl, hl, rfl⟩ := hR
  refine sd_one (sd_asg (ed_var rfl) (gd_tup (gds_cons gd_name (gds_cons gd_name (gds_cons gd_name (gds_cons gd_name gds_nil)))) rfl) rfl) ?_
  refine sd_ret (ed_tup (ea_cons (ed_var rfl) (ea_cons (ed_var rfl) (ea_cons (ed_var rfl) (ea_cons (ed_op (ed_var rfl) (ed_tup (ea_cons (ed_var rfl) ea_nil) (by simp)) (rd_catT ?_)) ea_nil)))) (by simp)) ?_
  · have : (rowsD l.rows).length = l.rows.length := List.length_map ..
    rw [this]
    exact hl
  · show D.tup _ = D.tup _
    unfold Log.put rowsD
    rw [List.map_append]
    rfl
end
end Oa
/-! Leases, houses, telling. -/
namespace Oa
open PySem L2
local macro_rules | `(tactic| walk_at "ed") => `(tactic| (repeat' (first
  | exact ed_var rfl
  | exact ed_int
  | exact ed_str
  | exact ed_bl
  | exact ed_non
  | exact ea_nil
  | apply ea_cons
  | (apply ed_tup; rotate_left 1; (show _ ≤ _; simp))
  | apply ed_op
  | apply ed_cb
  | apply ed_call
  | apply et_test
  | apply et_B
  | apply et_not
  | refine' et_and ?_ (fun _ => ?_)
  | refine' et_or ?_ (fun _ => ?_)
  | exact rd_ixT' rfl (by decide)
  | exact rd_ii
  | exact rd_ib
  | exact rd_eqI
  | exact rd_neI
  | exact rd_eqS
  | exact rd_neS
  | exact rd_isN'
  | exact rd_notN'
  | exact rc_lenL
  | exact rc_lenT
  | exact rc_max
  | exact rc_min
  | exact pr_length
  | exact pr_log_group
  | exact pr_log_mark
  | exact pr_group_behindT
  | exact pr_group_behindL)))
/-! ### a pair of a datum and a new list handed back -/
def spL (R : List D → D → List D → Prop) : Sp := fun vs H Q _ => ∃ ds d es, RpS H ds vs ∧ R ds d es ∧ ∀ p l v ws H', Ex H H' → H l = none → H' p = some (.tup [v, .ref l]) → H' l = some (.lst ws) → Rp H' d v → RpS H' es ws → Q (.ref p) H'
theorem spL_len {R : List D → D → List D → Prop} {vs : List V} {H : Hp} {Q : VK} {E : XK} {n : Nat} (h : spL R vs H Q E) (hn : ∀ ds d es, R ds d es → ds.length = n) : vs.length = n := by
  obtain ⟨ds, d, es, r, hR, _⟩ := h
  rw [r.length]
  exact hn ds d es hR
def SDL (ts : TS) (δ : DE) (d : D) (es : List D) : Prop := ∀ σ H, Env σ H δ → ∀ En : Ends, (∀ p l v ws H', Ex H H' → H l = none → H' p = some (.tup [v, .ref l]) → H' l = some (.lst ws) → Rp H' d v → RpS H' es ws → En.rt (.ref p) H') → ts En σ H
section
variable {δ δ1 : DE} {c : TT} {ts us ws : TS} {b : Bool} {d : D} {es : List D} {te tf : TE}
theorem sdl_one (h : SD ts δ (fun δ' => δ' = δ1) (fun _ => False)) (k : SDL us δ1 d es) : SDL (tSeq ts us) δ d es := fun σ H E En q =>
  h σ H E { En with nx := us En } (fun δ' σ' H' n e E' => by
    subst n
    exact k σ' H' E' En fun p l v ws H2 e2 hl => q p l v ws H2 (e.trans e2) (e.free hl)) fun _ _ _ z => z.elim
theorem sdl_skip (h : EtD c δ b) (hb : b = false) (k : SDL us δ d es) : SDL (tSeq (tIfS c ts tNext) us) δ d es := by
  subst hb
  exact sdl_one (sd_if h (fun z => nomatch z) fun _ => sd_next rfl) k
theorem sdl_take (h : EtD c δ b) (hb : b = true) (k : SDL ts δ d es) : SDL (tSeq (tIfS c ts ws) us) δ d es := fun σ H E En q =>
  h σ H E _ fun H1 e1 => by
    subst hb
    rw [if_pos rfl]
    exact k σ H1 (E.mono e1) _ fun p l v ws H2 e2 hl => q p l v ws H2 (e1.trans e2) (e1.free hl)
theorem sdl_ret (h : EvD te δ d) (hl : EvN tf δ es) : SDL (tRet (tTup (tCons te (tCons tf tNil)))) δ d es := fun σ H E En q =>
  h σ H E _ fun v H1 e1 r1 => hl σ H1 (E.mono e1) _ fun l ws H2 hn e2 h2 r2 => ⟨by show 2 ≤ sizeLine; decide, fun p hp => q p l v ws _ ((e1.trans e2).trans (ex_new hp)) (e1.free hn) upd_same (by rw [upd_ne (ne_of_none h2 hp)]; exact h2) (r1.mono (e2.trans (ex_new hp))) (r2.mono (ex_new hp))⟩
theorem en_nil : EvN (tLst tNil) δ [] := en_lst ea_nil (by decide)
end
theorem body_L {R : List D → D → List D → Prop} {N : List Str} {vs : List V} {H : Hp} {Q : VK} {E : XK} {ts : TS} (h : spL R vs H Q E) (hb : ∀ ds d es, R ds d es → SDL ts (startD N.length ds) d es) :
    ts { nx := fun _ H' => Q .non H', rt := Q } (L2.start N vs) H := by
  obtain ⟨ds, d, es, r, hR, q⟩ := h
  exact hb ds d es hR _ H (env_start r) _ q
/-! ### promises -/
def ackI (a : Int × Int × Int) : List Item := [.inl a.1, .inl a.2.1, .inl a.2.2]
def sortA (l : List (Int × Int × Int)) : List (Int × Int × Int) := l.mergeSort fun a b => leI (ackI a) (ackI b)
theorem sortA_perm (l : List (Int × Int × Int)) : (sortA l).Perm l := List.mergeSort_perm l _
theorem sortA_eq (l : List (Int × Int × Int)) : (sortI (l.map ackI)).map tupI = (sortA l).map ackD := by
  have h : (sortA l).map ackI = sortI (l.map ackI) := by
    refine sortI_eq ((sortA_perm l).map _) ?_
    rw [List.pairwise_map]
    exact List.pairwise_mergeSort (le := fun a b => leI (ackI a) (ackI b)) (fun a b c => leI_trans (ackI a) (ackI b) (ackI c)) (fun a b => leI_total (ackI a) (ackI b)) l
  rw [← h, List.map_map]
  rfl
def Rp_owner (ds : List D) (d : D) : Prop := ∃ which many : Int, ds = [.int which, .int many] ∧ 0 < many ∧ d = .int ((which - 1) % many)
/-- a head, its log's group known -/
structure IsHead (h : House) (start : Int) (stamp : Option Int) (acks : List (Int × Int × Int)) (g : Grp) : Prop where
  role : h.role = .heads start stamp acks
  grp : h.log.grp = some g
  ok : GOk g
  few : acks.length < 900
def Rp_reads_until (ds : List D) (d : D) : Prop := ∃ (h : House) (me lease start : Int) (stamp : Option Int) (acks : List (Int × Int × Int)) (g : Grp), ds = [h.d, .int me, .int lease] ∧ IsHead h start stamp acks g ∧ d = optD (readsUntil g me lease stamp acks)
def Rp_may_read (ds : List D) (d : D) : Prop := ∃ (h : House) (me time lease start : Int) (stamp : Option Int) (acks : List (Int × Int × Int)) (g : Grp), ds = [h.d, .int me, .int time, .int lease] ∧ IsHead h start stamp acks g ∧ d = .bl (mayRead g me time lease h.settled start stamp acks)
def Rp_may_put (ds : List D) (d : D) : Prop := ∃ (h : House) (r : Row) (g : Grp), ds = [h.d, r.d] ∧ h.log.grp = some g ∧ d = .bl (mayPut h.log h.settled g r)
def Rp_settled_anew (ds : List D) (d : D) : Prop := ∃ (h : House) (me start : Int) (stamp : Option Int) (acks : List (Int × Int × Int)) (g : Grp), ds = [h.d, .int me] ∧ IsHead h start stamp acks g ∧ d = (h.settledAnew g me acks).d
def Rp_sent (ds : List D) (d : D) (es : List D) : Prop := ∃ (h : House) (time lease start : Int) (stamp : Option Int) (acks : List (Int × Int × Int)), ds = [h.d, .int time, .int lease] ∧ h.role = .heads start stamp acks ∧ d = (h.sent start acks time lease).d ∧ es = [(Letter.rows h.which h.log h.settled time).d]
def Rp_told (ds : List D) (d : D) (es : List D) : Prop := ∃ (h : House) (me many w : Int) (l : Log) (k t lease : Int), ds = [h.d, .int me, .int many, (Letter.rows w l k t).d, .int lease] ∧ 0 < many ∧
  (((w < h.which ∨ (w - 1) % many = me) ∧ d = h.d ∧ es = []) ∨ (¬ (w < h.which ∨ (w - 1) % many = me) ∧ d = (h.told w l k t lease).d ∧ es = [(Letter.got w me (h.told w l k t lease).log.len t).d]))
def Rp_acks_with (ds : List D) (d : D) : Prop := ∃ (acks : List (Int × Int × Int)) (one count time : Int), ds = [acksD acks, .int one, .int count, .int time] ∧ acks.length < 900 ∧ d = acksD (sortA (acksNew acks one count time))
def House.counted (h : House) (g : Grp) (me start : Int) (stamp : Option Int) (acks : List (Int × Int × Int)) (o c t : Int) : House := ({ h with role := .heads start stamp (sortA (acksNew acks o c t)) } : House).settledAnew g me (sortA (acksNew acks o c t))
def Rp_counted (ds : List D) (d : D) : Prop := ∃ (h : House) (me start : Int) (stamp : Option Int) (acks : List (Int × Int × Int)) (g : Grp) (o c t : Int), ds = [h.d, .int me, (Letter.got h.which o c t).d] ∧ IsHead h start stamp acks g ∧ acks.length < 899 ∧ d = .tup [(h.counted g me start stamp acks o c t).d, .lst []]
def House.written (h : House) (g : Grp) (me : Int) (acks : List (Int × Int × Int)) (r : Row) : House := ({ h with log := h.log.put r } : House).settledAnew g me acks
def Rp_written (ds : List D) (d : D) : Prop := ∃ (h : House) (me start : Int) (stamp : Option Int) (acks : List (Int × Int × Int)) (g : Grp) (r : Row), ds = [h.d, .int me, r.d] ∧ h.log.rows.length < 1000 ∧ IsHead { h with log := h.log.put r } start stamp acks g ∧ d = .tup [(h.written g me acks r).d, .lst []]
theorem pr_owner {which many : Int} (h : 0 < many) : Pr (spR Rp_owner) [.int which, .int many] (.int ((which - 1) % many)) := pr_R ⟨which, many, rfl, h, rfl⟩
theorem pr_reads_until {h : House} {me lease start : Int} {stamp : Option Int} {acks : List (Int × Int × Int)} {g : Grp} (i : IsHead h start stamp acks g) : Pr (spR Rp_reads_until) [h.d, .int me, .int lease] (optD (readsUntil g me lease stamp acks)) := pr_R ⟨h, me, lease, start, stamp, acks, g, rfl, i, rfl⟩
theorem pr_may_read {h : House} {me time lease start : Int} {stamp : Option Int} {acks : List (Int × Int × Int)} {g : Grp} (i : IsHead h start stamp acks g) : Pr (spR Rp_may_read) [h.d, .int me, .int time, .int lease] (.bl (mayRead g me time lease h.settled start stamp acks)) := pr_R ⟨h, me, time, lease, start, stamp, acks, g, rfl, i, rfl⟩
theorem pr_may_put {h : House} {r : Row} {g : Grp} (i : h.log.grp = some g) : Pr (spR Rp_may_put) [h.d, r.d] (.bl (mayPut h.log h.settled g r)) := pr_R ⟨h, r, g, rfl, i, rfl⟩
theorem pr_settled_anew {h : House} {me start : Int} {stamp : Option Int} {acks : List (Int × Int × Int)} {g : Grp} (i : IsHead h start stamp acks g) : Pr (spR Rp_settled_anew) [h.d, .int me] ((h.settledAnew g me acks).d) := pr_R ⟨h, me, start, stamp, acks, g, rfl, i, rfl⟩
theorem pr_acks_with {acks : List (Int × Int × Int)} {one count time : Int} (h : acks.length < 900) : Pr (spR Rp_acks_with) [acksD acks, .int one, .int count, .int time] (acksD (sortA (acksNew acks one count time))) := pr_R ⟨acks, one, count, time, rfl, h, rfl⟩
theorem pr_counted {h : House} {me start : Int} {stamp : Option Int} {acks : List (Int × Int × Int)} {g : Grp} {o c t : Int} (i : IsHead h start stamp acks g) (hl : acks.length < 899) : Pr (spR Rp_counted) [h.d, .int me, (Letter.got h.which o c t).d] (.tup [(h.counted g me start stamp acks o c t).d, .lst []]) := pr_R ⟨h, me, start, stamp, acks, g, o, c, t, rfl, i, hl, rfl⟩
theorem pr_written {h : House} {me start : Int} {stamp : Option Int} {acks : List (Int × Int × Int)} {g : Grp} {r : Row} (hl : h.log.rows.length < 1000) (i : IsHead { h with log := h.log.put r } start stamp acks g) : Pr (spR Rp_written) [h.d, .int me, r.d] (.tup [(h.written g me acks r).d, .lst []]) := pr_R ⟨h, me, start, stamp, acks, g, r, rfl, hl, i, rfl⟩
theorem isNon_opt {o : Option Int} : isNon (optD o) = o.isNone := by cases o <;> rfl
def headD (h : House) (start : Int) (stamp : Option Int) (acks : List (Int × Int × Int)) : D := .tup [.int h.which, .int h.taken, h.log.d, .int h.settled, .int h.until_, .bl true, .tup [.str "heads", .int start, optD stamp, acksD acks]]
theorem headD_of {h : House} {start : Int} {stamp : Option Int} {acks : List (Int × Int × Int)} (e : h.role = .heads start stamp acks) : h.d = headD h start stamp acks := by
  show D.tup [_, _, _, _, _, _, h.role.d] = _
  rw [e]
  rfl
def pairD (p : Int × Int) : D := .tup [.int p.1, .int p.2]
section
variable {P : Program} {w : World} {K : PySem.W.Frag} {mg : Str → Option Value} {base : Heap} (T : Defs K mg)
theorem ok_owner : FnOk P w K mg base CX0 1 T.owner.f T.owner.fd ["which", "many"] (spR Rp_owner) := by
  refine T.owner.F.ok sc_owner (fun vs H Q E h => spR_len h fun ds d ⟨_, _, e, _⟩ => by rw [e]; rfl) (fun cdv A outer s H vs Q E hr h => ?_)
  refine ⟨_,
    (pss_one (ps_ret (pe_op op_mod (pe_op op_sub (pv 0) pe_int) (pv 1)))), ?_⟩
  refine body_R h fun ds d hR => ?_
  obtain ⟨which, many, rfl, hm, rfl⟩ := hR
  exact sd_ret (ed_op (ed_op (ed_var rfl) ed_int rd_ii) (ed_var rfl) (rd_iiC hm)) rfl
theorem filter_true {α : Type} (l : List α) : l.filter (fun _ => true) = l := List.filter_eq_self.mpr fun _ _ => rfl
theorem best_cons {g : Grp} {known : List (Int × Int)} {c : Int} {l : List Int} : (c :: l).find? (fun c => isEnough g (atLeast known c)) = if isEnough g (atLeast known c) = true then some c else l.find? (fun c => isEnough g (atLeast known c)) := by
  rw [List.find?_cons]
  cases isEnough g (atLeast known c) <;> rfl
theorem ints_get {l : List Int} {i : Nat} {d : D} (h : (l.map D.int)[i]? = some d) : ∃ c, l[i]? = some c ∧ d = .int c := by
  rw [List.getElem?_map] at h
  cases e : l[i]? with
  | none =>
    rw [e] at h
    cases h
  | some r =>
    rw [e] at h
    exact ⟨r, rfl, (Option.some.inj h).symm⟩
theorem ok_reads_until : FnOk P w K mg base CX0 4 T.reads_until.f T.reads_until.fd ["house", "me", "lease"] (spR Rp_reads_until) := by
  refine T.reads_until.F.ok sc_reads_until (fun vs H Q E h => spR_len h fun ds d ⟨_, _, _, _, _, _, _, e, _⟩ => by rw [e]; rfl) (fun cdv A outer s H vs Q E hr h => ?_)
  refine ⟨_,
    (pss_cons (ps_asg (pe_ix (k_ixT (K := K) rfl) (pv 0) pe_int (fun _ _ => rfl)) (k_pgT (K := K) (n := 4) rfl (by rfl) (pgs_cons (pg_name (i := 3) sc_reads_until.nd rfl (.inl rfl)) (pgs_cons (pg_name (i := 4) sc_reads_until.nd rfl (.inl rfl)) (pgs_cons (pg_name (i := 5) sc_reads_until.nd rfl (.inl rfl)) (pgs_cons (pg_name (i := 6) sc_reads_until.nd rfl (.inl rfl)) pgs_nil))))))
    (pss_cons (ps_setLc (i := 7) (own := [("one", 8), ("count", 9), ("time", 10)]) rfl sc_reads_until.nd rfl rfl (sw_true rfl rfl rfl (by decide +kernel)) (k_piT (K := K) rfl (pv 6)) (blkOk_by (N := nN_reads_until) (sc := defScope s_reads_until) (own := [("one", 8), ("count", 9), ("time", 10)]) (by decide +kernel)) (fun _ _ _ _ _ => (k_pgT (K := K) (n := 3) rfl (by rfl) (pgs_cons (pg_name (i := 8) sc_reads_until.nd rfl (.inl rfl)) (pgs_cons (pg_name (i := 9) sc_reads_until.nd rfl (.inl rfl)) (pgs_cons (pg_name (i := 10) sc_reads_until.nd rfl (.inl rfl)) pgs_nil))))) (fun _ _ _ _ _ => pts_nil) (fun _ _ _ _ _ => (pe_tup (pa_cons (pv 8) (pa_cons (pv 10) pa_nil)))))
    (pss_cons (ps_if (pt_cmpR op_notN (pv 5) pe_non (nomark _))
      (pss_one (ps_expr (pe_bm PySem.F.plainAttrs_list PySem.F.slot_list_append PySem.F.type_list_append mt_append (pv 7) (pa_cons (pe_tup (pa_cons (pv 1) (pa_cons (pv 5) pa_nil))) pa_nil)))) pss_nil)
    (pss_cons (ps_set (i := 11) sc_reads_until.nd rfl (.inl rfl) (pe_call (ok_log_group T) (hr.mono (by decide)) (by rfl) T.log_group.g T.log_group.F.kp T.log_group.b .nil pass0 (pa_cons (pe_ix (k_ixT (K := K) rfl) (pv 0) pe_int (fun _ _ => rfl)) pa_nil)))
    (pss_cons (ps_for PassesOwn.never rfl (k_piL (K := K) rfl (pe_callBK (k_sortedRev (K := K) (b := true) rfl) (by rfl) T.n_sorted bb_sorted (pa_cons (pe_lc (own := [("one", 8), ("time", 10)]) rfl sc_reads_until.nd (k_piL (K := K) rfl (pv 7)) (blkOk_by (N := nN_reads_until) (sc := defScope s_reads_until) (own := [("one", 8), ("time", 10)]) (by decide +kernel)) (fun _ _ _ _ _ => (k_pgT (K := K) (n := 2) rfl (by rfl) (pgs_cons (pg_name (i := 8) sc_reads_until.nd rfl (.inl rfl)) (pgs_cons (pg_name (i := 10) sc_reads_until.nd rfl (.inl rfl)) pgs_nil)))) (fun _ _ _ _ _ => pts_nil) (fun _ _ _ _ _ => (pv 10))) pa_nil) (pk_one pe_bl))) (pg_name (i := 10) sc_reads_until.nd rfl (.inr rfl))
      (pss_one (ps_if (pt_val (pe_call (ok_is_enough T) (hr.mono (by decide)) (by rfl) T.is_enough.g T.is_enough.F.kp T.is_enough.b .nil pass0 (pa_cons (pv 11) (pa_cons (pe_lc (own := [("one", 8), ("last", 12)]) rfl sc_reads_until.nd (k_piL (K := K) rfl (pv 7)) (blkOk_by (N := nN_reads_until) (sc := defScope s_reads_until) (own := [("one", 8), ("last", 12)]) (by decide +kernel)) (fun _ _ _ _ _ => (k_pgT (K := K) (n := 2) rfl (by rfl) (pgs_cons (pg_name (i := 8) sc_reads_until.nd rfl (.inl rfl)) (pgs_cons (pg_name (i := 12) sc_reads_until.nd rfl (.inl rfl)) pgs_nil)))) (fun _ _ _ _ _ => (pts_one (pt_cmpR op_ge (pv 12) (pv 10) (nomark _)))) (fun _ _ _ _ _ => (pv 8))) pa_nil))))
        (pss_one (ps_ret (pe_op op_add (pv 10) (pv 2)))) pss_nil)))
    (pss_one (ps_ret pe_non))))))), ?_⟩
  refine body_R h fun ds d hR => ?_
  obtain ⟨h, me, lease, start, stamp, acks, g, rfl, hh, rfl⟩ := hR
  have hrole : h.d = headD h start stamp acks := headD_of hh.role
  rw [hrole]
  refine sd_one (sd_asg (ed_op (ed_var rfl) ed_int (rd_ixT' rfl (by decide))) (gd_tup (gds_cons gd_name (gds_cons gd_name (gds_cons gd_name (gds_cons gd_name gds_nil)))) rfl) rfl) ?_
  have hlen : (acks.map fun a => (a.1, a.2.2)).length < 900 := by
    rw [List.length_map]
    exact hh.few
  refine sd_lcApp (b := !stamp.isNone) (ds := (acks.map fun a => (a.1, a.2.2)).map pairD) (e := .tup [.int me, optD stamp]) (es := (knownTimes me stamp acks).map pairD) (show 7 < 13 by decide) ?_ ?_ ?_ ?_ ?_ ?_ ?_
  · have h1 : EvN (tLc (iTup K (tVar 6)) (gTup K 3 (gCons (gName 8) (gCons (gName 9) (gCons (gName 10) gNil)))) tYes (tTup (tCons (tVar 8) (tCons (tVar 10) tNil))) [8, 9, 10])
        [some (headD h start stamp acks), some (.int me), some (.int lease), some (.str "heads"), some (.int start), some (optD stamp), some (acksD acks), none, none, none, none, none, none] ((acks.filter fun _ => true).map fun a => pairD (a.1, a.2.2)) :=
      en_lcM (F := ackD) (fun _ => true) (fun a => pairD (a.1, a.2.2)) (wd_tup (ed_var rfl)) (Nat.le_trans (Nat.le_of_lt hh.few) (by decide)) fun a _ =>
        ⟨_, _, fun i hi => hi, gd_tup (gds_cons gd_name (gds_cons gd_name (gds_cons gd_name gds_nil))) rfl, et_yes, fun _ => ⟨rfl, ed_tup (ea_cons (ed_var rfl) (ea_cons (ed_var rfl) ea_nil)) (by simp)⟩⟩
    rw [filter_true] at h1
    rw [List.map_map]
    exact h1
  · exact immS_map (f := pairD) (fun _ => rfl) _
  · refine EtD.to (et_test (ed_op (ed_var rfl) ed_non rd_notN')) ?_
    rw [isNon_opt]
  · intro _
    exact ⟨ed_tup (ea_cons (ed_var rfl) (ea_cons (ed_var rfl) ea_nil)) (by simp), by
      show (true && (imm (optD stamp) && true)) = true
      rw [imm_opt]
      rfl⟩
  · rw [List.length_map]
    exact Nat.lt_of_lt_of_le hlen (by decide)
  · unfold knownTimes
    cases stamp with
    | none =>
      rw [List.append_nil]
      rfl
    | some t =>
      rw [List.map_append]
      rfl
  refine sd_one (sd_set (ed_call (ea_cons (ed_op (ed_var rfl) ed_int (rd_ixT' rfl (by decide))) ea_nil) pr_log_group) rfl) ?_
  rw [hh.grp]
  generalize hk : knownTimes me stamp acks = known
  have hkl : known.length ≤ 1000 := by
    rw [← hk]
    unfold knownTimes
    rw [List.length_append]
    cases stamp with
    | none => exact Nat.le_trans (Nat.le_of_lt hlen) (by decide)
    | some t =>
      show _ + 1 ≤ 1000
      omega
  have hfin : optD (readsUntil g me lease stamp acks) = optD (((desc (known.map (·.2))).find? fun c => isEnough g (atLeast known c)).map (· + lease)) := by
    unfold readsUntil bestOf
    rw [hk]
  rw [hfin]
  refine sd_seq (Nx' := fun _ => (desc (known.map (·.2))).find? (fun c => isEnough g (atLeast known c)) = none)
    (sd_for (ds := (desc (known.map (·.2))).map D.int) (fun i δ' => ∃ v10, δ' = [some h.d, some (.int me), some (.int lease), some (.str "heads"), some (.int start), some (optD stamp), some (acksD acks), some (.lst (known.map pairD)), none, none, v10, some (grpD g), none] ∧
      ((desc (known.map (·.2))).drop i).find? (fun c => isEnough g (atLeast known c)) = (desc (known.map (·.2))).find? fun c => isEnough g (atLeast known c)) (wd_list (ed_sortedR (ea_cons ?_ ea_nil) (ea_cons ed_bl ea_nil))) ⟨none, by rw [hrole]; rfl, by rw [List.drop_zero]⟩ ?_ ?_) (fun δ' he => by rw [he]; exact sd_ret ed_non rfl)
  · have h1 := en_lcM (F := pairD) (l := known) (fun _ => true) (fun p => D.int p.2) (g := gTup K 2 (gCons (gName 8) (gCons (gName 10) gNil))) (tt := tYes) (te := tVar 10) (vs := [8, 10]) (wd_list (K := K) (ed_var (i := 7) (δ := [some (headD h start stamp acks), some (.int me), some (.int lease), some (.str "heads"), some (.int start), some (optD stamp), some (acksD acks), some (.lst (known.map pairD)), none, none, none, some (grpD g), none]) rfl)) (Nat.le_trans hkl (by decide)) fun p _ =>
      ⟨_, _, fun i hi => by simpa using hi, gd_tup (gds_cons gd_name (gds_cons gd_name gds_nil)) rfl, et_yes, fun _ => ⟨rfl, ed_var rfl⟩⟩
    rw [filter_true] at h1
    rw [List.map_map]
    exact h1.ed
  · rintro i d δ' hi ⟨v10, rfl, he⟩
    obtain ⟨c, hc, rfl⟩ := ints_get hi
    rw [drop_get hc, best_cons] at he
    refine ⟨_, _, gd_name, sd_if (b := isEnough g (atLeast known c)) (et_B (ed_call (ea_cons (ed_var rfl) (ea_cons ?_ ea_nil)) (pr_is_enough hh.ok))) (fun hb => ?_) (fun hb => ?_)⟩
    · have h1 := en_lcM (F := pairD) (l := known) (fun p => decide (c ≤ p.2)) (fun p => D.int p.1) (g := gTup K 2 (gCons (gName 8) (gCons (gName 12) gNil))) (tt := tTest (tOp (rI0 fun i j => .bl (decide (j ≤ i))) (tVar 12) (tVar 10))) (te := tVar 8) (vs := [8, 12]) (wd_list (K := K) (ed_var (i := 7) (δ := [some h.d, some (.int me), some (.int lease), some (.str "heads"), some (.int start), some (optD stamp), some (acksD acks), some (.lst (known.map pairD)), none, none, some (.int c), some (grpD g), none]) rfl)) (Nat.le_trans hkl (by decide)) fun p _ =>
        ⟨_, _, fun i hi => by simpa using hi, gd_tup (gds_cons gd_name (gds_cons gd_name gds_nil)) rfl, et_test (ed_op (ed_var rfl) (ed_var rfl) rd_ib), fun _ => ⟨rfl, ed_var rfl⟩⟩
      unfold atLeast
      rw [List.map_map]
      exact h1.ed
    · rw [hb, if_pos rfl] at he
      exact sd_ret (ed_op (ed_var rfl) (ed_var rfl) rd_ii) (by rw [← he]; rfl)
    · rw [hb, if_neg Bool.false_ne_true] at he
      exact sd_next ⟨_, rfl, he⟩
  · rintro δ' ⟨v10, rfl, he⟩
    rw [List.length_map, List.drop_length] at he
    exact he.symm
theorem ok_may_read : FnOk P w K mg base CX0 5 T.may_read.f T.may_read.fd ["house", "me", "time", "lease"] (spR Rp_may_read) := by
  refine T.may_read.F.ok sc_may_read (fun vs H Q E h => spR_len h fun ds d ⟨_, _, _, _, _, _, _, _, e, _⟩ => by rw [e]; rfl) (fun cdv A outer s H vs Q E hr h => ?_)
  refine ⟨_,
    (pss_cons (ps_set (i := 4) sc_may_read.nd rfl (.inl rfl) (pe_call (ok_reads_until T) (hr.mono (by decide)) (by rfl) T.reads_until.g T.reads_until.F.kp T.reads_until.b .nil pass0 (pa_cons (pv 0) (pa_cons (pv 1) (pa_cons (pv 3) pa_nil)))))
    (pss_one (ps_ret (pe_and (pe_cmpR op_notN (pv 4) pe_non (nomark _)) (pe_and (pe_cmpR op_lt (pv 2) (pv 4) (nomark _)) (pe_one (pe_cmpR op_ge (pe_ix (k_ixT (K := K) rfl) (pv 0) pe_int (fun _ _ => rfl)) (pe_ix (k_ixT (K := K) rfl) (pe_ix (k_ixT (K := K) rfl) (pv 0) pe_int (fun _ _ => rfl)) pe_int (fun _ _ => rfl)) (nomark _)))))))), ?_⟩
  refine body_R h fun ds d hR => ?_
  obtain ⟨h, me, time, lease, start, stamp, acks, g, rfl, hh, rfl⟩ := hR
  have hrole : h.d = headD h start stamp acks := headD_of hh.role
  refine sd_one (sd_set (ed_call (ea_cons (ed_var rfl) (ea_cons (ed_var rfl) (ea_cons (ed_var rfl) ea_nil))) (pr_reads_until hh)) rfl) ?_
  cases hu : readsUntil g me lease stamp acks with
  | none =>
    refine sd_ret (d := .bl (false && false)) (ed_andV (b := false) (ed_op (ed_var rfl) ed_non rd_notN') (fun z => nomatch z)) ?_
    unfold mayRead
    rw [hu]
    rfl
  | some u =>
    rw [hrole]
    refine sd_ret (d := .bl (true && (decide (time < u) && decide (start ≤ h.settled)))) (ed_andV (b := true) (ed_op (ed_var rfl) ed_non rd_notN') (fun _ => ed_andV (ed_op (ed_var rfl) (ed_var rfl) rd_ib) (fun _ => ed_op (ed_op (ed_var rfl) ed_int (rd_ixT' rfl (by decide))) (ed_op (ed_op (ed_var rfl) ed_int (rd_ixT' rfl (by decide))) ed_int (rd_ixT' rfl (by decide))) rd_ib))) ?_
    unfold mayRead
    rw [hu]
    rfl
theorem ok_may_put : FnOk P w K mg base CX0 5 T.may_put.f T.may_put.fd ["house", "row"] (spR Rp_may_put) := by
  refine T.may_put.F.ok sc_may_put (fun vs H Q E h => spR_len h fun ds d ⟨_, _, _, e, _⟩ => by rw [e]; rfl) (fun cdv A outer s H vs Q E hr h => ?_)
  refine ⟨_,
    (pss_cons (ps_set (i := 2) sc_may_put.nd rfl (.inl rfl) (pe_ix (k_ixT (K := K) rfl) (pv 0) pe_int (fun _ _ => rfl)))
    (pss_cons (ps_if (PW.pt (pw_or (pt_cmpR op_ge (pe_call (ok_length T) (hr.mono (by decide)) (by rfl) T.length.g T.length.F.kp T.length.b .nil pass0 (pa_cons (pv 2) pa_nil)) (pe_glob (v := .int 60) (by rfl) T.most.choose_spec ⟨_, rfl⟩) (nomark _)) (pw_or1 (pt_cmpR op_isN (pe_call (ok_group_behind T) (hr.mono (by decide)) (by rfl) T.group_behind.g T.group_behind.F.kp T.group_behind.b .nil pass0 (pa_cons (pe_call (ok_log_group T) (hr.mono (by decide)) (by rfl) T.log_group.g T.log_group.F.kp T.log_group.b .nil pass0 (pa_cons (pv 2) pa_nil)) (pa_cons (pe_lst (pa_cons (pv 1) pa_nil)) pa_nil))) pe_non (nomark _)))))
      (pss_one (ps_ret pe_bl)) pss_nil)
    (pss_one (ps_ret (pe_or (pe_cmpR op_eq (pe_ix (k_ixT (K := K) rfl) (pv 1) pe_int (fun _ _ => rfl)) pe_str (nomark _)) (pe_one (pe_cmpR op_le (pe_call (ok_log_mark T) (hr.mono (by decide)) (by rfl) T.log_mark.g T.log_mark.F.kp T.log_mark.b .nil pass0 (pa_cons (pv 2) pa_nil)) (pe_ix (k_ixT (K := K) rfl) (pv 0) pe_int (fun _ _ => rfl)) (nomark _)))))))), ?_⟩
  refine body_R h fun ds d hR => ?_
  obtain ⟨h, r, g, rfl, hg, rfl⟩ := hR
  refine sd_one (sd_set (ed_op (ed_var rfl) ed_int (rd_ixT' rfl (by decide))) rfl) ?_
  have hb : groupBehind g [r] = groupAfter g r := by
    unfold groupBehind
    cases groupAfter g r <;> rfl
  have test : EtD (tOr (tTest (tOp (rI0 fun i j => .bl (decide (j ≤ i))) (tCall (spR Rp_length) [] E0 (tCons (tVar 2) tNil)) (tC (.int 60)))) (tTest (tOp (fun x y H Q => y = .non ∧ Q (.bl (decide (x = .non))) H) (tCall (spR Rp_group_behind) [] E0 (tCons (tCall (spR Rp_log_group) [] E0 (tCons (tVar 2) tNil)) (tCons (tLst (tCons (tVar 1) tNil)) tNil))) (tC .non))))
      [some h.d, some r.d, some h.log.d] (decide (60 ≤ h.log.len) || (groupAfter g r).isNone) := by
    refine et_or (et_test (ed_op (ed_call (ea_cons (ed_var rfl) ea_nil) pr_length) ed_int rd_ib)) (fun _ => et_test (ed_op (x := grpO (groupAfter g r)) (ed_call (ea_cons (ed_call (ea_cons (ed_var rfl) ea_nil) pr_log_group) (ea_cons (ed_lst (ea_cons (ed_var rfl) ea_nil) (by simp)) ea_nil)) ?_) ed_non ?_))
    · rw [hg, ← hb]
      exact pr_group_behindL (rows := [r])
    · have := rd_isN' (x := grpO (groupAfter g r))
      rw [isNon_grpO] at this
      exact this
  cases hc : (decide (60 ≤ h.log.len) || (groupAfter g r).isNone) with
  | true =>
    refine sd_take test hc (sd_ret ed_bl ?_)
    unfold mayPut
    rw [hc]
    rfl
  | false =>
    refine sd_skip test hc ?_
    have hz : ∃ z rest, r.d = .tup (.str z :: rest) ∧ decide (z = "deed") = isDeed r := by
      cases r with
      | deed c n x => exact ⟨_, _, rfl, by rw [decide_eq_true rfl]; rfl⟩
      | change s => exact ⟨_, _, rfl, by rw [decide_eq_false sne1]; rfl⟩
      | close => exact ⟨_, _, rfl, by rw [decide_eq_false sne2]; rfl⟩
    obtain ⟨z, rest, hz1, hz2⟩ := hz
    refine sd_ret (d := .bl (isDeed r || decide (h.log.mark ≤ h.settled))) (ed_orV (EvD.to (x := .bl (decide (z = "deed"))) (ed_op (ed_op (ed_var (d := .tup (.str z :: rest)) (by rw [← hz1]; rfl)) ed_int (rd_ixT' rfl (by decide))) ed_str rd_eqS) (by rw [hz2])) (fun _ => ed_op (ed_call (ea_cons (ed_var rfl) ea_nil) pr_log_mark) (ed_op (ed_var rfl) ed_int (rd_ixT' rfl (by decide))) rd_ib)) ?_
    unfold mayPut
    rw [hc]
    rfl
theorem ok_settled_anew : FnOk P w K mg base CX0 4 T.settled_anew.f T.settled_anew.fd ["house", "me"] (spR Rp_settled_anew) := by
  refine T.settled_anew.F.ok sc_settled_anew (fun vs H Q E h => spR_len h fun ds d ⟨_, _, _, _, _, _, e, _⟩ => by rw [e]; rfl) (fun cdv A outer s H vs Q E hr h => ?_)
  refine ⟨_,
    (pss_cons (ps_set (i := 2) sc_settled_anew.nd rfl (.inl rfl) (pe_ix (k_ixT (K := K) rfl) (pv 0) pe_int (fun _ _ => rfl)))
    (pss_cons (ps_set (i := 3) sc_settled_anew.nd rfl (.inl rfl) (pe_op op_cat (pe_lst (pa_cons (pe_tup (pa_cons (pv 1) (pa_cons (pe_call (ok_length T) (hr.mono (by decide)) (by rfl) T.length.g T.length.F.kp T.length.b .nil pass0 (pa_cons (pv 2) pa_nil)) pa_nil))) pa_nil)) (pe_lc (own := [("one", 4), ("count", 5), ("time", 6)]) rfl sc_settled_anew.nd (k_piT (K := K) rfl (pe_ix (k_ixT (K := K) rfl) (pe_ix (k_ixT (K := K) rfl) (pv 0) pe_int (fun _ _ => rfl)) pe_int (fun _ _ => rfl))) (blkOk_by (N := nN_settled_anew) (sc := defScope s_settled_anew) (own := [("one", 4), ("count", 5), ("time", 6)]) (by decide +kernel)) (fun _ _ _ _ _ => (k_pgT (K := K) (n := 3) rfl (by rfl) (pgs_cons (pg_name (i := 4) sc_settled_anew.nd rfl (.inl rfl)) (pgs_cons (pg_name (i := 5) sc_settled_anew.nd rfl (.inl rfl)) (pgs_cons (pg_name (i := 6) sc_settled_anew.nd rfl (.inl rfl)) pgs_nil))))) (fun _ _ _ _ _ => (pts_one (pt_cmpR op_ne (pv 4) (pv 1) (nomark _)))) (fun _ _ _ _ _ => (pe_tup (pa_cons (pv 4) (pa_cons (pv 5) pa_nil)))))))
    (pss_cons (ps_for PassesOwn.never rfl (k_piL (K := K) rfl (pe_callBK (k_sortedRev (K := K) (b := true) rfl) (by rfl) T.n_sorted bb_sorted (pa_cons (pe_lc (own := [("one", 4), ("count", 5)]) rfl sc_settled_anew.nd (k_piL (K := K) rfl (pv 3)) (blkOk_by (N := nN_settled_anew) (sc := defScope s_settled_anew) (own := [("one", 4), ("count", 5)]) (by decide +kernel)) (fun _ _ _ _ _ => (k_pgT (K := K) (n := 2) rfl (by rfl) (pgs_cons (pg_name (i := 4) sc_settled_anew.nd rfl (.inl rfl)) (pgs_cons (pg_name (i := 5) sc_settled_anew.nd rfl (.inl rfl)) pgs_nil)))) (fun _ _ _ _ _ => pts_nil) (fun _ _ _ _ _ => (pv 5))) pa_nil) (pk_one pe_bl))) (pg_name (i := 5) sc_settled_anew.nd rfl (.inr rfl))
      (pss_cons (ps_setLc (i := 7) (own := [("one", 4), ("least", 8)]) rfl sc_settled_anew.nd rfl rfl (sw_true rfl rfl rfl (by decide +kernel)) (k_piL (K := K) rfl (pv 3)) (blkOk_by (N := nN_settled_anew) (sc := defScope s_settled_anew) (own := [("one", 4), ("least", 8)]) (by decide +kernel)) (fun _ _ _ _ _ => (k_pgT (K := K) (n := 2) rfl (by rfl) (pgs_cons (pg_name (i := 4) sc_settled_anew.nd rfl (.inl rfl)) (pgs_cons (pg_name (i := 8) sc_settled_anew.nd rfl (.inl rfl)) pgs_nil)))) (fun _ _ _ _ _ => (pts_one (pt_cmpR op_ge (pv 8) (pv 5) (nomark _)))) (fun _ _ _ _ _ => (pv 4)))
      (pss_one (ps_if (pt_val (pe_call (ok_is_enough T) (hr.mono (by decide)) (by rfl) T.is_enough.g T.is_enough.F.kp T.is_enough.b .nil pass0 (pa_cons (pe_call (ok_log_group T) (hr.mono (by decide)) (by rfl) T.log_group.g T.log_group.F.kp T.log_group.b .nil pass0 (pa_cons (pv 2) pa_nil)) (pa_cons (pv 7) pa_nil))))
        (pss_cons (ps_if (pt_cmpR op_gt (pv 5) (pe_ix (k_ixT (K := K) rfl) (pv 0) pe_int (fun _ _ => rfl)) (nomark _))
          (pss_one (ps_ret (pe_op (k_catT (K := K) rfl) (pe_op (k_catT (K := K) rfl) (pe_slice (k_slT (K := K) rfl) (pv 0) po_none (po_some pe_int)) (pe_tup (pa_cons (pv 5) pa_nil))) (pe_slice (k_slT (K := K) rfl) (pv 0) (po_some pe_int) po_none)))) pss_nil)
        (pss_one (ps_ret (pv 0)))) pss_nil))))
    (pss_one (ps_ret (pv 0)))))), ?_⟩
  refine body_R h fun ds d hR => ?_
  obtain ⟨h, me, start, stamp, acks, g, rfl, hh, rfl⟩ := hR
  have hrole : h.d = headD h start stamp acks := headD_of hh.role
  rw [hrole]
  refine sd_one (sd_set (ed_op (ed_var rfl) ed_int (rd_ixT' rfl (by decide))) rfl) ?_
  generalize hk : knownCounts me h.log.len acks = known
  have hkl : known.length ≤ 1000 := by
    rw [← hk]
    unfold knownCounts
    rw [List.length_cons, List.length_map]
    have := List.length_filter_le (fun a => !decide (a.1 = me)) acks
    have := hh.few
    omega
  refine sd_one (δ1 := [some (headD h start stamp acks), some (.int me), some h.log.d, some (.lst (known.map pairD)), none, none, none, none, none]) (sd_set (d := .lst (known.map pairD)) ?_ rfl) ?_
  · have h1 : EvN (tLc (iTup K (tOp (rIxT K) (tOp (rIxT K) (tVar 0) (tC (.int 6))) (tC (.int 3)))) (gTup K 3 (gCons (gName 4) (gCons (gName 5) (gCons (gName 6) gNil)))) (tTest (tOp rNe (tVar 4) (tVar 1))) (tTup (tCons (tVar 4) (tCons (tVar 5) tNil))) [4, 5, 6])
        [some (headD h start stamp acks), some (.int me), some h.log.d, none, none, none, none, none, none] ((acks.filter fun a => !decide (a.1 = me)).map fun a => pairD (a.1, a.2.1)) :=
      en_lcM (F := ackD) (fun a => !decide (a.1 = me)) (fun a => pairD (a.1, a.2.1)) (wd_tup (ed_op (ed_op (ed_var rfl) ed_int (rd_ixT' rfl (by decide))) ed_int (rd_ixT' rfl (by decide)))) (Nat.le_trans (Nat.le_of_lt hh.few) (by decide)) fun a _ =>
        ⟨_, _, fun i hi => hi, gd_tup (gds_cons gd_name (gds_cons gd_name (gds_cons gd_name gds_nil))) rfl, et_test (ed_op (ed_var rfl) (ed_var rfl) rd_neI), fun _ => ⟨rfl, ed_tup (ea_cons (ed_var rfl) (ea_cons (ed_var rfl) ea_nil)) (by simp)⟩⟩
    have e : known.map pairD = [pairD (me, h.log.len)] ++ ((acks.filter fun a => !decide (a.1 = me)).map fun a => pairD (a.1, a.2.1)) := by
      rw [← hk]
      unfold knownCounts
      rw [List.map_cons, List.map_map]
      rfl
    rw [e]
    refine ed_op (ed_lst (ea_cons (ed_tup (ea_cons (ed_var rfl) (ea_cons (ed_call (ea_cons (ed_var rfl) ea_nil) pr_length) ea_nil)) (by simp)) ea_nil) (by simp)) h1.ed (rd_catL ?_)
    have h2 : known.length = 1 + (acks.filter fun a => !decide (a.1 = me)).length := by
      rw [← hk]
      unfold knownCounts
      rw [List.length_cons, List.length_map, Nat.add_comm]
    rw [List.length_map]
    show 1 + _ ≤ 1000
    omega
  have hfin : (h.settledAnew g me acks).d = ({ h with settled := pick h.settled ((desc (known.map (·.2))).find? (fun c => isEnough g (atLeast known c))) } : House).d := by
    unfold House.settledAnew anew bestOf
    rw [hk]
  rw [hfin]
  refine sd_seq (Nx' := fun δ' => (∃ v5 v7, δ' = [some (headD h start stamp acks), some (.int me), some h.log.d, some (.lst (known.map pairD)), none, v5, none, v7, none]) ∧ (desc (known.map (·.2))).find? (fun c => isEnough g (atLeast known c)) = none)
    (sd_for (ds := (desc (known.map (·.2))).map D.int) (fun i δ' => ∃ v5 v7, δ' = [some (headD h start stamp acks), some (.int me), some h.log.d, some (.lst (known.map pairD)), none, v5, none, v7, none] ∧
      ((desc (known.map (·.2))).drop i).find? (fun c => isEnough g (atLeast known c)) = (desc (known.map (·.2))).find? fun c => isEnough g (atLeast known c)) (wd_list (ed_sortedR (ea_cons ?_ ea_nil) (ea_cons ed_bl ea_nil))) ⟨none, none, rfl, by rw [List.drop_zero]⟩ ?_ ?_) ?_
  · have h1 := en_lcM (F := pairD) (l := known) (fun _ => true) (fun p => D.int p.2) (g := gTup K 2 (gCons (gName 4) (gCons (gName 5) gNil))) (tt := tYes) (te := tVar 5) (vs := [4, 5]) (wd_list (K := K) (ed_var (i := 3) (δ := [some (headD h start stamp acks), some (.int me), some h.log.d, some (.lst (known.map pairD)), none, none, none, none, none]) rfl)) (Nat.le_trans hkl (by decide)) fun p _ =>
      ⟨_, _, fun i hi => by simpa using hi, gd_tup (gds_cons gd_name (gds_cons gd_name gds_nil)) rfl, et_yes, fun _ => ⟨rfl, ed_var rfl⟩⟩
    rw [filter_true] at h1
    rw [List.map_map]
    exact h1.ed
  · rintro i d δ' hi ⟨v5, v7, rfl, he⟩
    obtain ⟨c, hc, rfl⟩ := ints_get hi
    rw [drop_get hc, best_cons] at he
    refine ⟨_, _, gd_name, sd_one (δ1 := [some (headD h start stamp acks), some (.int me), some h.log.d, some (.lst (known.map pairD)), none, some (.int c), none, some (.lst ((atLeast known c).map D.int)), none]) (sd_set (d := .lst ((atLeast known c).map D.int)) ?_ rfl) ?_⟩
    · have h1 := en_lcM (F := pairD) (l := known) (fun p => decide (c ≤ p.2)) (fun p => D.int p.1) (g := gTup K 2 (gCons (gName 4) (gCons (gName 8) gNil))) (tt := tTest (tOp (rI0 fun i j => .bl (decide (j ≤ i))) (tVar 8) (tVar 5))) (te := tVar 4) (vs := [4, 8]) (wd_list (K := K) (ed_var (i := 3) (δ := [some (headD h start stamp acks), some (.int me), some h.log.d, some (.lst (known.map pairD)), none, some (.int c), none, v7, none]) rfl)) (Nat.le_trans hkl (by decide)) fun p _ =>
        ⟨_, _, fun i hi => by simpa using hi, gd_tup (gds_cons gd_name (gds_cons gd_name gds_nil)) rfl, et_test (ed_op (ed_var rfl) (ed_var rfl) rd_ib), fun _ => ⟨rfl, ed_var rfl⟩⟩
      unfold atLeast
      rw [List.map_map]
      exact h1.ed
    · refine sd_if (b := isEnough g (atLeast known c)) (et_B (ed_call (ea_cons (ed_call (ea_cons (ed_var rfl) ea_nil) pr_log_group) (ea_cons (ed_var rfl) ea_nil)) (by rw [hh.grp]; exact pr_is_enough hh.ok))) (fun hb => ?_) (fun hb => ?_)
      · rw [hb, if_pos rfl] at he
        rw [← he]
        by_cases hs : h.settled < c
        · refine sd_take (et_test (ed_op (ed_var rfl) (ed_op (ed_var rfl) ed_int (rd_ixT' rfl (by decide))) rd_ib)) (decide_eq_true hs) (sd_ret (ed_op (ed_op (ed_sl (z := .tup [.int h.which, .int h.taken, h.log.d]) (ed_var rfl) eo_none (eo_some ed_int) (rs_slT (K := K) (ds := [_, _, _, _, _, _, _]))) (ed_tup (ea_cons (ed_var rfl) ea_nil) (by simp)) (rd_catT (by simp))) (ed_sl (z := .tup [.int h.until_, .bl true, .tup [.str "heads", .int start, optD stamp, acksD acks]]) (ed_var rfl) (eo_some ed_int) eo_none (rs_slT (K := K) (ds := [_, _, _, _, _, _, _]))) (rd_catT (by simp))) ?_)
          show _ = D.tup [.int h.which, .int h.taken, h.log.d, .int (if h.settled < c then c else h.settled), .int h.until_, .bl true, h.role.d]
          rw [if_pos hs, hh.role]
          rfl
        · refine sd_skip (et_test (ed_op (ed_var rfl) (ed_op (ed_var rfl) ed_int (rd_ixT' rfl (by decide))) rd_ib)) (decide_eq_false hs) (sd_ret (ed_var rfl) ?_)
          show _ = D.tup [.int h.which, .int h.taken, h.log.d, .int (if h.settled < c then c else h.settled), .int h.until_, .bl true, h.role.d]
          rw [if_neg hs, hh.role]
          rfl
      · rw [hb, if_neg Bool.false_ne_true] at he
        exact sd_next ⟨_, _, rfl, he⟩
  · rintro δ' ⟨v5, v7, rfl, he⟩
    rw [List.length_map, List.drop_length] at he
    exact ⟨⟨v5, v7, rfl⟩, he.symm⟩
  · rintro δ' ⟨⟨v5, v7, rfl⟩, he⟩
    rw [he]
    refine sd_ret (ed_var rfl) ?_
    exact hrole.symm
theorem ok_sent : FnOk P w K mg base CX0 1 T.sent.f T.sent.fd ["house", "time", "lease"] (spL Rp_sent) := by
  refine T.sent.F.ok sc_sent (fun vs H Q E h => spL_len h fun ds d es ⟨_, _, _, _, _, _, e, _⟩ => by rw [e]; rfl) (fun cdv A outer s H vs Q E hr h => ?_)
  refine ⟨_,
    (pss_cons (ps_asg (pv 0) (k_pgT (K := K) (n := 7) rfl (by rfl) (pgs_cons (pg_name (i := 3) sc_sent.nd rfl (.inl rfl)) (pgs_cons (pg_name (i := 4) sc_sent.nd rfl (.inl rfl)) (pgs_cons (pg_name (i := 5) sc_sent.nd rfl (.inl rfl)) (pgs_cons (pg_name (i := 6) sc_sent.nd rfl (.inl rfl)) (pgs_cons (pg_name (i := 7) sc_sent.nd rfl (.inl rfl)) (pgs_cons (pg_name (i := 8) sc_sent.nd rfl (.inl rfl)) (pgs_cons (pg_name (i := 9) sc_sent.nd rfl (.inl rfl)) pgs_nil)))))))))
    (pss_cons (ps_asg (pv 9) (k_pgT (K := K) (n := 4) rfl (by rfl) (pgs_cons (pg_name (i := 10) sc_sent.nd rfl (.inl rfl)) (pgs_cons (pg_name (i := 11) sc_sent.nd rfl (.inl rfl)) (pgs_cons (pg_name (i := 12) sc_sent.nd rfl (.inl rfl)) (pgs_cons (pg_name (i := 13) sc_sent.nd rfl (.inl rfl)) pgs_nil))))))
    (pss_cons (ps_set (i := 14) sc_sent.nd rfl (.inl rfl) (pe_tup (pa_cons (pv 3) (pa_cons (pv 4) (pa_cons (pv 5) (pa_cons (pv 6) (pa_cons (pe_callB (call_max2 rfl) (by rfl) T.n_max bb_max (pa_cons (pv 7) (pa_cons (pe_op op_add (pv 1) (pv 2)) pa_nil))) (pa_cons (pv 8) (pa_cons (pe_tup (pa_cons (pv 10) (pa_cons (pv 11) (pa_cons (pv 1) (pa_cons (pv 13) pa_nil))))) pa_nil)))))))))
    (pss_one (ps_ret (pe_tup (pa_cons (pv 14) (pa_cons (pe_lst (pa_cons (pe_tup (pa_cons pe_str (pa_cons (pv 3) (pa_cons (pv 5) (pa_cons (pv 6) (pa_cons (pv 1) pa_nil)))))) pa_nil)) pa_nil)))))))), ?_⟩
  refine body_L h fun ds d es hR => ?_
  obtain ⟨h, time, lease, start, stamp, acks, rfl, hrl, rfl, rfl⟩ := hR
  rw [headD_of hrl]
  refine sdl_one (δ1 := [some (headD h start stamp acks), some (.int time), some (.int lease), some (.int h.which), some (.int h.taken), some h.log.d, some (.int h.settled), some (.int h.until_), some (.bl true), some (.tup [.str "heads", .int start, optD stamp, acksD acks]), none, none, none, none, none])
    (sd_asg (ed_var rfl) (gd_tup (gds_cons gd_name (gds_cons gd_name (gds_cons gd_name (gds_cons gd_name (gds_cons gd_name (gds_cons gd_name (gds_cons gd_name gds_nil))))))) rfl) rfl) ?_
  refine sdl_one (δ1 := [some (headD h start stamp acks), some (.int time), some (.int lease), some (.int h.which), some (.int h.taken), some h.log.d, some (.int h.settled), some (.int h.until_), some (.bl true), some (.tup [.str "heads", .int start, optD stamp, acksD acks]), some (.str "heads"), some (.int start), some (optD stamp), some (acksD acks), none])
    (sd_asg (ed_var rfl) (gd_tup (gds_cons gd_name (gds_cons gd_name (gds_cons gd_name (gds_cons gd_name gds_nil)))) rfl) rfl) ?_
  refine sdl_one (sd_set (d := (h.sent start acks time lease).d) ?_ rfl) ?_
  · refine EvD.to (ed_tup (ds := [.int h.which, .int h.taken, h.log.d, .int h.settled, .int (max h.until_ (time + lease)), .bl true, .tup [.str "heads", .int start, .int time, acksD acks]]) (ea_cons (ed_var rfl) (ea_cons (ed_var rfl) (ea_cons (ed_var rfl) (ea_cons (ed_var rfl) (ea_cons (ed_cb (ea_cons (ed_var rfl) (ea_cons (ed_op (ed_var rfl) (ed_var rfl) rd_ii) ea_nil)) rc_max) (ea_cons (ed_var rfl) (ea_cons (ed_tup (ea_cons (ed_var rfl) (ea_cons (ed_var rfl) (ea_cons (ed_var rfl) (ea_cons (ed_var rfl) ea_nil)))) (by simp)) ea_nil))))))) (by simp)) rfl
  · refine sdl_ret (ed_var rfl) (en_lst (ea_cons (EvD.to (ed_tup (ea_cons ed_str (ea_cons (ed_var rfl) (ea_cons (ed_var rfl) (ea_cons (ed_var rfl) (ea_cons (ed_var rfl) ea_nil))))) (by simp)) rfl) ea_nil) (by simp))
theorem ok_acks_with : FnOk P w K mg base CX0 1 T.acks_with.f T.acks_with.fd ["acks", "one", "count", "time"] (spR Rp_acks_with) := by
  refine T.acks_with.F.ok sc_acks_with (fun vs H Q E h => spR_len h fun ds d ⟨_, _, _, _, e, _⟩ => by rw [e]; rfl) (fun cdv A outer s H vs Q E hr h => ?_)
  refine ⟨_,
    (pss_cons (ps_for PassesOwn.never rfl (k_piT (K := K) rfl (pv 0)) (k_pgT (K := K) (n := 3) rfl (by rfl) (pgs_cons (pg_name (i := 4) sc_acks_with.nd rfl (.inl rfl)) (pgs_cons (pg_name (i := 5) sc_acks_with.nd rfl (.inl rfl)) (pgs_cons (pg_name (i := 6) sc_acks_with.nd rfl (.inl rfl)) pgs_nil))))
      (pss_one (ps_if (pt_cmpR op_eq (pv 4) (pv 1) (nomark _))
        (pss_cons (ps_set (i := 2) sc_acks_with.nd rfl (.inl rfl) (pe_callB (call_max2 rfl) (by rfl) T.n_max bb_max (pa_cons (pv 2) (pa_cons (pv 5) pa_nil))))
        (pss_one (ps_set (i := 3) sc_acks_with.nd rfl (.inl rfl) (pe_callB (call_max2 rfl) (by rfl) T.n_max bb_max (pa_cons (pv 3) (pa_cons (pv 6) pa_nil)))))) pss_nil)))
    (pss_one (ps_ret (pe_callTy (k_tuple (K := K) rfl) (by rfl) T.n_tuple bb_tuple (pa_cons (pe_callB (cr_sortedU (K := K) rfl) (by rfl) T.n_sorted bb_sorted (pa_cons (pe_op op_cat (pe_lc (own := [("ack", 7)]) rfl sc_acks_with.nd (k_piT (K := K) rfl (pv 0)) (blkOk_by (N := nN_acks_with) (sc := defScope s_acks_with) (own := [("ack", 7)]) (by decide +kernel)) (fun _ _ _ _ _ => (pg_name (i := 7) sc_acks_with.nd rfl (.inl rfl))) (fun _ _ _ _ _ => (pts_one (pt_cmpR op_ne (pe_ix (k_ixT (K := K) rfl) (pv 7) pe_int (fun _ _ => rfl)) (pv 1) (nomark _)))) (fun _ _ _ _ _ => (pv 7))) (pe_lst (pa_cons (pe_tup (pa_cons (pv 1) (pa_cons (pv 2) (pa_cons (pv 3) pa_nil)))) pa_nil))) pa_nil)) pa_nil))))), ?_⟩
  refine body_R h fun ds d hR => ?_
  obtain ⟨acks, one, count, time, rfl, hl, rfl⟩ := hR
  have hA : ∀ a : Int × Int × Int, ackD a = .tup [.int a.1, .int a.2.1, .int a.2.2] := fun _ => rfl
  refine sd_seq (Nx' := fun δ' => ∃ v4 v5 v6, δ' = [some (acksD acks), some (.int one), some (.int (ackMax acks one count time).1), some (.int (ackMax acks one count time).2), v4, v5, v6, none])
    (sd_for (ds := acks.map ackD) (fun i δ' => ∃ p v4 v5 v6, δ' = [some (acksD acks), some (.int one), some (.int p.1), some (.int p.2), v4, v5, v6, none] ∧ (acks.drop i).foldl (fun p a => if a.1 = one then (max p.1 a.2.1, max p.2 a.2.2) else p) p = ackMax acks one count time) (wd_tup (ed_var rfl)) ⟨(count, time), none, none, none, rfl, by rw [List.drop_zero]; rfl⟩ ?_ ?_) ?_
  · rintro i d δ' hi ⟨p, v4, v5, v6, rfl, he⟩
    rw [List.getElem?_map] at hi
    cases ha : acks[i]? with
    | none =>
      rw [ha] at hi
      cases hi
    | some a =>
      rw [ha] at hi
      have hi : ackD a = d := Option.some.inj hi
      subst hi
      rw [drop_get ha, List.foldl_cons] at he
      refine ⟨_, _, gd_tup (gds_cons gd_name (gds_cons gd_name (gds_cons gd_name gds_nil))) rfl, ?_⟩
      by_cases h1 : a.1 = one
      · rw [if_pos h1] at he
        refine sd_if (et_test (ed_op (ed_var rfl) (ed_var rfl) rd_eqI)) (fun _ => ?_) (fun hb => absurd h1 (of_decide_eq_false hb))
        refine sd_one (δ1 := [some (acksD acks), some (.int one), some (.int (max p.1 a.2.1)), some (.int p.2), some (.int a.1), some (.int a.2.1), some (.int a.2.2), none]) (sd_set (ed_cb (ea_cons (ed_var rfl) (ea_cons (ed_var rfl) ea_nil)) rc_max) rfl) ?_
        exact sd_set (ed_cb (ea_cons (ed_var rfl) (ea_cons (ed_var rfl) ea_nil)) rc_max) ⟨_, _, _, _, rfl, he⟩
      · rw [if_neg h1] at he
        exact sd_if (et_test (ed_op (ed_var rfl) (ed_var rfl) rd_eqI)) (fun hb => absurd (of_decide_eq_true hb) h1) (fun _ => sd_next ⟨_, _, _, _, rfl, he⟩)
  · rintro δ' ⟨p, v4, v5, v6, rfl, he⟩
    rw [List.length_map, List.drop_length] at he
    have he : p = ackMax acks one count time := he
    subst he
    exact ⟨v4, v5, v6, rfl⟩
  · rintro δ' ⟨v4, v5, v6, rfl⟩
    generalize hm : ackMax acks one count time = m
    have h1 : EvN (tLc (iTup K (tVar 0)) (gName 7) (tTest (tOp rNe (tOp (rIxT K) (tVar 7) (tC (.int 0))) (tVar 1))) (tVar 7) [7]) [some (acksD acks), some (.int one), some (.int m.1), some (.int m.2), v4, v5, v6, none] ((acks.filter fun a => !decide (a.1 = one)).map ackD) :=
      en_lcM (F := ackD) (fun a => !decide (a.1 = one)) ackD (wd_tup (ed_var rfl)) (Nat.le_trans (Nat.le_of_lt hl) (by decide)) fun a _ =>
        ⟨_, _, fun i hi => hi, gd_name, et_test (ed_op (ed_op (ed_var (d := ackD a) rfl) ed_int (rd_ixT' rfl (by decide))) (ed_var rfl) rd_neI), fun _ => ⟨rfl, ed_var rfl⟩⟩
    have e : (acksNew acks one count time).map ackD = (acks.filter fun a => !decide (a.1 = one)).map ackD ++ [ackD (one, m.1, m.2)] := by
      unfold acksNew
      rw [hm, List.map_append]
      rfl
    have h2 : EvD (tOp rCat (tLc (iTup K (tVar 0)) (gName 7) (tTest (tOp rNe (tOp (rIxT K) (tVar 7) (tC (.int 0))) (tVar 1))) (tVar 7) [7]) (tLst (tCons (tTup (tCons (tVar 1) (tCons (tVar 2) (tCons (tVar 3) tNil)))) tNil))) [some (acksD acks), some (.int one), some (.int m.1), some (.int m.2), v4, v5, v6, none] (.lst ((acksNew acks one count time).map ackD)) := by
      rw [e]
      refine ed_op h1.ed (ed_lst (ea_cons (ed_tup (ea_cons (ed_var rfl) (ea_cons (ed_var rfl) (ea_cons (ed_var rfl) ea_nil))) (by simp)) ea_nil) (by simp)) (rd_catL ?_)
      rw [List.length_map]
      have := List.length_filter_le (fun a => !decide (a.1 = one)) acks
      show _ + 1 ≤ 1000
      omega
    refine sd_ret (d := acksD (sortA (acksNew acks one count time))) (ed_cb (ea_cons (ed_cb (ea_cons h2 ea_nil) ?_) ea_nil) rc_tupleL) rfl
    have h3 := rc_sortedU (K := K) (ls := (acksNew acks one count time).map ackI) (shape := fun _ => false) (fun l hl => by
      obtain ⟨a, _, rfl⟩ := List.mem_map.mp hl
      exact ⟨by unfold ackI; simp, ⟨rfl, rfl, rfl, trivial⟩⟩)
    rw [sortA_eq, List.map_map] at h3
    exact h3
theorem ok_counted : FnOk P w K mg base CX0 5 T.counted.f T.counted.fd ["house", "me", "letter"] (spR Rp_counted) := by
  refine T.counted.F.ok sc_counted (fun vs H Q E h => spR_len h fun ds d ⟨_, _, _, _, _, _, _, _, _, e, _⟩ => by rw [e]; rfl) (fun cdv A outer s H vs Q E hr h => ?_)
  refine ⟨_,
    (pss_cons (ps_set (i := 3) sc_counted.nd rfl (.inl rfl) (pe_ix (k_ixT (K := K) rfl) (pv 0) pe_int (fun _ _ => rfl)))
    (pss_cons (ps_if (PW.pt (pw_or (pt_cmpR op_ne (pe_ix (k_ixT (K := K) rfl) (pv 2) pe_int (fun _ _ => rfl)) pe_str (nomark _)) (pw_or (pt_cmpR op_isN (pv 3) pe_non (nomark _)) (pw_or (pt_cmpR op_ne (pe_ix (k_ixT (K := K) rfl) (pv 3) pe_int (fun _ _ => rfl)) pe_str (nomark _)) (pw_or1 (pt_cmpR op_ne (pe_ix (k_ixT (K := K) rfl) (pv 2) pe_int (fun _ _ => rfl)) (pe_ix (k_ixT (K := K) rfl) (pv 0) pe_int (fun _ _ => rfl)) (nomark _)))))))
      (pss_one (ps_ret (pe_tup (pa_cons (pv 0) (pa_cons (pe_lst pa_nil) pa_nil))))) pss_nil)
    (pss_cons (ps_asg (pv 3) (k_pgT (K := K) (n := 4) rfl (by rfl) (pgs_cons (pg_name (i := 4) sc_counted.nd rfl (.inl rfl)) (pgs_cons (pg_name (i := 5) sc_counted.nd rfl (.inl rfl)) (pgs_cons (pg_name (i := 6) sc_counted.nd rfl (.inl rfl)) (pgs_cons (pg_name (i := 7) sc_counted.nd rfl (.inl rfl)) pgs_nil))))))
    (pss_cons (ps_set (i := 7) sc_counted.nd rfl (.inl rfl) (pe_call (ok_acks_with T) (hr.mono (by decide)) (by rfl) T.acks_with.g T.acks_with.F.kp T.acks_with.b .nil pass0 (pa_cons (pv 7) (pa_cons (pe_ix (k_ixT (K := K) rfl) (pv 2) pe_int (fun _ _ => rfl)) (pa_cons (pe_ix (k_ixT (K := K) rfl) (pv 2) pe_int (fun _ _ => rfl)) (pa_cons (pe_ix (k_ixT (K := K) rfl) (pv 2) pe_int (fun _ _ => rfl)) pa_nil))))))
    (pss_one (ps_ret (pe_tup (pa_cons (pe_call (ok_settled_anew T) (hr.mono (by decide)) (by rfl) T.settled_anew.g T.settled_anew.F.kp T.settled_anew.b .nil pass0 (pa_cons (pe_op (k_catT (K := K) rfl) (pe_slice (k_slT (K := K) rfl) (pv 0) po_none (po_some pe_int)) (pe_tup (pa_cons (pe_tup (pa_cons (pv 4) (pa_cons (pv 5) (pa_cons (pv 6) (pa_cons (pv 7) pa_nil))))) pa_nil))) (pa_cons (pv 1) pa_nil))) (pa_cons (pe_lst pa_nil) pa_nil))))))))), ?_⟩
  refine body_R h fun ds d hR => ?_
  obtain ⟨h, me, start, stamp, acks, g, o, c, t, rfl, hh, hl, rfl⟩ := hR
  rw [headD_of hh.role]
  refine sd_one (δ1 := [some (headD h start stamp acks), some (.int me), some (Letter.got h.which o c t).d, some (.tup [.str "heads", .int start, optD stamp, acksD acks]), none, none, none, none]) (sd_set (ed_op (ed_var rfl) ed_int (rd_ixT' rfl (by decide))) rfl) ?_
  refine sd_skip (b := false || (false || (false || false))) (et_or (EtD.to (et_test (ed_op (ed_op (ed_var (d := (Letter.got h.which o c t).d) rfl) ed_int (rd_ixT' rfl (by decide))) ed_str rd_neS)) (by rw [decide_eq_true rfl]; rfl)) (fun _ => et_or (et_test (ed_op (ed_var rfl) ed_non rd_isN')) (fun _ => et_or (EtD.to (et_test (ed_op (ed_op (ed_var rfl) ed_int (rd_ixT' rfl (by decide))) ed_str rd_neS)) (by rw [decide_eq_true rfl]; rfl)) (fun _ => EtD.to (et_test (ed_op (ed_op (ed_var (d := (Letter.got h.which o c t).d) rfl) ed_int (rd_ixT' rfl (by decide))) (ed_op (ed_var rfl) ed_int (rd_ixT' rfl (by decide))) rd_neI)) (by rw [decide_eq_true rfl]; rfl))))) rfl ?_
  refine sd_one (δ1 := [some (headD h start stamp acks), some (.int me), some (Letter.got h.which o c t).d, some (.tup [.str "heads", .int start, optD stamp, acksD acks]), some (.str "heads"), some (.int start), some (optD stamp), some (acksD acks)]) (sd_asg (ed_var rfl) (gd_tup (gds_cons gd_name (gds_cons gd_name (gds_cons gd_name (gds_cons gd_name gds_nil)))) rfl) rfl) ?_
  refine sd_one (δ1 := [some (headD h start stamp acks), some (.int me), some (Letter.got h.which o c t).d, some (.tup [.str "heads", .int start, optD stamp, acksD acks]), some (.str "heads"), some (.int start), some (optD stamp), some (acksD (sortA (acksNew acks o c t)))]) (sd_set (ed_call (ea_cons (ed_var rfl) (ea_cons (ed_op (ed_var (d := (Letter.got h.which o c t).d) rfl) ed_int (rd_ixT' rfl (by decide))) (ea_cons (ed_op (ed_var (d := (Letter.got h.which o c t).d) rfl) ed_int (rd_ixT' rfl (by decide))) (ea_cons (ed_op (ed_var (d := (Letter.got h.which o c t).d) rfl) ed_int (rd_ixT' rfl (by decide))) ea_nil)))) (pr_acks_with hh.few)) rfl) ?_
  have hlen : (sortA (acksNew acks o c t)).length < 900 := by
    rw [(sortA_perm _).length_eq]
    unfold acksNew
    rw [List.length_append]
    have := List.length_filter_le (fun a => !decide (a.1 = o)) acks
    show _ + 1 < 900
    omega
  have i2 : IsHead ({ h with role := .heads start stamp (sortA (acksNew acks o c t)) } : House) start stamp (sortA (acksNew acks o c t)) g := ⟨rfl, hh.grp, hh.ok, hlen⟩
  refine sd_ret (ed_tup (ea_cons (ed_call (ea_cons (d := ({ h with role := .heads start stamp (sortA (acksNew acks o c t)) } : House).d) ?_ (ea_cons (ed_var rfl) ea_nil)) (pr_settled_anew i2)) (ea_cons (ed_lst ea_nil (by simp)) ea_nil)) (by simp)) rfl
  exact ed_op (ed_sl (z := .tup [.int h.which, .int h.taken, h.log.d, .int h.settled, .int h.until_, .bl true]) (ed_var rfl) eo_none (eo_some ed_int) (rs_slT (K := K) (ds := [_, _, _, _, _, _, _]))) (ed_tup (ds := [.tup [.str "heads", .int start, optD stamp, acksD (sortA (acksNew acks o c t))]]) (ea_cons (ed_tup (ea_cons (ed_var rfl) (ea_cons (ed_var rfl) (ea_cons (ed_var rfl) (ea_cons (ed_var rfl) ea_nil)))) (by simp)) ea_nil) (by simp)) (rd_catT (ds := [_, _, _, _, _, _]) (es := [_]) (by simp))
theorem ok_written : FnOk P w K mg base CX0 5 T.written.f T.written.fd ["house", "me", "row"] (spR Rp_written) := by
  refine T.written.F.ok sc_written (fun vs H Q E h => spR_len h fun ds d ⟨_, _, _, _, _, _, _, e, _⟩ => by rw [e]; rfl) (fun cdv A outer s H vs Q E hr h => ?_)
  refine ⟨_,
    (pss_one (ps_ret (pe_tup (pa_cons (pe_call (ok_settled_anew T) (hr.mono (by decide)) (by rfl) T.settled_anew.g T.settled_anew.F.kp T.settled_anew.b .nil pass0 (pa_cons (pe_op (k_catT (K := K) rfl) (pe_op (k_catT (K := K) rfl) (pe_slice (k_slT (K := K) rfl) (pv 0) po_none (po_some pe_int)) (pe_tup (pa_cons (pe_call (ok_put T) (hr.mono (by decide)) (by rfl) T.put.g T.put.F.kp T.put.b .nil pass0 (pa_cons (pe_ix (k_ixT (K := K) rfl) (pv 0) pe_int (fun _ _ => rfl)) (pa_cons (pv 2) pa_nil))) pa_nil))) (pe_slice (k_slT (K := K) rfl) (pv 0) (po_some pe_int) po_none)) (pa_cons (pv 1) pa_nil))) (pa_cons (pe_lst pa_nil) pa_nil))))), ?_⟩
  refine body_R h fun ds d hR => ?_
  obtain ⟨h, me, start, stamp, acks, g, r, rfl, hl, hh, rfl⟩ := hR
  refine sd_ret (ed_tup (ea_cons (ed_call (ea_cons (d := ({ h with log := h.log.put r } : House).d) ?_ (ea_cons (ed_var rfl) ea_nil)) (pr_settled_anew hh)) (ea_cons (ed_lst ea_nil (by simp)) ea_nil)) (by simp)) rfl
  exact ed_op (ed_op (ed_sl (z := .tup [.int h.which, .int h.taken]) (ed_var (d := h.d) rfl) eo_none (eo_some ed_int) (rs_slT (K := K) (ds := [_, _, _, _, _, _, _]))) (ed_tup (ds := [(h.log.put r).d]) (ea_cons (ed_call (ea_cons (ed_op (ed_var (d := h.d) rfl) ed_int (rd_ixT' rfl (by decide))) (ea_cons (ed_var rfl) ea_nil)) (pr_put hl)) ea_nil) (by simp)) (rd_catT (ds := [_, _]) (es := [_]) (by simp))) (ed_sl (z := .tup [.int h.settled, .int h.until_, .bl true, h.role.d]) (ed_var (d := h.d) rfl) (eo_some ed_int) eo_none (rs_slT (K := K) (ds := [_, _, _, _, _, _, _]))) (rd_catT (ds := [_, _, _]) (es := [_, _, _, _]) (by simp))
end
end Oa
/-! told. -/
namespace Oa
open PySem L2
section
variable {P : Program} {w : World} {K : PySem.W.Frag} {mg : Str → Option Value} {base : Heap} (T : Defs K mg)
theorem lt_D {i j : Int} : RD (rI0 fun i j => .bl (decide (i < j))) (.int i) (.int j) (.bl (decide (i < j))) := rd_ib
theorem ok_told : FnOk P w K mg base CX0 2 T.told.f T.told.fd ["house", "me", "many", "letter", "lease"] (spL Rp_told) := by
  refine T.told.F.ok sc_told (fun vs H Q E h => spL_len h fun ds d es ⟨_, _, _, _, _, _, _, _, e, _⟩ => by rw [e]; rfl) (fun cdv A outer s H vs Q E hr h => ?_)
  refine ⟨_,
    (pss_cons (ps_if (PW.pt (pw_or (pt_cmpR op_ne (pe_ix (k_ixT (K := K) rfl) (pv 3) pe_int (fun _ _ => rfl)) pe_str (nomark _)) (pw_or (pt_cmpR op_lt (pe_ix (k_ixT (K := K) rfl) (pv 3) pe_int (fun _ _ => rfl)) (pe_ix (k_ixT (K := K) rfl) (pv 0) pe_int (fun _ _ => rfl)) (nomark _)) (pw_or1 (pt_cmpR op_eq (pe_call (ok_owner T) (hr.mono (by decide)) (by rfl) T.owner.g T.owner.F.kp T.owner.b .nil pass0 (pa_cons (pe_ix (k_ixT (K := K) rfl) (pv 3) pe_int (fun _ _ => rfl)) (pa_cons (pv 2) pa_nil))) (pv 1) (nomark _))))))
      (pss_one (ps_ret (pe_tup (pa_cons (pv 0) (pa_cons (pe_lst pa_nil) pa_nil))))) pss_nil)
    (pss_cons (ps_asg (pv 0) (k_pgT (K := K) (n := 7) rfl (by rfl) (pgs_cons (pg_name (i := 5) sc_told.nd rfl (.inl rfl)) (pgs_cons (pg_name (i := 6) sc_told.nd rfl (.inl rfl)) (pgs_cons (pg_name (i := 7) sc_told.nd rfl (.inl rfl)) (pgs_cons (pg_name (i := 8) sc_told.nd rfl (.inl rfl)) (pgs_cons (pg_name (i := 9) sc_told.nd rfl (.inl rfl)) (pgs_cons (pg_name (i := 10) sc_told.nd rfl (.inl rfl)) (pgs_cons (pg_name (i := 11) sc_told.nd rfl (.inl rfl)) pgs_nil)))))))))
    (pss_cons (ps_asg (pv 3) (k_pgT (K := K) (n := 5) rfl (by rfl) (pgs_cons (pg_name (i := 12) sc_told.nd rfl (.inl rfl)) (pgs_cons (pg_name (i := 13) sc_told.nd rfl (.inl rfl)) (pgs_cons (pg_name (i := 14) sc_told.nd rfl (.inl rfl)) (pgs_cons (pg_name (i := 15) sc_told.nd rfl (.inl rfl)) (pgs_cons (pg_name (i := 16) sc_told.nd rfl (.inl rfl)) pgs_nil)))))))
    (pss_cons (ps_if (PW.pt (pw_or (pt_cmpR op_gt (pv 13) (pv 6) (nomark _)) (pw_or1 (pt_cmpR op_gt (pe_call (ok_length T) (hr.mono (by decide)) (by rfl) T.length.g T.length.F.kp T.length.b .nil pass0 (pa_cons (pv 14) pa_nil)) (pe_call (ok_length T) (hr.mono (by decide)) (by rfl) T.length.g T.length.F.kp T.length.b .nil pass0 (pa_cons (pv 7) pa_nil)) (nomark _)))))
      (pss_one (ps_set (i := 7) sc_told.nd rfl (.inl rfl) (pv 14))) pss_nil)
    (pss_cons (ps_set (i := 8) sc_told.nd rfl (.inl rfl) (pe_callB (call_max2 rfl) (by rfl) T.n_max bb_max (pa_cons (pv 8) (pa_cons (pe_callB (call_min2 rfl) (by rfl) T.n_min bb_min (pa_cons (pv 15) (pa_cons (pe_call (ok_length T) (hr.mono (by decide)) (by rfl) T.length.g T.length.F.kp T.length.b .nil pass0 (pa_cons (pv 7) pa_nil)) pa_nil))) pa_nil))))
    (pss_cons (ps_set (i := 17) sc_told.nd rfl (.inl rfl) (pe_tup (pa_cons (pv 13) (pa_cons (pv 13) (pa_cons (pv 7) (pa_cons (pv 8) (pa_cons (pe_callB (call_max2 rfl) (by rfl) T.n_max bb_max (pa_cons (pv 9) (pa_cons (pe_op op_add (pv 16) (pv 4)) pa_nil))) (pa_cons (pv 10) (pa_cons pe_non pa_nil)))))))))
    (pss_one (ps_ret (pe_tup (pa_cons (pv 17) (pa_cons (pe_lst (pa_cons (pe_tup (pa_cons pe_str (pa_cons (pv 13) (pa_cons (pv 1) (pa_cons (pe_call (ok_length T) (hr.mono (by decide)) (by rfl) T.length.g T.length.F.kp T.length.b .nil pass0 (pa_cons (pv 7) pa_nil)) (pa_cons (pv 16) pa_nil)))))) pa_nil)) pa_nil))))))))))), ?_⟩
  refine body_L h fun ds d es hR => ?_
  obtain ⟨h, me, many, wh, l, k, t, lease, rfl, hm, hc⟩ := hR
  have ix0 : ∀ {δ : DE}, δ[3]? = some (some (Letter.rows wh l k t).d) → EvD (tOp (rIxT K) (tVar 3) (tC (.int 0))) δ (.str "rows") := fun e => ed_op (ed_var (d := (Letter.rows wh l k t).d) e) ed_int (rd_ixT' rfl (by decide))
  have ix1 : ∀ {δ : DE}, δ[3]? = some (some (Letter.rows wh l k t).d) → EvD (tOp (rIxT K) (tVar 3) (tC (.int 1))) δ (.int wh) := fun e => ed_op (ed_var (d := (Letter.rows wh l k t).d) e) ed_int (rd_ixT' rfl (by decide))
  have hx0 : ∀ {δ : DE}, δ[0]? = some (some h.d) → EvD (tOp (rIxT K) (tVar 0) (tC (.int 0))) δ (.int h.which) := fun e => ed_op (ed_var (d := h.d) e) ed_int (rd_ixT' rfl (by decide))
  have test := fun (δ : DE) (e0 : δ[0]? = some (some h.d)) (e1 : δ[1]? = some (some (.int me))) (e2 : δ[2]? = some (some (.int many))) (e3 : δ[3]? = some (some (Letter.rows wh l k t).d)) =>
    et_or (δ := δ) (b := false) (EtD.to (et_test (ed_op (ix0 e3) ed_str rd_neS)) (by rw [decide_eq_true rfl]; rfl)) (fun _ => et_or (et_test (ed_op (ix1 e3) (hx0 e0) (lt_D))) (fun _ => et_test (ed_op (ed_call (E0 := E0) (ea_cons (ix1 e3) (ea_cons (ed_var e2) ea_nil)) (pr_owner hm)) (ed_var e1) rd_eqI)))
  rcases hc with ⟨hb, rfl, rfl⟩ | ⟨hb, rfl, rfl⟩
  · refine sdl_take (test _ rfl rfl rfl rfl) ?_ (sdl_ret (ed_var rfl) en_nil)
    rcases hb with hb | hb
    · simp [hb]
    · simp [hb]
  · refine sdl_skip (test _ rfl rfl rfl rfl) ?_ ?_
    · have h1 : ¬ wh < h.which := fun z => hb (.inl z)
      have h2 : ¬ (wh - 1) % many = me := fun z => hb (.inr z)
      simp [h1, h2]
    refine sdl_one (δ1 := [some h.d, some (.int me), some (.int many), some (Letter.rows wh l k t).d, some (.int lease), some (.int h.which), some (.int h.taken), some h.log.d, some (.int h.settled), some (.int h.until_), some (.bl true), some h.role.d, none, none, none, none, none, none])
      (sd_asg (ed_var (d := h.d) rfl) (gd_tup (gds_cons gd_name (gds_cons gd_name (gds_cons gd_name (gds_cons gd_name (gds_cons gd_name (gds_cons gd_name (gds_cons gd_name gds_nil))))))) rfl) rfl) ?_
    refine sdl_one (δ1 := [some h.d, some (.int me), some (.int many), some (Letter.rows wh l k t).d, some (.int lease), some (.int h.which), some (.int h.taken), some h.log.d, some (.int h.settled), some (.int h.until_), some (.bl true), some h.role.d, some (.str "rows"), some (.int wh), some l.d, some (.int k), some (.int t), none])
      (sd_asg (ed_var (d := (Letter.rows wh l k t).d) rfl) (gd_tup (gds_cons gd_name (gds_cons gd_name (gds_cons gd_name (gds_cons gd_name (gds_cons gd_name gds_nil))))) rfl) rfl) ?_
    refine sdl_one (δ1 := [some h.d, some (.int me), some (.int many), some (Letter.rows wh l k t).d, some (.int lease), some (.int h.which), some (.int h.taken), some (toldLog h wh l).d, some (.int h.settled), some (.int h.until_), some (.bl true), some h.role.d, some (.str "rows"), some (.int wh), some l.d, some (.int k), some (.int t), none])
      (sd_if (b := decide (h.taken < wh) || decide (h.log.len < l.len)) (et_or (et_test (ed_op (ed_var rfl) (ed_var rfl) rd_ib)) (fun _ => et_test (ed_op (ed_call (ea_cons (ed_var rfl) ea_nil) pr_length) (ed_call (ea_cons (ed_var rfl) ea_nil) pr_length) rd_ib))) (fun hb' => ?_) (fun hb' => ?_)) ?_
    · refine sd_set (ed_var rfl) ?_
      have : toldLog h wh l = l := by
        unfold toldLog
        rw [if_pos]
        rw [Bool.or_eq_true] at hb'
        rcases hb' with z | z
        · exact .inl (of_decide_eq_true z)
        · exact .inr (of_decide_eq_true z)
      rw [this]
      rfl
    · refine sd_next ?_
      have : toldLog h wh l = h.log := by
        unfold toldLog
        rw [if_neg]
        rw [Bool.or_eq_false_iff] at hb'
        rintro (z | z)
        · exact of_decide_eq_false hb'.1 z
        · exact of_decide_eq_false hb'.2 z
      rw [this]
    refine sdl_one (δ1 := [some h.d, some (.int me), some (.int many), some (Letter.rows wh l k t).d, some (.int lease), some (.int h.which), some (.int h.taken), some (toldLog h wh l).d, some (.int (max h.settled (min k (toldLog h wh l).len))), some (.int h.until_), some (.bl true), some h.role.d, some (.str "rows"), some (.int wh), some l.d, some (.int k), some (.int t), none])
      (sd_set (ed_cb (ea_cons (ed_var rfl) (ea_cons (ed_cb (ea_cons (ed_var rfl) (ea_cons (ed_call (ea_cons (ed_var rfl) ea_nil) pr_length) ea_nil)) rc_min) ea_nil)) rc_max) rfl) ?_
    refine sdl_one (sd_set (d := (h.told wh l k t lease).d) ?_ rfl) ?_
    · exact EvD.to (ed_tup (ds := [.int wh, .int wh, (toldLog h wh l).d, .int (max h.settled (min k (toldLog h wh l).len)), .int (max h.until_ (t + lease)), .bl true, .non]) (ea_cons (ed_var rfl) (ea_cons (ed_var rfl) (ea_cons (ed_var rfl) (ea_cons (ed_var rfl) (ea_cons (ed_cb (ea_cons (ed_var rfl) (ea_cons (ed_op (ed_var rfl) (ed_var rfl) rd_ii) ea_nil)) rc_max) (ea_cons (ed_var rfl) (ea_cons ed_non ea_nil))))))) (by simp)) rfl
    · refine sdl_ret (ed_var rfl) (en_lst (ea_cons (EvD.to (ed_tup (ea_cons ed_str (ea_cons (ed_var rfl) (ea_cons (ed_var rfl) (ea_cons (ed_call (ea_cons (ed_var rfl) ea_nil) pr_length) (ea_cons (ed_var rfl) ea_nil))))) (by simp)) rfl) ea_nil) (by simp))
end
end Oa
/-! The law's own plain defs: behind, enough, long, same. -/
namespace Oa
open PySem L2
def Rp_behind (ds : List D) (d : D) : Prop := ∃ (g : Grp) (rows : List Row) (g' : Grp), ds = [grpD g, .lst (rowsD rows)] ∧ groupBehind g rows = some g' ∧ d = grpD g'
def Rp_enough (ds : List D) (d : D) : Prop := ∃ (g : Grp) (hs : List Int), ds = [grpD g, .lst (hs.map D.int)] ∧ GOk g ∧ d = .bl (isEnough g hs)
def Rp_long (ds : List D) (d : D) : Prop := ∃ h : House, ds = [h.d] ∧ d = .int h.log.len
theorem pr_behind {g : Grp} {rows : List Row} {g' : Grp} (h : groupBehind g rows = some g') : Pr (spR Rp_behind) [grpD g, .lst (rowsD rows)] (grpD g') := pr_R ⟨g, rows, g', rfl, h, rfl⟩
theorem pr_enough {g : Grp} {hs : List Int} (h : GOk g) : Pr (spR Rp_enough) [grpD g, .lst (hs.map D.int)] (.bl (isEnough g hs)) := pr_R ⟨g, hs, rfl, h, rfl⟩
theorem pr_long {h : House} : Pr (spR Rp_long) [h.d] (.int h.log.len) := pr_R ⟨h, rfl, rfl⟩
theorem enough_cons {s : List Int} {g : Grp} {hs : List Int} : isEnough (s :: g) hs = (decide ((s.length : Int) < 2 * ((s.filter fun h => decide (h ∈ hs)).length : Int)) && isEnough g hs) := by
  unfold isEnough
  rw [List.all_cons]
section
variable {P : Program} {w : World} {K : PySem.W.Frag} {mg : Str → Option Value} {base : Heap} (T : Defs K mg)
theorem ok__law_long : FnOk P w K mg base CX0 1 T._law_long.f T._law_long.fd ["_law_house"] (spR Rp_long) := by
  refine T._law_long.F.ok sc__law_long (fun vs H Q E h => spR_len h fun ds d ⟨_, e, _⟩ => by rw [e]; rfl) (fun cdv A outer s H vs Q E hr h => ?_)
  refine ⟨_,
    (pss_one (ps_ret (pe_op op_add (pe_ix (k_ixT (K := K) rfl) (pe_ix (k_ixT (K := K) rfl) (pv 0) pe_int (fun _ _ => rfl)) pe_int (fun _ _ => rfl)) (pe_callB (k_len (K := K) rfl) (by rfl) T.n_len bb_len (pa_cons (pe_ix (k_ixT (K := K) rfl) (pe_ix (k_ixT (K := K) rfl) (pv 0) pe_int (fun _ _ => rfl)) pe_int (fun _ _ => rfl)) pa_nil))))), ?_⟩
  refine body_R h fun ds d hR => ?_
  obtain ⟨h, rfl, rfl⟩ := hR
  refine sd_ret (EvD.to (ed_op (ed_op (ed_op (ed_var (d := h.d) rfl) ed_int (rd_ixT' rfl (by decide))) ed_int (rd_ixT' (K := K) (ds := [_, _, _, _]) rfl (by decide))) (ed_cb (ea_cons (ed_op (ed_op (ed_var (d := h.d) rfl) ed_int (rd_ixT' rfl (by decide))) ed_int (rd_ixT' (K := K) (ds := [_, _, _, _]) rfl (by decide))) ea_nil) rc_lenT) rd_ii) ?_) rfl
  show D.int _ = D.int _
  unfold Log.len
  rw [show (rowsD h.log.rows).length = h.log.rows.length from List.length_map ..]
theorem ok__law_behind : FnOk P w K mg base CX0 1 T._law_behind.f T._law_behind.fd ["_law_group", "_law_rows_here"] (spR Rp_behind) := by
  refine T._law_behind.F.ok sc__law_behind (fun vs H Q E h => spR_len h fun ds d ⟨_, _, _, e, _⟩ => by rw [e]; rfl) (fun cdv A outer s H vs Q E hr h => ?_)
  refine ⟨_,
    (pss_cons (ps_for PassesOwn.never rfl (k_piL (K := K) rfl (pv 1)) (pg_name (i := 2) sc__law_behind.nd rfl (.inl rfl))
      (pss_cons (ps_if (pt_cmpR op_eq (pe_ix (k_ixT (K := K) rfl) (pv 2) pe_int (fun _ _ => rfl)) pe_str (nomark _))
        (pss_one (ps_set (i := 0) sc__law_behind.nd rfl (.inl rfl) (pe_tup (pa_cons (pe_ix (k_ixT (K := K) rfl) (pv 0) pe_int (fun _ _ => rfl)) (pa_cons (pe_ix (k_ixT (K := K) rfl) (pv 2) pe_int (fun _ _ => rfl)) pa_nil))))) pss_nil)
      (pss_one (ps_if (pt_cmpR op_eq (pe_ix (k_ixT (K := K) rfl) (pv 2) pe_int (fun _ _ => rfl)) pe_str (nomark _))
        (pss_one (ps_set (i := 0) sc__law_behind.nd rfl (.inl rfl) (pe_tup (pa_cons (pe_ix (k_ixT (K := K) rfl) (pv 0) pe_int (fun _ _ => rfl)) pa_nil)))) pss_nil))))
    (pss_one (ps_ret (pv 0)))), ?_⟩
  refine body_R h fun ds d hR => ?_
  obtain ⟨g, rows, gz, rfl, hg, rfl⟩ := hR
  refine sd_seq (Nx' := fun δ' => ∃ v2, δ' = [some (grpD gz), some (.lst (rowsD rows)), v2])
    (sd_for (ds := rowsD rows) (fun i δ' => ∃ g' v2, δ' = [some (grpD g'), some (.lst (rowsD rows)), v2] ∧ groupBehind g' (rows.drop i) = some gz) (wd_list (ed_var rfl)) ⟨g, none, rfl, by rw [List.drop_zero]; exact hg⟩ ?_ ?_) ?_
  · rintro i d δ' hi ⟨g', v2, rfl, he⟩
    obtain ⟨r, hr', rfl⟩ := rows_get hi
    rw [drop_get hr'] at he
    unfold groupBehind at he
    cases hn : groupAfter g' r with
    | none =>
      rw [hn] at he
      cases he
    | some g2 =>
      rw [hn] at he
      have he : groupBehind g2 (rows.drop (i + 1)) = some gz := he
      refine ⟨_, _, gd_name, ?_⟩
      cases r with
      | deed c n x =>
        cases hn
        refine sd_one (δ1 := [some (grpD g'), some (.lst (rowsD rows)), some (Row.deed c n x).d]) (sd_if (b := false) (EtD.to (et_test (ed_op (ed_op (ed_var (d := (Row.deed c n x).d) rfl) ed_int (rd_ixT' rfl (by decide))) ed_str rd_eqS)) (decide_eq_false fun z => sne1 z.symm)) (fun z => nomatch z) (fun _ => sd_next rfl)) ?_
        exact sd_if (b := false) (EtD.to (et_test (ed_op (ed_op (ed_var (d := (Row.deed c n x).d) rfl) ed_int (rd_ixT' rfl (by decide))) ed_str rd_eqS)) (decide_eq_false fun z => sne2 z.symm)) (fun z => nomatch z) (fun _ => sd_next ⟨_, _, rfl, he⟩)
      | change s =>
        match g', hn with
        | [a], hn =>
          cases hn
          refine sd_one (δ1 := [some (grpD [a, s]), some (.lst (rowsD rows)), some (Row.change s).d]) (sd_if (b := true) (EtD.to (et_test (ed_op (ed_op (ed_var (d := (Row.change s).d) rfl) ed_int (rd_ixT' rfl (by decide))) ed_str rd_eqS)) (decide_eq_true rfl)) (fun _ => sd_set (d := grpD [a, s]) (ed_tup (ea_cons (ed_op (ed_var (d := grpD [a]) rfl) ed_int (rd_ixT' rfl (by decide))) (ea_cons (ed_op (ed_var (d := (Row.change s).d) rfl) ed_int (rd_ixT' rfl (by decide))) ea_nil)) (by simp)) rfl) (fun z => nomatch z)) ?_
          exact sd_if (b := false) (EtD.to (et_test (ed_op (ed_op (ed_var (d := (Row.change s).d) rfl) ed_int (rd_ixT' rfl (by decide))) ed_str rd_eqS)) (decide_eq_false sne4)) (fun z => nomatch z) (fun _ => sd_next ⟨_, _, rfl, he⟩)
      | close =>
        match g', hn with
        | [a, b], hn =>
          cases hn
          refine sd_one (δ1 := [some (grpD [a, b]), some (.lst (rowsD rows)), some Row.close.d]) (sd_if (b := false) (EtD.to (et_test (ed_op (ed_op (ed_var (d := Row.close.d) rfl) ed_int (rd_ixT' rfl (by decide))) ed_str rd_eqS)) (decide_eq_false sne3)) (fun z => nomatch z) (fun _ => sd_next rfl)) ?_
          exact sd_if (b := true) (EtD.to (et_test (ed_op (ed_op (ed_var (d := Row.close.d) rfl) ed_int (rd_ixT' rfl (by decide))) ed_str rd_eqS)) (decide_eq_true rfl)) (fun _ => sd_set (d := grpD [b]) (ed_tup (ea_cons (ed_op (ed_var (d := grpD [a, b]) rfl) ed_int (rd_ixT' rfl (by decide))) ea_nil) (by simp)) ⟨_, _, rfl, he⟩) (fun z => nomatch z)
  · rintro δ' ⟨g', v2, rfl, he⟩
    have hl : (rowsD rows).length = rows.length := List.length_map ..
    rw [hl, List.drop_length] at he
    cases he
    exact ⟨v2, rfl⟩
  · rintro δ' ⟨v2, rfl⟩
    exact sd_ret (ed_var rfl) rfl
theorem ok__law_enough : FnOk P w K mg base CX0 1 T._law_enough.f T._law_enough.fd ["_law_group", "_law_houses"] (spR Rp_enough) := by
  refine T._law_enough.F.ok sc__law_enough (fun vs H Q E h => spR_len h fun ds d ⟨_, _, e, _⟩ => by rw [e]; rfl) (fun cdv A outer s H vs Q E hr h => ?_)
  refine ⟨_,
    (pss_cons (ps_for PassesOwn.never rfl (k_piT (K := K) rfl (pv 0)) (pg_name (i := 2) sc__law_enough.nd rfl (.inl rfl))
      (pss_one (ps_if (pt_cmpR op_le (pe_op op_mul pe_int (pe_callB (k_len (K := K) rfl) (by rfl) T.n_len bb_len (pa_cons (pe_lc (own := [("_law_house", 3)]) rfl sc__law_enough.nd (k_piT (K := K) rfl (pv 2)) (blkOk_by (N := nN__law_enough) (sc := defScope s__law_enough) (own := [("_law_house", 3)]) (by decide +kernel)) (fun _ _ _ _ _ => (pg_name (i := 3) sc__law_enough.nd rfl (.inl rfl))) (fun _ _ _ _ _ => (pts_one (pt_cmpR (k_in (K := K) rfl) (pv 3) (pv 1) (by with_unfolding_all rfl)))) (fun _ _ _ _ _ => (pv 3))) pa_nil))) (pe_callB (k_len (K := K) rfl) (by rfl) T.n_len bb_len (pa_cons (pv 2) pa_nil)) (nomark _))
        (pss_one (ps_ret pe_bl)) pss_nil)))
    (pss_one (ps_ret pe_bl))), ?_⟩
  refine body_R h fun ds d hR => ?_
  obtain ⟨g, hs, rfl, hg, rfl⟩ := hR
  refine sd_seq (Nx' := fun _ => isEnough g hs = true) (sd_for (ds := g.map setD) (fun i δ' => ∃ v2, δ' = [some (grpD g), some (.lst (hs.map D.int)), v2, none] ∧ isEnough (g.drop i) hs = isEnough g hs) (wd_tup (ed_var rfl)) ⟨none, rfl, by rw [List.drop_zero]⟩ ?_ ?_) (fun δ' he => by rw [he]; exact sd_ret ed_bl rfl)
  · rintro i d δ' hi ⟨v2, rfl, he⟩
    rw [List.getElem?_map] at hi
    cases hs' : g[i]? with
    | none =>
      rw [hs'] at hi
      cases hi
    | some s =>
      rw [hs'] at hi
      have hi : setD s = d := Option.some.inj hi
      subst hi
      rw [drop_get hs', enough_cons] at he
      refine ⟨_, _, gd_name, ?_⟩
      have h1 : EvN (tLc (iTup K (tVar 2)) (gName 3) (tTest (tOp (rIn K false) (tVar 3) (tVar 1))) (tVar 3) [3]) [some (grpD g), some (.lst (hs.map D.int)), some (setD s), none] ((s.filter fun h => decide (h ∈ hs)).map D.int) :=
        en_lcM (F := D.int) (fun h => decide (h ∈ hs)) D.int (wd_tup (ed_var rfl)) (Nat.le_trans (hg.2 s (List.mem_of_getElem? hs')) (by decide)) fun n _ =>
          ⟨_, _, fun i hi => hi, gd_name, et_test (ed_op (ed_var rfl) (ed_var rfl) rd_inL), fun _ => ⟨rfl, ed_var rfl⟩⟩
      have h2 : EvD (tCB (fun xs H Q => ∃ p ys, xs = [.ref p] ∧ (SqL K H p ys ∨ SqT K H p ys) ∧ Q (.int ys.length) H) (tCons (tLc (iTup K (tVar 2)) (gName 3) (tTest (tOp (rIn K false) (tVar 3) (tVar 1))) (tVar 3) [3]) tNil)) [some (grpD g), some (.lst (hs.map D.int)), some (setD s), none] (.int ((s.filter fun h => decide (h ∈ hs)).length : Int)) := by
        have := ed_cb (ea_cons h1.ed ea_nil) (rc_lenL (K := K))
        rw [List.length_map] at this
        exact this
      have h3 : EvD (tCB (fun xs H Q => ∃ p ys, xs = [.ref p] ∧ (SqL K H p ys ∨ SqT K H p ys) ∧ Q (.int ys.length) H) (tCons (tVar 2) tNil)) [some (grpD g), some (.lst (hs.map D.int)), some (setD s), none] (.int (s.length : Int)) := by
        have := ed_cb (ea_cons (ed_var (i := 2) (d := setD s) (δ := [some (grpD g), some (.lst (hs.map D.int)), some (setD s), none]) rfl) ea_nil) (rc_lenT (K := K))
        rw [List.length_map] at this
        exact this
      refine sd_if (et_test (ed_op (ed_op ed_int h2 (rd_iiC (.inl (by decide)))) h3 rd_ib)) (fun hb => ?_) (fun hb => ?_)
      · have hb := of_decide_eq_true hb
        refine sd_ret ed_bl ?_
        rw [← he, decide_eq_false (by omega)]
        rfl
      · have hb := of_decide_eq_false hb
        rw [decide_eq_true (by omega), Bool.true_and] at he
        exact sd_next ⟨_, rfl, he⟩
  · rintro δ' ⟨v2, rfl, he⟩
    rw [List.length_map, List.drop_length] at he
    exact he.symm
end
end Oa
/-! The law's own comparison, of two things that show one datum. -/
namespace Oa
open PySem L2
/-- data of tuples, ints and texts, so deep at most -/
inductive Good : Nat → D → Prop where
  | int (n : Nat) (i : Int) : Good n (.int i)
  | str (n : Nat) (s : Str) : Good n (.str s)
  | tup (n : Nat) (ds : List D) (h : ∀ d ∈ ds, Good n d) (hl : ds.length ≤ 1000) : Good (n + 1) (.tup ds)
def Rp_same (n : Nat) (ds : List D) (d : D) : Prop := ∃ x, ds = [x, x] ∧ Good n x ∧ d = .bl true
theorem pr_same {n : Nat} {x : D} (h : Good n x) : Pr (spR (Rp_same n)) [x, x] (.bl true) := pr_R ⟨x, rfl, h, rfl⟩
def Tn (K : PySem.W.Frag) (d : D) (t : String) : Prop := ∀ H v, Rp H d v → TyX K H v (.type t)
section
variable {K : PySem.W.Frag} {d : D} {ds : List D} {δ : DE}
theorem tn_int {i : Int} : Tn K (.int i) "int" := fun H v h => by rw [of_int h]; exact .base (.int i)
theorem tn_str {s : Str} : Tn K (.str s) "str" := fun H v h => by rw [of_str h]; exact .base (.str s)
theorem tn_tup : Tn K (.tup ds) "tuple" := fun H v h => by
  obtain ⟨a, vs, rfl, e, _⟩ := of_tup h
  exact .base (.tup e)
theorem rc_isi {t n : String} {b : Bool} (h : Tn K d t) (hk : kitB t n = some b) : RC (rIsi K) [d, .ty n] (.bl b) := fun H vs r Q q => by
  obtain ⟨v, r0, rfl, h1, h2⟩ := of_cons r
  obtain ⟨v2, r0, rfl, h3, h4⟩ := of_cons h2
  rw [of_nil h4, of_ty h3]
  exact ⟨v, .ty n, .type t, .type n, b, rfl, .ty n, h H v h1, kit_ty hk, q _ H (Same.refl H) rp_bl⟩
theorem rc_isiT {t n m : String} {b c : Bool} (h : Tn K d t) (hk : kitB t n = some b) (hk2 : kitB t m = some c) : RC (rIsiT K) [d, .tup [.ty n, .ty m]] (.bl (b || c)) := fun H vs r Q q => by
  obtain ⟨v, r0, rfl, h1, h2⟩ := of_cons r
  obtain ⟨v2, r0, rfl, h3, h4⟩ := of_cons h2
  rw [of_nil h4]
  obtain ⟨a, us, rfl, e, r5⟩ := of_tup h3
  obtain ⟨u1, r6, rfl, h6, h7⟩ := of_cons r5
  obtain ⟨u2, r8, rfl, h8, h9⟩ := of_cons h7
  rw [of_nil h9, of_ty h6, of_ty h8] at e
  refine ⟨v, a, _, .type t, [.type n, .type m], b || c, rfl, e, .cons (.ty n) (.cons (.ty m) .nil), h H v h1, ?_, q _ H (Same.refl H) rp_bl⟩
  refine kitAny_cons (kit_ty hk) (fun hb => kitAny_cons (kit_ty hk2) (fun hc => ?_) fun hc => ?_) fun hb => ?_
  · rw [hb, hc]
    exact kitAny_nil
  · rw [hc, Bool.or_true]
  · rw [hb, Bool.true_or]
theorem walk_zipT {a b : Addr} {xs ys : List V} {n : Nat} (hn : n = min xs.length ys.length) : Walk (RZ.ItzT K a b) n (fun H => SqT K H a xs ∧ SqT K H b ys) (YPair (fun i => xs[i]?) (fun i => ys[i]?)) := by
  subst hn
  refine ⟨fun i H hi h => ⟨xs, ys, xs[i]'(by omega), ys[i]'(by omega), h.1, h.2, List.getElem?_eq_getElem _, List.getElem?_eq_getElem _⟩, fun H h => ⟨xs, ys, h.1, h.2, by omega⟩, fun i H x H' hi h ⟨T, u, v, e1, e2, e3, e4, e5⟩ => ⟨T, u, v, e1, e2, e3, e4 xs h.1, e5 ys h.2⟩⟩
theorem wd_zipT {ta : TA} {xs ys : List D} (h : EaD ta δ [.tup xs, .tup ys]) : WD (RZ.iZipA K ta) δ (zipD xs ys) := fun σ H E R q => h σ H E _ fun vs H1 e1 r1 => by
  obtain ⟨v, r0, rfl, h3, h2⟩ := of_cons r1
  obtain ⟨v2, r2, rfl, h4, h5⟩ := of_cons h2
  rw [of_nil h5]
  obtain ⟨a, us, rfl, h6, r6⟩ := of_tup h3
  obtain ⟨b, ws, rfl, h7, r7⟩ := of_tup h4
  refine ⟨a, b, us, ws, rfl, .inr ⟨SqT.of h6, SqT.of h7, ?_⟩⟩
  have w := walk_zipT (K := K) (a := a) (b := b) (xs := us) (ys := ws) (n := min us.length ws.length) rfl
  rw [r6.length, r7.length, ← zipD_len] at w
  refine q _ H1 _ _ e1 w (fun H' e => ⟨.inl (.inl (e _ _ h6)), .inl (.inl (e _ _ h7))⟩) fun i H' x H'' e hi y => ?_
  obtain ⟨T, x', y', rfl, hT, rfl, hx, hy⟩ := y
  obtain ⟨d, k1, k2⟩ := r6.at hx
  obtain ⟨d2, k3, k4⟩ := r7.at hy
  exact ⟨ex_new hT, _, zip_get k1 k3, rp_tup upd_same (rs_cons (k2.mono (e.trans (ex_new hT))) (rs_cons (k4.mono (e.trans (ex_new hT))) rs_nil))⟩
theorem zip_self {ds : List D} : zipD ds ds = ds.map fun d => D.tup [d, d] := by
  unfold zipD
  induction ds with
  | nil => rfl
  | cons d ds ih =>
    rw [List.zip_cons_cons, List.map_cons, List.map_cons, ih]
end
section
variable {P : Program} {w : World} {K : PySem.W.Frag} {mg : Str → Option Value} {base : Heap} (T : Defs K mg)
theorem same_step {n : Nat} {sp' : Sp} (G : FnOk P w K mg base CX0 n T._law_same.f T._law_same.fd ["_law_found", "_law_due"] sp') (hG : ∀ m, n = m + 1 → sp' = spR (Rp_same m)) :
    FnOk P w K mg base CX0 (n + 1) T._law_same.f T._law_same.fd ["_law_found", "_law_due"] (spR (Rp_same n)) := by
  refine T._law_same.F.ok sc__law_same (fun vs H Q E h => spR_len h fun ds d ⟨_, e, _⟩ => by rw [e]; rfl) (fun cdv A outer s H vs Q E hr h => ?_)
  refine ⟨_,
    (pss_cons (ps_if (pt_val (pe_callB (k_isiT (K := K) rfl) (by rfl) T.n_isinstance bb_isinstance (pa_cons (pv 1) (pa_cons (pe_tup (pa_cons (pe_bltn (v := .ty "list") (by rfl) T.n_list bb_list rfl) (pa_cons (pe_bltn (v := .ty "tuple") (by rfl) T.n_tuple bb_tuple rfl) pa_nil))) pa_nil))))
      (pss_cons (ps_if (PW.pt (pw_or (pt_cmpR op_ne (pe_callB (k_isi (K := K) rfl) (by rfl) T.n_isinstance bb_isinstance (pa_cons (pv 0) (pa_cons (pe_bltn (v := .ty "list") (by rfl) T.n_list bb_list rfl) pa_nil))) (pe_callB (k_isi (K := K) rfl) (by rfl) T.n_isinstance bb_isinstance (pa_cons (pv 1) (pa_cons (pe_bltn (v := .ty "list") (by rfl) T.n_list bb_list rfl) pa_nil))) (nomark _)) (pw_or1 (pt_cmpR op_ne (pe_callB (k_isi (K := K) rfl) (by rfl) T.n_isinstance bb_isinstance (pa_cons (pv 0) (pa_cons (pe_bltn (v := .ty "tuple") (by rfl) T.n_tuple bb_tuple rfl) pa_nil))) (pe_callB (k_isi (K := K) rfl) (by rfl) T.n_isinstance bb_isinstance (pa_cons (pv 1) (pa_cons (pe_bltn (v := .ty "tuple") (by rfl) T.n_tuple bb_tuple rfl) pa_nil))) (nomark _)))))
        (pss_one (ps_ret pe_bl)) pss_nil)
      (pss_one (ps_ret (pe_and (pe_cmpR op_eq (pe_callB (k_len (K := K) rfl) (by rfl) T.n_len bb_len (pa_cons (pv 0) pa_nil)) (pe_callB (k_len (K := K) rfl) (by rfl) T.n_len bb_len (pa_cons (pv 1) pa_nil)) (nomark _)) (pe_one (pe_callB (k_all (K := K) rfl rfl) (by rfl) T.n_all bb_all (pa_cons (pe_lc (own := [("_law_one", 2), ("_law_other", 3)]) rfl sc__law_same.nd (k_pizipT (K := K) rfl (by rfl) T.n_zip (pa_cons (pv 0) (pa_cons (pv 1) pa_nil))) (blkOk_by (N := nN__law_same) (sc := defScope s__law_same) (own := [("_law_one", 2), ("_law_other", 3)]) (by decide +kernel)) (fun _ _ _ _ _ => (k_pgT (K := K) (n := 2) rfl (by rfl) (pgs_cons (pg_name (i := 2) sc__law_same.nd rfl (.inl rfl)) (pgs_cons (pg_name (i := 3) sc__law_same.nd rfl (.inl rfl)) pgs_nil)))) (fun _ _ _ _ _ => pts_nil) (fun _ _ _ _ _ => (pe_call G hr (by rfl) T._law_same.g T._law_same.F.kp T._law_same.b .nil pass0 (pa_cons (pv 2) (pa_cons (pv 3) pa_nil))))) pa_nil))))))) pss_nil)
    (pss_cons (ps_if (pt_cmpR op_isN (pv 1) pe_non (nomark _))
      (pss_one (ps_ret (pe_cmpR op_isN (pv 0) pe_non (nomark _)))) pss_nil)
    (pss_cons (ps_if (pt_val (pe_callB (k_isi (K := K) rfl) (by rfl) T.n_isinstance bb_isinstance (pa_cons (pv 1) (pa_cons (pe_bltn (v := .ty "bool") (by rfl) T.n_bool bb_bool rfl) pa_nil))))
      (pss_one (ps_ret (pe_and (pe_callB (k_isi (K := K) rfl) (by rfl) T.n_isinstance bb_isinstance (pa_cons (pv 0) (pa_cons (pe_bltn (v := .ty "bool") (by rfl) T.n_bool bb_bool rfl) pa_nil))) (pe_one (pe_cmpR op_eq (pv 0) (pv 1) (nomark _)))))) pss_nil)
    (pss_cons (ps_if (pt_val (pe_callB (k_isi (K := K) rfl) (by rfl) T.n_isinstance bb_isinstance (pa_cons (pv 1) (pa_cons (pe_bltn (v := .ty "str") (by rfl) T.n_str bb_str rfl) pa_nil))))
      (pss_one (ps_ret (pe_and (pe_callB (k_isi (K := K) rfl) (by rfl) T.n_isinstance bb_isinstance (pa_cons (pv 0) (pa_cons (pe_bltn (v := .ty "str") (by rfl) T.n_str bb_str rfl) pa_nil))) (pe_one (pe_cmpR op_eq (pv 0) (pv 1) (nomark _)))))) pss_nil)
    (pss_one (ps_ret (pe_and (pe_callB (k_isi (K := K) rfl) (by rfl) T.n_isinstance bb_isinstance (pa_cons (pv 0) (pa_cons (pe_bltn (v := .ty "int") (by rfl) T.n_int bb_int rfl) pa_nil))) (pe_and (pe_not (pe_callB (k_isi (K := K) rfl) (by rfl) T.n_isinstance bb_isinstance (pa_cons (pv 0) (pa_cons (pe_bltn (v := .ty "bool") (by rfl) T.n_bool bb_bool rfl) pa_nil)))) (pe_one (pe_cmpR op_eq (pv 0) (pv 1) (nomark _))))))))))), ?_⟩
  refine body_R h fun ds d hR => ?_
  obtain ⟨x, rfl, hx, rfl⟩ := hR
  have htup : ∀ (δ : DE), EvD (tTup (tCons (tC (.ty "list")) (tCons (tC (.ty "tuple")) tNil))) δ (.tup [.ty "list", .ty "tuple"]) := fun δ => ed_tup (ea_cons ed_ty (ea_cons ed_ty ea_nil)) (by simp)
  have isi : ∀ (δ : DE) (i : Nat) (t m : String) (b : Bool), δ[i]? = some (some x) → Tn K x t → kitB t m = some b → EvD (tCB (rIsi K) (tCons (tVar i) (tCons (tC (.ty m)) tNil))) δ (.bl b) := fun δ i t m b e h hk => ed_cb (ea_cons (ed_var e) (ea_cons ed_ty ea_nil)) (rc_isi h hk)
  cases hx with
  | int _ i =>
    refine sd_skip (b := false || false) (et_B (ed_cb (ea_cons (ed_var rfl) (ea_cons (htup _) ea_nil)) (rc_isiT tn_int (by decide +kernel) (by decide +kernel)))) rfl ?_
    refine sd_skip (b := false) (et_test (ed_op (ed_var rfl) ed_non rd_isN')) rfl ?_
    refine sd_skip (b := false) (et_B (isi _ 1 "int" "bool" false rfl tn_int (by decide +kernel))) rfl ?_
    refine sd_skip (b := false) (et_B (isi _ 1 "int" "str" false rfl tn_int (by decide +kernel))) rfl ?_
    refine sd_ret (ed_andV (isi _ 0 "int" "int" true rfl tn_int (by decide +kernel)) (fun _ => ed_andV (ed_notV (isi _ 0 "int" "bool" false rfl tn_int (by decide +kernel))) (fun _ => ed_op (ed_var rfl) (ed_var rfl) rd_eqI))) ?_
    rw [decide_eq_true rfl]
    rfl
  | str _ z =>
    refine sd_skip (b := false || false) (et_B (ed_cb (ea_cons (ed_var rfl) (ea_cons (htup _) ea_nil)) (rc_isiT tn_str (by decide +kernel) (by decide +kernel)))) rfl ?_
    refine sd_skip (b := false) (et_test (ed_op (ed_var rfl) ed_non rd_isN')) rfl ?_
    refine sd_skip (b := false) (et_B (isi _ 1 "str" "bool" false rfl tn_str (by decide +kernel))) rfl ?_
    refine sd_take (b := true) (et_B (isi _ 1 "str" "str" true rfl tn_str (by decide +kernel))) rfl ?_
    refine sd_ret (ed_andV (isi _ 0 "str" "str" true rfl tn_str (by decide +kernel)) (fun _ => ed_op (ed_var rfl) (ed_var rfl) rd_eqS)) ?_
    rw [decide_eq_true rfl]
    rfl
  | tup m ds hds hl =>
    cases hG m rfl
    refine sd_take (b := false || true) (et_B (ed_cb (ea_cons (ed_var rfl) (ea_cons (htup _) ea_nil)) (rc_isiT tn_tup (by decide +kernel) (by decide +kernel)))) rfl ?_
    refine sd_skip (b := (!decide (false = false)) || (!decide (true = true))) (et_or (et_test (ed_op (isi _ 0 "tuple" "list" false rfl tn_tup (by decide +kernel)) (isi _ 1 "tuple" "list" false rfl tn_tup (by decide +kernel)) rd_neB)) (fun _ => et_test (ed_op (isi _ 0 "tuple" "tuple" true rfl tn_tup (by decide +kernel)) (isi _ 1 "tuple" "tuple" true rfl tn_tup (by decide +kernel)) rd_neB))) (by simp) ?_
    have h1 : EvN (tLc (RZ.iZipA K (tCons (tVar 0) (tCons (tVar 1) tNil))) (gTup K 2 (gCons (gName 2) (gCons (gName 3) gNil))) tYes (tCall (spR (Rp_same m)) [] E0 (tCons (tVar 2) (tCons (tVar 3) tNil))) [2, 3]) [some (.tup ds), some (.tup ds), none, none] ((ds.filter fun _ => true).map fun _ => D.bl true) := by
      refine en_lcM (F := fun d => D.tup [d, d]) (fun _ => true) (fun _ => D.bl true) ?_ (Nat.le_trans hl (by decide)) fun d hd =>
        ⟨_, _, fun i hi => hi, gd_tup (gds_cons gd_name (gds_cons gd_name gds_nil)) rfl, et_yes, fun _ => ⟨rfl, ed_call (ea_cons (ed_var rfl) (ea_cons (ed_var rfl) ea_nil)) (pr_same (hds d hd))⟩⟩
      rw [← zip_self]
      exact wd_zipT (ea_cons (ed_var rfl) (ea_cons (ed_var rfl) ea_nil))
    rw [filter_true] at h1
    have e : (ds.map fun _ => D.bl true) = (ds.map fun _ => true).map D.bl := by
      rw [List.map_map]
      rfl
    rw [e] at h1
    refine sd_ret (ed_andV (ed_op (ed_cb (ea_cons (ed_var rfl) ea_nil) rc_lenT) (ed_cb (ea_cons (ed_var rfl) ea_nil) rc_lenT) rd_eqI) (fun _ => ed_cb (ea_cons h1.ed ea_nil) rc_all)) ?_
    rw [decide_eq_true rfl, Bool.true_and]
    congr 1
    rw [List.all_map]
    exact List.all_eq_true.mpr fun _ _ => rfl
theorem ok__law_same : ∀ n : Nat, FnOk P w K mg base CX0 (n + 1) T._law_same.f T._law_same.fd ["_law_found", "_law_due"] (spR (Rp_same n))
  | 0 => same_step T (sp' := fun _ _ _ _ => False) ⟨fun _ _ _ _ z => z.elim, fun _ _ _ _ _ _ _ _ _ _ _ _ _ z => z.elim⟩ fun m e => by cases e
  | n + 1 => same_step T (ok__law_same n) fun m e => by
    cases e
    rfl
end
end Oa
/-! The store that the law makes of rows, as plain lists; its datum. -/
namespace Oa
open PySem L2
/-- the worths by key, the last number and answer by client -/
structure SS where
  vals : List (Str × Int)
  lst : List (Int × Int × Int)
def putA {κ β : Type} [DecidableEq κ] (l : List (κ × β)) (k : κ) (b : β) : List (κ × β) := if (l.any fun e => decide (e.1 = k)) = true then l.map (fun e => if e.1 = k then (e.1, b) else e) else l ++ [(k, b)]
def getA {κ β : Type} [DecidableEq κ] (l : List (κ × β)) (k : κ) : Option β := (l.find? fun e => decide (e.1 = k)).map (·.2)
def SS.last (s : SS) (c : Int) : Int := ((getA s.lst c).getD (0, 0)).1
def SS.worth (s : SS) (k : Str) : Int := (getA s.vals k).getD 0
def SS.after (s : SS) (c n : Int) : Deed → SS
  | .get k => ⟨s.vals, putA s.lst c (n, s.worth k)⟩
  | .put k v => ⟨putA s.vals k v, putA s.lst c (n, s.worth k)⟩
  | .add k v => ⟨putA s.vals k (s.worth k + v), putA s.lst c (n, s.worth k + v)⟩
def SS.step (s : SS) : Row → SS
  | .deed c n x => if s.last c < n then s.after c n x else s
  | _ => s
def SS.of (rows : List Row) : SS := rows.foldl SS.step ⟨[], []⟩
def esV (l : List (Str × Int)) : Es := l.map fun e => (.inr e.1, .int e.2)
def numD (p : Int × Int) : D := .tup [.int p.1, .int p.2]
def esL (l : List (Int × Int × Int)) : Es := l.map fun e => (.inl e.1, numD e.2)
def SS.d (s : SS) : D := .tup [.tup ((sortI (s.vals.map fun e => [.inr e.1, .inl e.2])).map tupI), .tup ((sortI (s.lst.map fun e => [.inl e.1, .inl e.2.1, .inl e.2.2])).map tupI)]
/-- the log of the first rows, cut -/
def mkLog (g : Grp) (rows : List Row) (cut long : Nat) : Log := ⟨(cut : Int), (SS.of (rows.take cut)).d, (groupBehind g (rows.take cut)).getD [], (rows.take long).drop cut⟩
theorem inr_inj {a b : Str} : ((Sum.inr a : Key) = Sum.inr b) ↔ a = b := ⟨fun h => Sum.inr.inj h, fun h => by rw [h]⟩
theorem inl_inj {a b : Int} : ((Sum.inl a : Key) = Sum.inl b) ↔ a = b := ⟨fun h => Sum.inl.inj h, fun h => by rw [h]⟩
theorem putE_V {l : List (Str × Int)} {k : Str} {x : Int} : putE (esV l) (.inr k) (.int x) = esV (putA l k x) := by
  unfold putE putA esV
  rw [List.any_map]
  have e : ((fun kv : Key × D => decide (kv.1 = Sum.inr k)) ∘ fun e : Str × Int => ((Sum.inr e.1 : Key), D.int e.2)) = fun e => decide (e.1 = k) := by
    funext e
    exact decide_eq_decide.mpr inr_inj
  rw [e]
  split
  · rw [List.map_map, List.map_map]
    apply List.map_congr_left
    intro a _
    show (if (Sum.inr a.1 : Key) = Sum.inr k then ((Sum.inr a.1 : Key), D.int x) else (Sum.inr a.1, D.int a.2)) = (fun e : Str × Int => ((Sum.inr e.1 : Key), D.int e.2)) (if a.1 = k then (a.1, x) else a)
    by_cases h : a.1 = k
    · rw [if_pos h, if_pos (inr_inj.mpr h)]
    · rw [if_neg h, if_neg fun z => h (inr_inj.mp z)]
  · rw [List.map_append]
    rfl
theorem putE_L {l : List (Int × Int × Int)} {k : Int} {x : Int × Int} : putE (esL l) (.inl k) (numD x) = esL (putA l k x) := by
  unfold putE putA esL
  rw [List.any_map]
  have e : ((fun kv : Key × D => decide (kv.1 = Sum.inl k)) ∘ fun e : Int × Int × Int => ((Sum.inl e.1 : Key), numD e.2)) = fun e => decide (e.1 = k) := by
    funext e
    exact decide_eq_decide.mpr inl_inj
  rw [e]
  split
  · rw [List.map_map, List.map_map]
    apply List.map_congr_left
    intro a _
    show (if (Sum.inl a.1 : Key) = Sum.inl k then ((Sum.inl a.1 : Key), numD x) else (Sum.inl a.1, numD a.2)) = (fun e : Int × Int × Int => ((Sum.inl e.1 : Key), numD e.2)) (if a.1 = k then (a.1, x) else a)
    by_cases h : a.1 = k
    · rw [if_pos h, if_pos (inl_inj.mpr h)]
    · rw [if_neg h, if_neg fun z => h (inl_inj.mp z)]
  · rw [List.map_append]
    rfl
theorem valE_V {k : Str} : ∀ {l : List (Str × Int)}, valE (esV l) (.inr k) = (getA l k).map D.int
  | [] => rfl
  | e :: l => by
    have ih := valE_V (k := k) (l := l)
    by_cases h : e.1 = k
    · simp [valE, esV, getA, List.find?_cons, h]
    · have h1 : valE (esV (e :: l)) (.inr k) = valE (esV l) (.inr k) := by
        have : ¬ (Sum.inr e.1 : Key) = Sum.inr k := fun z => h (inr_inj.mp z)
        simp [valE, esV, List.find?_cons, this]
      have h2 : getA (e :: l) k = getA l k := by simp [getA, List.find?_cons, h]
      rw [h1, h2, ih]
theorem valE_L {k : Int} : ∀ {l : List (Int × Int × Int)}, valE (esL l) (.inl k) = (getA l k).map numD
  | [] => rfl
  | e :: l => by
    have ih := valE_L (k := k) (l := l)
    by_cases h : e.1 = k
    · simp [valE, esL, getA, List.find?_cons, h]
    · have h1 : valE (esL (e :: l)) (.inl k) = valE (esL l) (.inl k) := by
        have : ¬ (Sum.inl e.1 : Key) = Sum.inl k := fun z => h (inl_inj.mp z)
        simp [valE, esL, List.find?_cons, this]
      have h2 : getA (e :: l) k = getA l k := by simp [getA, List.find?_cons, h]
      rw [h1, h2, ih]
theorem immE_V {l : List (Str × Int)} : ((esV l).all fun x => imm x.2) = true := by
  unfold esV
  rw [List.all_map]
  exact List.all_eq_true.mpr fun _ _ => rfl
theorem immE_L {l : List (Int × Int × Int)} : ((esL l).all fun x => imm x.2) = true := by
  unfold esL
  rw [List.all_map]
  exact List.all_eq_true.mpr fun _ _ => rfl
/-- an item found by its own key, where no key stands twice -/
theorem getA_self {κ β : Type} [DecidableEq κ] : ∀ {l : List (κ × β)}, (l.map (·.1)).Nodup → ∀ e ∈ l, getA l e.1 = some e.2
  | a :: l, hn, e, he => by
    rw [List.map_cons, List.nodup_cons] at hn
    rcases List.mem_cons.mp he with rfl | he
    · simp [getA, List.find?_cons]
    · have hne : ¬ a.1 = e.1 := fun z => hn.1 (by rw [z]; exact List.mem_map.mpr ⟨e, he, rfl⟩)
      have ih := getA_self hn.2 e he
      unfold getA at ih ⊢
      rw [List.find?_cons, decide_eq_false hne]
      exact ih
theorem putA_keys {κ β : Type} [DecidableEq κ] {l : List (κ × β)} {k : κ} {b : β} (hn : (l.map (·.1)).Nodup) : ((putA l k b).map (·.1)).Nodup := by
  unfold putA
  split
  · have e : (l.map fun e => if e.1 = k then (e.1, b) else e).map (·.1) = l.map (·.1) := by
      rw [List.map_map]
      apply List.map_congr_left
      intro a _
      show (if a.1 = k then (a.1, b) else a).1 = a.1
      split <;> rfl
    rw [e]
    exact hn
  · rename_i h
    rw [List.map_append, List.nodup_append]
    refine ⟨hn, by simp, fun x hx y hy z => h ?_⟩
    have hy : y = k := by simpa using hy
    subst hy
    subst z
    obtain ⟨e, he, h2⟩ := List.mem_map.mp hx
    exact List.any_eq_true.mpr ⟨e, he, decide_eq_true h2⟩
theorem putA_len {κ β : Type} [DecidableEq κ] {l : List (κ × β)} {k : κ} {b : β} : (putA l k b).length ≤ l.length + 1 := by
  unfold putA
  split
  · rw [List.length_map]
    omega
  · rw [List.length_append]
    exact Nat.le_refl _
/-- no key twice, few -/
structure SS.Ok (s : SS) (n : Nat) : Prop where
  nv : (s.vals.map (·.1)).Nodup
  nl : (s.lst.map (·.1)).Nodup
  lv : s.vals.length ≤ n
  ll : s.lst.length ≤ n
theorem SS.Ok.step {s : SS} {n : Nat} (h : s.Ok n) (r : Row) : (s.step r).Ok (n + 1) := by
  have w : s.Ok (n + 1) := ⟨h.nv, h.nl, Nat.le_succ_of_le h.lv, Nat.le_succ_of_le h.ll⟩
  cases r with
  | change => exact w
  | close => exact w
  | deed c m x =>
    show SS.Ok (if s.last c < m then _ else s) (n + 1)
    split
    · cases x with
      | get k => exact ⟨w.nv, putA_keys h.nl, w.lv, Nat.le_trans putA_len (Nat.succ_le_succ h.ll)⟩
      | put k v => exact ⟨putA_keys h.nv, putA_keys h.nl, Nat.le_trans putA_len (Nat.succ_le_succ h.lv), Nat.le_trans putA_len (Nat.succ_le_succ h.ll)⟩
      | add k v => exact ⟨putA_keys h.nv, putA_keys h.nl, Nat.le_trans putA_len (Nat.succ_le_succ h.lv), Nat.le_trans putA_len (Nat.succ_le_succ h.ll)⟩
    · exact w
theorem ss_ok : ∀ (rows : List Row) (s : SS) (n : Nat), s.Ok n → (rows.foldl SS.step s).Ok (n + rows.length)
  | [], s, n, h => h
  | r :: rows, s, n, h => by
    have := ss_ok rows (s.step r) (n + 1) (h.step r)
    rw [List.foldl_cons, List.length_cons]
    rw [show n + (rows.length + 1) = n + 1 + rows.length by omega]
    exact this
theorem ss_of_ok (rows : List Row) : (SS.of rows).Ok rows.length := by
  have := ss_ok rows ⟨[], []⟩ 0 ⟨by simp, by simp, Nat.le_refl _, Nat.le_refl _⟩
  rw [Nat.zero_add] at this
  exact this
theorem imm_tupI (l : List Item) : imm (tupI l) = true := by
  unfold tupI imm
  refine immS_map (fun x => ?_) l
  cases x <;> rfl
theorem imm_ss (s : SS) : imm s.d = true := by
  show (immS _ && (immS _ && true)) = true
  rw [immS_map imm_tupI, immS_map imm_tupI]
  rfl
theorem ed_drop {te : TE} {δ : DE} {d : D} (i : Nat) (h : EvD te (δ.set i none) d) : EvD te δ d := fun σ H E Q q => h σ H ⟨by rw [List.length_set]; exact E.len, fun j e hj => by
  by_cases hji : i = j
  · subst hji
    have hl : i < δ.length := by
      have := (List.getElem?_eq_some_iff.mp hj).1
      rw [List.length_set] at this
      exact this
    rw [List.getElem?_set_self hl] at hj
    cases Option.some.inj hj
  · rw [List.getElem?_set_ne hji] at hj
    exact E.at_ j e hj⟩ Q q
theorem drop_take' {α : Type} (l : List α) (c L : Nat) : (l.drop (min c l.length)).take (min L l.length - min c l.length) = (l.take L).drop c := by
  rw [List.drop_take]
  by_cases hc : c ≤ l.length
  · rw [Nat.min_eq_left hc]
    by_cases hL : L ≤ l.length
    · rw [Nat.min_eq_left hL]
    · rw [Nat.min_eq_right (by omega), List.take_of_length_le (by rw [List.length_drop]; omega), List.take_of_length_le (by rw [List.length_drop]; omega)]
  · have h1 : l.drop c = [] := List.drop_eq_nil_of_le (by omega)
    rw [Nat.min_eq_right (by omega : l.length ≤ c), List.drop_length, h1, List.take_nil, List.take_nil]
end Oa
/-! Plain facts of groups and logs. -/
namespace Oa
open PySem L2
theorem gb_append {g : Grp} : ∀ {a b : List Row}, groupBehind g (a ++ b) = (groupBehind g a).bind fun g' => groupBehind g' b
  | [], b => rfl
  | r :: a, b => by
    show (match groupAfter g r with | some g' => groupBehind g' (a ++ b) | none => none) = Option.bind (match groupAfter g r with | some g' => groupBehind g' a | none => none) _
    cases h : groupAfter g r with
    | none => rfl
    | some g' => exact gb_append
theorem gb_take {g g' : Grp} {rows : List Row} (h : groupBehind g rows = some g') (n : Nat) : ∃ g2, groupBehind g (rows.take n) = some g2 := by
  have e : rows.take n ++ rows.drop n = rows := List.take_append_drop n rows
  rw [← e, gb_append] at h
  cases h2 : groupBehind g (rows.take n) with
  | none =>
    rw [h2] at h
    cases h
  | some g2 => exact ⟨g2, rfl⟩
theorem mkLog_len {g : Grp} {rows : List Row} {cut long : Nat} (h1 : cut ≤ long) (h2 : long ≤ rows.length) : (mkLog g rows cut long).len = (long : Int) := by
  show (cut : Int) + (((rows.take long).drop cut).length : Int) = (long : Int)
  rw [List.length_drop, List.length_take, Nat.min_eq_left h2]
  omega
theorem mkLog_grp {g g' : Grp} {rows : List Row} {cut long : Nat} (h1 : cut ≤ long) (h : groupBehind g rows = some g') : (mkLog g rows cut long).grp = groupBehind g (rows.take long) := by
  obtain ⟨g2, h2⟩ := gb_take h cut
  show groupBehind ((groupBehind g (rows.take cut)).getD []) ((rows.take long).drop cut) = _
  rw [h2]
  have e : rows.take long = rows.take cut ++ (rows.take long).drop cut := by
    have h3 := List.take_append_drop cut (rows.take long)
    rw [List.take_take, Nat.min_eq_left h1] at h3
    exact h3.symm
  rw [e, gb_append, h2, ← e]
  rfl
theorem mkLog_cut {g : Grp} {rows : List Row} {cut long : Nat} : (mkLog g rows cut long).cut = (cut : Int) := rfl
/-- the first rows stay, where rows are put behind -/
theorem mkLog_snoc {g : Grp} {rows : List Row} {cut long : Nat} (r : Row) (h1 : cut ≤ long) (h2 : long ≤ rows.length) : mkLog g (rows ++ [r]) cut long = mkLog g rows cut long := by
  unfold mkLog
  rw [List.take_append_of_le_length (Nat.le_trans h1 h2), List.take_append_of_le_length h2]
theorem mkLog_put {g : Grp} {rows : List Row} {cut : Nat} (r : Row) (h : cut ≤ rows.length) : (mkLog g rows cut rows.length).put r = mkLog g (rows ++ [r]) cut (rows.length + 1) := by
  unfold mkLog Log.put
  have h1 : (rows ++ [r]).take cut = rows.take cut := List.take_append_of_le_length h
  have h2 : (rows ++ [r]).take (rows.length + 1) = rows ++ [r] := List.take_of_length_le (by simp)
  rw [h1, h2, List.take_length, List.drop_append_of_le_length h]
/-- enough stays enough with more -/
theorem enough_mono {g : Grp} {A B : List Int} (h : isEnough g A = true) (hs : ∀ x ∈ A, x ∈ B) : isEnough g B = true := by
  unfold isEnough at h ⊢
  rw [List.all_eq_true] at h ⊢
  intro s hm
  have h1 := of_decide_eq_true (h s hm)
  apply decide_eq_true
  have h2 : (s.filter fun h => decide (h ∈ A)).length ≤ (s.filter fun h => decide (h ∈ B)).length := by
    clear h1 hm
    induction s with
    | nil => exact Nat.le_refl _
    | cons x s ih =>
      rw [List.filter_cons, List.filter_cons]
      by_cases hx : x ∈ A
      · rw [if_pos (decide_eq_true hx), if_pos (decide_eq_true (hs x hx)), List.length_cons, List.length_cons]
        exact Nat.succ_le_succ ih
      · rw [if_neg (by simp [hx])]
        split
        · rw [List.length_cons]
          exact Nat.le_succ_of_le ih
        · exact ih
  omega
/-- rows and groups of small sets -/
def RowOk : Row → Prop
  | .change s => s.length ≤ 1000
  | _ => True
theorem ga_ok {g g' : Grp} {r : Row} (hg : GOk g) (hr : RowOk r) (h : groupAfter g r = some g') : GOk g' := by
  cases r with
  | deed c n x =>
    cases h
    exact hg
  | change s =>
    match g, h with
    | [a], h =>
      cases h
      refine ⟨by simp, fun t ht => ?_⟩
      rcases List.mem_cons.mp ht with rfl | ht
      · exact hg.2 _ List.mem_cons_self
      · rcases List.mem_cons.mp ht with rfl | ht
        · exact hr
        · cases ht
  | close =>
    match g, h with
    | [a, b], h =>
      cases h
      refine ⟨by simp, fun t ht => ?_⟩
      rcases List.mem_cons.mp ht with rfl | ht
      · exact hg.2 _ (List.mem_cons_of_mem _ List.mem_cons_self)
      · cases ht
theorem gb_ok : ∀ {rows : List Row} {g g' : Grp}, GOk g → (∀ r ∈ rows, RowOk r) → groupBehind g rows = some g' → GOk g'
  | [], g, g', hg, _, h => by
    cases h
    exact hg
  | r :: rows, g, g', hg, hr, h => by
    have h : (match groupAfter g r with | some g2 => groupBehind g2 rows | none => none) = some g' := h
    cases h2 : groupAfter g r with
    | none =>
      rw [h2] at h
      cases h
    | some g2 =>
      rw [h2] at h
      exact gb_ok (ga_ok hg (hr r List.mem_cons_self) h2) (fun r' m => hr r' (List.mem_cons_of_mem _ m)) h
theorem Good.mono : ∀ {n : Nat} {d : D}, Good n d → ∀ {m : Nat}, n ≤ m → Good m d
  | _, _, .int _ i, m, _ => .int m i
  | _, _, .str _ s, m, _ => .str m s
  | _, _, .tup n ds h hl, m, hm => by
    cases m with
    | zero => omega
    | succ m => exact .tup m ds (fun d hd => Good.mono (h d hd) (by omega)) hl
theorem good_tup {n : Nat} {ds : List D} (h : ∀ d ∈ ds, Good n d) (hl : ds.length ≤ 1000) : Good (n + 1) (.tup ds) := .tup n ds h hl
theorem good_map {α : Type} {n : Nat} {f : α → D} {l : List α} (h : ∀ a ∈ l, Good n (f a)) (hl : l.length ≤ 1000) : Good (n + 1) (.tup (l.map f)) :=
  good_tup (fun d hd => by
    obtain ⟨a, ha, rfl⟩ := List.mem_map.mp hd
    exact h a ha) (by rw [List.length_map]; exact hl)
theorem good_set {s : List Int} (h : s.length ≤ 1000) : Good 1 (setD s) := good_map (fun _ _ => .int 0 _) h
theorem good_grp {g : Grp} (h : GOk g) : Good 2 (grpD g) := good_map (fun s hs => good_set (h.2 s hs)) h.1
theorem good_deed (x : Deed) : Good 1 x.d := by
  cases x with
  | get k => exact good_tup (fun d hd => by simp at hd; rcases hd with rfl | rfl <;> exact .str 0 _) (by simp)
  | put k v => exact good_tup (fun d hd => by simp at hd; rcases hd with rfl | rfl | rfl <;> first | exact .str 0 _ | exact .int 0 _) (by simp)
  | add k v => exact good_tup (fun d hd => by simp at hd; rcases hd with rfl | rfl | rfl <;> first | exact .str 0 _ | exact .int 0 _) (by simp)
theorem good_row {r : Row} (h : RowOk r) : Good 2 r.d := by
  cases r with
  | deed c n x =>
    refine good_tup (fun d hd => ?_) (by simp)
    simp at hd
    rcases hd with rfl | rfl | rfl | rfl
    · exact .str 1 _
    · exact .int 1 _
    · exact .int 1 _
    · exact good_deed x
  | change s =>
    refine good_tup (fun d hd => ?_) (by simp)
    simp at hd
    rcases hd with rfl | rfl
    · exact .str 1 _
    · exact good_set h
  | close =>
    refine good_tup (fun d hd => ?_) (by simp)
    simp at hd
    subst hd
    exact .str 1 _
theorem good_item (l : List Item) (h : l.length ≤ 1000) : Good 1 (tupI l) := good_map (fun x _ => by
  cases x with
  | inl i => exact .int 0 _
  | inr s => exact .str 0 _) h
theorem good_ss {s : SS} {n : Nat} (h : s.Ok n) (hn : n ≤ 1000) : Good 3 s.d := by
  refine good_tup (fun d hd => ?_) (by simp)
  simp at hd
  rcases hd with rfl | rfl
  · refine good_map (fun l hl => ?_) ?_
    · have h2 := (sortI_perm _).mem_iff.mp hl
      obtain ⟨e, _, rfl⟩ := List.mem_map.mp h2
      exact good_item _ (by simp)
    · rw [(sortI_perm _).length_eq, List.length_map]
      exact Nat.le_trans h.lv hn
  · refine good_map (fun l hl => ?_) ?_
    · have h2 := (sortI_perm _).mem_iff.mp hl
      obtain ⟨e, _, rfl⟩ := List.mem_map.mp h2
      exact good_item _ (by simp)
    · rw [(sortI_perm _).length_eq, List.length_map]
      exact Nat.le_trans h.ll hn
theorem good_log {g g' : Grp} {rows : List Row} {cut long : Nat} (hg : GOk g) (hr : ∀ r ∈ rows, RowOk r) (hl : rows.length ≤ 900) (h : groupBehind g rows = some g') : Good 4 (mkLog g rows cut long).d := by
  refine good_tup (fun d hd => ?_) (by simp)
  simp at hd
  obtain ⟨g2, h2⟩ := gb_take h cut
  rcases hd with rfl | rfl | rfl | rfl
  · exact .int 3 _
  · have := ss_of_ok (rows.take cut)
    refine good_ss this ?_
    rw [List.length_take]
    omega
  · show Good 3 (grpD ((groupBehind g (rows.take cut)).getD []))
    rw [h2]
    exact (good_grp (gb_ok hg (fun r m => hr r (List.mem_of_mem_take m)) h2)).mono (by decide)
  · refine good_map (fun r hm => good_row (hr r (List.mem_of_mem_take (List.mem_of_mem_drop hm)))) ?_
    show ((rows.take long).drop cut).length ≤ 1000
    rw [List.length_drop, List.length_take]
    omega
end Oa
/-! The law's own log. -/
namespace Oa
open PySem L2
def Rp_log (ds : List D) (d : D) : Prop := ∃ (g : Grp) (rows : List Row) (cut long : Nat) (g' : Grp), ds = [grpD g, .lst (rowsD rows), .int (cut : Int), .int (long : Int)] ∧ rows.length ≤ 900 ∧ groupBehind g (rows.take cut) = some g' ∧ d = (mkLog g rows cut long).d
theorem pr_log {g : Grp} {rows : List Row} {cut long : Nat} {g' : Grp} (hl : rows.length ≤ 900) (hg : groupBehind g (rows.take cut) = some g') : Pr (spR Rp_log) [grpD g, .lst (rowsD rows), .int (cut : Int), .int (long : Int)] (mkLog g rows cut long).d := pr_R ⟨g, rows, cut, long, g', rfl, hl, hg, rfl⟩
/-! ### single statements on the heap -/
section
variable {σ : St} {H : Hp} {δ : DE} {d : D} {te tv ty : TE} {c : TT} {b : Bool} {ts us : TS} {En : Ends} {i : Nat} {p : Addr} {k : Key}
theorem st_one (h : EvD te δ d) (E : Env σ H δ) (q : ∀ v H1, Ex H H1 → Rp H1 d v → us En (σ.set i (some v)) H1) : tSeq (tAsg te (gName i)) us En σ H := h σ H E _ q
theorem st_if (h : EtD c δ b) (E : Env σ H δ) (h1 : b = true → ∀ H1, Ex H H1 → ts En σ H1) (h2 : b = false → ∀ H1, Ex H H1 → us En σ H1) : tIfS c ts us En σ H := h σ H E _ fun H1 e => by
  cases b with
  | true => exact h1 rfl H1 e
  | false => exact h2 rfl H1 e
theorem st_when (h : EtD c δ b) (E : Env σ H δ) (h1 : b = true → ∀ H1, Ex H H1 → ts { En with nx := us En } σ H1) (h2 : b = false → ∀ H1, Ex H H1 → us En σ H1) : tSeq (tIfS c ts tNext) us En σ H := h σ H E _ fun H1 e => by
  cases b with
  | true => exact h1 rfl H1 e
  | false => exact h2 rfl H1 e
theorem st_dput (hp : σ[i]? = some (some (.ref p))) (hv : EvD tv δ d) (hk : EvD ty δ (kD k)) (E : Env σ H δ) (q : ∀ v H1, Ex H H1 → Rp H1 d v → ∃ kvs, H1 p = some (.dK kvs) ∧ kvs.length < sizeLine ∧ En.nx σ (upd H1 p (.dK (putK kvs k v)))) : sDPut (tVar i) ty tv En σ H :=
  hv σ H E _ fun v H1 e1 r1 => ⟨.ref p, hp, hk σ H1 (E.mono e1) _ fun y H2 e2 r2 => by
    obtain ⟨kvs, h3, h4, h5⟩ := q v H2 (e1.trans e2) (r1.mono e2)
    exact ⟨p, _, rfl, .inl ⟨kvs, k, h3, rp_key r2, h4, rfl⟩, h5⟩⟩
end
/-- how things stand between two turns: p4 and p5 the dicts of s, p6 the walked list -/
structure LSt (H : Hp) (p4 p5 p6 : Addr) (vs : List V) (R : List Row) (s : SS) (H' : Hp) : Prop where
  ex : Ex H H'
  h6 : H' p6 = some (.lst vs)
  r6 : RpS H' (rowsD R) vs
  h4 : ∃ kv, H' p4 = some (.dK kv) ∧ KvR H' (esV s.vals) kv
  h5 : ∃ kv, H' p5 = some (.dK kv) ∧ KvR H' (esL s.lst) kv
section
variable {H H' H1 : Hp} {p4 p5 p6 : Addr} {vs : List V} {R : List Row} {s : SS}
theorem KvR.mono {es : Es} {kv : List (Key × V)} (e : Ex H H') (h : KvR H es kv) : KvR H' es kv := by
  have : ∀ {es : Es} {kv : List (Key × V)}, KvR H es kv → KvR H' es kv := by
    intro es
    induction es with
    | nil =>
      intro kv h
      exact h
    | cons x es ih =>
      rintro kv ⟨k, r, rfl, h1, h2, h3⟩
      exact ⟨k, r, rfl, h1, h2.mono e, ih h3⟩
  exact this h
theorem LSt.mono (L : LSt H p4 p5 p6 vs R s H') (e : Ex H' H1) : LSt H p4 p5 p6 vs R s H1 := by
  obtain ⟨kv4, a4, k4⟩ := L.h4
  obtain ⟨kv5, a5, k5⟩ := L.h5
  exact ⟨L.ex.trans e, e _ _ L.h6, L.r6.mono e, ⟨kv4, e _ _ a4, k4.mono e⟩, kv5, e _ _ a5, k5.mono e⟩
/-- a worth stored -/
theorem LSt.putV (L : LSt H p4 p5 p6 vs R s H') (n4 : H p4 = none) (n45 : p4 ≠ p5) {k : Str} {x : Int} {kvs : List (Key × V)} (hk : H' p4 = some (.dK kvs)) : LSt H p4 p5 p6 vs R ⟨putA s.vals k x, s.lst⟩ (upd H' p4 (.dK (putK kvs (.inr k) (.int x)))) := by
  obtain ⟨kv4, a4, k4⟩ := L.h4
  obtain ⟨kv5, a5, k5⟩ := L.h5
  rw [hk] at a4
  cases a4
  have te : TEx H' (upd H' p4 (.dK (putK kvs (.inr k) (.int x)))) := tex_upd fun xs z => by
    rw [hk] at z
    cases z
  have n6 : p6 ≠ p4 := ne_of L.h6 hk (by intro z; cases z)
  refine ⟨ex_mut L.ex n4, by rw [upd_ne n6]; exact L.h6, L.r6.keep te (imm_rows R), ⟨_, upd_same, ?_⟩, kv5, by rw [upd_ne n45.symm]; exact a5, k5.keep te immE_L⟩
  show KvR _ (esV (putA s.vals k x)) _
  rw [← putE_V]
  exact (k4.keep te immE_V).put rp_int
/-- a client's last stored -/
theorem LSt.putL (L : LSt H p4 p5 p6 vs R s H') (n5 : H p5 = none) (n45 : p4 ≠ p5) {c : Int} {x : Int × Int} {v : V} {kvs : List (Key × V)} (hk : H' p5 = some (.dK kvs)) (hv : Rp H' (numD x) v) : LSt H p4 p5 p6 vs R ⟨s.vals, putA s.lst c x⟩ (upd H' p5 (.dK (putK kvs (.inl c) v))) := by
  obtain ⟨kv4, a4, k4⟩ := L.h4
  obtain ⟨kv5, a5, k5⟩ := L.h5
  rw [hk] at a5
  cases a5
  have te : TEx H' (upd H' p5 (.dK (putK kvs (.inl c) v))) := tex_upd fun xs z => by
    rw [hk] at z
    cases z
  have n6 : p6 ≠ p5 := ne_of L.h6 hk (by intro z; cases z)
  refine ⟨ex_mut L.ex n5, by rw [upd_ne n6]; exact L.h6, L.r6.keep te (imm_rows R), ⟨kv4, by rw [upd_ne n45]; exact a4, k4.keep te immE_V⟩, _, upd_same, ?_⟩
  show KvR _ (esL (putA s.lst c x)) _
  rw [← putE_L]
  exact (k5.keep te immE_L).put (hv.keep te rfl)
end
theorem numD_get {s : SS} {c : Int} : (valE (esL s.lst) (.inl c)).getD (D.tup [.int 0, .int 0]) = numD ((getA s.lst c).getD (0, 0)) := by
  rw [valE_L]
  cases getA s.lst c <;> rfl
theorem worth_get {s : SS} {k : Str} : (valE (esV s.vals) (.inr k)).getD (D.int 0) = D.int (s.worth k) := by
  rw [valE_V]
  unfold SS.worth
  cases getA s.vals k <;> rfl
theorem of_snoc {R : List Row} {i : Nat} {r : Row} (h : R[i]? = some r) : SS.of (R.take (i + 1)) = (SS.of (R.take i)).step r := by
  unfold SS.of
  rw [List.take_add_one, h, List.foldl_append]
  rfl
theorem seq1 : ¬ (("get" : Str) = "add") := by decide +kernel
theorem seq2 : ¬ (("get" : Str) = "put") := by decide +kernel
theorem seq3 : ¬ (("put" : Str) = "add") := by decide +kernel
theorem seq4 : ¬ (("add" : Str) = "put") := by decide +kernel
def Deed.key : Deed → Str
  | .get k => k
  | .put k _ => k
  | .add k _ => k
def Deed.word : Deed → Str
  | .get _ => "get"
  | .put _ _ => "put"
  | .add _ _ => "add"
theorem deed_d (x : Deed) : ∃ r, x.d = .tup (.str x.word :: .str x.key :: r) := by
  cases x with
  | get k => exact ⟨_, rfl⟩
  | put k v => exact ⟨_, rfl⟩
  | add k v => exact ⟨_, rfl⟩
section
variable {P : Program} {w : World} {K : PySem.W.Frag} {mg : Str → Option Value} {base : Heap} (T : Defs K mg)
theorem ok__law_log : FnOk P w K mg base CX0 2 T._law_log.f T._law_log.fd ["_law_group", "_law_rows_here", "_law_cut", "_law_long_here"] (spR Rp_log) := by
  refine T._law_log.F.ok sc__law_log (fun vs H Q E h => spR_len h fun ds d ⟨_, _, _, _, _, e, _⟩ => by rw [e]; rfl) (fun cdv A outer s H vs Q E hr h => ?_)
  refine ⟨_,
    (pss_cons (ps_asg (pe_tup (pa_cons pe_dnewK (pa_cons pe_dnewK pa_nil))) (k_pgT (K := K) (n := 2) rfl (by rfl) (pgs_cons (pg_name (i := 4) sc__law_log.nd rfl (.inr rfl)) (pgs_cons (pg_name (i := 5) sc__law_log.nd rfl (.inr rfl)) pgs_nil))))
    (pss_cons (ps_for PassesOwn.never rfl (k_piL (K := K) rfl (pe_slice (k_slL (K := K) rfl) (pv 1) po_none (po_some (pv 2)))) (pg_name (i := 6) sc__law_log.nd rfl (.inl rfl))
      (pss_one (ps_if (PW.pt (pw_and (pt_cmpR op_eq (pe_ix (k_ixT (K := K) rfl) (pv 6) pe_int (fun _ _ => rfl)) pe_str (nomark _)) (pw_and1 (pt_cmpR op_lt (pe_ix (k_ixT (K := K) rfl) (pe_dget2 (hu_of hr) (pv 5) (pe_ix (k_ixT (K := K) rfl) (pv 6) pe_int (fun _ _ => rfl)) (pe_tup (pa_cons pe_int (pa_cons pe_int pa_nil))) ⟨rfl, rfl, rfl, rfl⟩) pe_int (fun _ _ => rfl)) (pe_ix (k_ixT (K := K) rfl) (pv 6) pe_int (fun _ _ => rfl)) (nomark _)))))
        (pss_cons (ps_set (i := 7) sc__law_log.nd rfl (.inl rfl) (pe_ix (k_ixT (K := K) rfl) (pv 6) pe_int (fun _ _ => rfl)))
        (pss_cons (ps_set (i := 8) sc__law_log.nd rfl (.inl rfl) (pe_dget2 (hu_of hr) (pv 4) (pe_ix (k_ixT (K := K) rfl) (pv 7) pe_int (fun _ _ => rfl)) pe_int ⟨rfl, rfl, rfl, rfl⟩))
        (pss_cons (ps_if (pt_cmpR op_eq (pe_ix (k_ixT (K := K) rfl) (pv 7) pe_int (fun _ _ => rfl)) pe_str (nomark _))
          (pss_cons (ps_set (i := 8) sc__law_log.nd rfl (.inl rfl) (pe_op op_add (pv 8) (pe_ix (k_ixT (K := K) rfl) (pv 7) pe_int (fun _ _ => rfl))))
          (pss_one (ps_dput (hu_of hr) (pv 4) (pe_ix (k_ixT (K := K) rfl) (pv 7) pe_int (fun _ _ => rfl)) (pv 8) rfl))) pss_nil)
        (pss_cons (ps_if (pt_cmpR op_eq (pe_ix (k_ixT (K := K) rfl) (pv 7) pe_int (fun _ _ => rfl)) pe_str (nomark _))
          (pss_one (ps_dput (hu_of hr) (pv 4) (pe_ix (k_ixT (K := K) rfl) (pv 7) pe_int (fun _ _ => rfl)) (pe_ix (k_ixT (K := K) rfl) (pv 7) pe_int (fun _ _ => rfl)) rfl)) pss_nil)
        (pss_one (ps_dput (hu_of hr) (pv 5) (pe_ix (k_ixT (K := K) rfl) (pv 6) pe_int (fun _ _ => rfl)) (pe_tup (pa_cons (pe_ix (k_ixT (K := K) rfl) (pv 6) pe_int (fun _ _ => rfl)) (pa_cons (pv 8) pa_nil))) rfl)))))) pss_nil)))
    (pss_cons (ps_set (i := 9) sc__law_log.nd rfl (.inl rfl) (pe_tup (pa_cons (pe_callTy (k_tuple (K := K) rfl) (by rfl) T.n_tuple bb_tuple (pa_cons (pe_callB (cr_sortedU (K := K) rfl) (by rfl) T.n_sorted bb_sorted (pa_cons (pe_lock (pe_lc (own := [("_law_key", 10)]) rfl sc__law_log.nd (pi_keys (pv 4)) (blkOk_by (N := nN__law_log) (sc := defScope s__law_log) (own := [("_law_key", 10)]) (by decide +kernel)) (fun _ _ _ _ _ => (pg_name (i := 10) sc__law_log.nd rfl (.inl rfl))) (fun _ _ _ _ _ => pts_nil) (fun _ _ _ _ _ => (pe_tup (pa_cons (pv 10) (pa_cons (pe_dget (hu_of hr) (pv 4) (pv 10) (fun _ _ => rfl)) pa_nil)))))) pa_nil)) pa_nil)) (pa_cons (pe_callTy (k_tuple (K := K) rfl) (by rfl) T.n_tuple bb_tuple (pa_cons (pe_callB (cr_sortedU (K := K) rfl) (by rfl) T.n_sorted bb_sorted (pa_cons (pe_lock (pe_lc (own := [("_law_client", 11)]) rfl sc__law_log.nd (pi_keys (pv 5)) (blkOk_by (N := nN__law_log) (sc := defScope s__law_log) (own := [("_law_client", 11)]) (by decide +kernel)) (fun _ _ _ _ _ => (pg_name (i := 11) sc__law_log.nd rfl (.inl rfl))) (fun _ _ _ _ _ => pts_nil) (fun _ _ _ _ _ => (pe_op (k_catT (K := K) rfl) (pe_tup (pa_cons (pv 11) pa_nil)) (pe_dget (hu_of hr) (pv 5) (pv 11) (fun _ _ => rfl)))))) pa_nil)) pa_nil)) pa_nil))))
    (pss_one (ps_ret (pe_tup (pa_cons (pv 2) (pa_cons (pv 9) (pa_cons (pe_call (ok__law_behind T) (hr.mono (by decide)) (by rfl) T._law_behind.g T._law_behind.F.kp T._law_behind.b .nil pass0 (pa_cons (pv 0) (pa_cons (pe_slice (k_slL (K := K) rfl) (pv 1) po_none (po_some (pv 2))) pa_nil))) (pa_cons (pe_callTy (k_tuple (K := K) rfl) (by rfl) T.n_tuple bb_tuple (pa_cons (pe_slice (k_slL (K := K) rfl) (pv 1) (po_some (pv 2)) (po_some (pv 3))) pa_nil)) pa_nil)))))))))), ?_⟩
  obtain ⟨ds, d, r, ⟨g, rows, cut, long, g', rfl, hl, hg, rfl⟩, q⟩ := h
  obtain ⟨w0, r0, rfl, rp0, r⟩ := of_cons r
  obtain ⟨w1, r0, rfl, rp1, r⟩ := of_cons r
  obtain ⟨w2, r0, rfl, rp2, r⟩ := of_cons r
  obtain ⟨w3, r0, rfl, rp3, r⟩ := of_cons r
  rw [of_nil r]
  refine fun p4 n4 p5 n5 => ⟨by show 2 ≤ sizeLine; decide, fun pt nt => ⟨pt, _, rfl, SqT.of upd_same, rfl, _, _, rfl, _, _, rfl, rfl, ?_⟩⟩
  have n45 : p4 ≠ p5 := fun z => by
    rw [← z, upd_same] at n5
    cases n5
  have n5' : H p5 = none := by
    rw [upd_ne n45.symm] at n5
    exact n5
  have n4t : p4 ≠ pt := fun z => by
    rw [← z, upd_ne n45, upd_same] at nt
    cases nt
  have n5t : p5 ≠ pt := fun z => by
    rw [← z, upd_same] at nt
    cases nt
  have nt' : H pt = none := by
    rw [upd_ne n5t.symm, upd_ne n4t.symm] at nt
    exact nt
  have e1 : Ex H (upd (upd (upd H p4 (.dK [])) p5 (.dK [])) pt (.tup [.ref p4, .ref p5])) := ex_mut (ex_mut (ex_new n4) n5') nt'
  generalize hH1 : upd (upd (upd H p4 (.dK [])) p5 (.dK [])) pt (.tup [.ref p4, .ref p5]) = H1 at e1
  have a4 : H1 p4 = some (.dK []) := by
    rw [← hH1, upd_ne n4t, upd_ne n45, upd_same]
  have a5 : H1 p5 = some (.dK []) := by
    rw [← hH1, upd_ne n5t, upd_same]
  clear hH1
  generalize hR : rows.take cut = R at hg
  have hsl : (((rowsD rows).drop (HT.sIx (rowsD rows).length 0 none)).take (HT.sIx (rowsD rows).length (rowsD rows).length (some (cut : Int)) - HT.sIx (rowsD rows).length 0 none)) = rowsD R := by
    rw [HT.sIx_none, HT.sIx_nat, List.drop_zero, Nat.sub_zero, ← List.take_eq_take_min, ← hR]
    unfold rowsD
    rw [List.map_take]
  have evS : ∀ (δ : DE), δ[1]? = some (some (.lst (rowsD rows))) → δ[2]? = some (some (.int (cut : Int))) → EvD (tSl (rSlL K) (tVar 1) tNoPart (tPart (tVar 2))) δ (.lst (rowsD R)) := fun δ h1 h2 => by
    have := ed_sl (z := _) (ed_var h1) eo_none (eo_some (ed_var h2)) (rs_slL (K := K) (ds := rowsD rows) (lo := none) (hi := some (cut : Int)))
    rw [hsl] at this
    exact this
  have env0 : ∀ (H' : Hp), Ex H H' → ∀ (σ' : St) (δ' : DE), Env σ' H' δ' → Env (some w0 :: some w1 :: some w2 :: some w3 :: σ') H' (some (grpD g) :: some (.lst (rowsD rows)) :: some (.int (cut : Int)) :: some (.int (long : Int)) :: δ') := fun H' e σ' δ' E' =>
    env_cons (rp0.mono e) (env_cons (rp1.mono e) (env_cons (rp2.mono e) (env_cons (rp3.mono e) E')))
  have nones : ∀ (H' : Hp) (σ' : St), Env σ' H' (σ'.map fun _ => none) := fun H' σ' => by
    induction σ' with
    | nil => exact env_nil
    | cons x σ' ih => exact env_skip ih
  refine (evS _ rfl rfl) _ H1 (env0 H1 e1 _ _ (nones H1 [some (.ref p4), some (.ref p5), none, none, none, none, none, none])) _ fun v H2 e2 r2 => ?_
  obtain ⟨p6, vs, rfl, h6, r6⟩ := of_lst r2
  have hvl : vs.length = R.length := by
    rw [r6.length]
    exact List.length_map ..
  have hRl : R.length ≤ 900 := by
    rw [← hR, List.length_take]
    omega
  refine ⟨p6, rfl, ⟨vs, SqL.of h6⟩, for_it (walk_list (K := K) (a := p6) (xs := vs)) (fun i σ' H' => (∃ a6 a7 a8, σ' = [some w0, some w1, some w2, some w3, some (.ref p4), some (.ref p5), a6, a7, a8, none, none, none]) ∧ LSt H p4 p5 p6 vs R (SS.of (R.take i)) H')
    ⟨⟨none, none, none, rfl⟩, ⟨e1.trans e2, h6, r6, ⟨[], e2 _ _ a4, rfl⟩, [], e2 _ _ a5, rfl⟩⟩ (fun i σ' H' _ p => SqL.of p.2.h6) ?_ ?_⟩
  · rintro i x σ' H' H'' hi ⟨⟨a6, a7, a8, rfl⟩, L⟩ ⟨rfl, hx⟩
    obtain ⟨dr, hd, rx⟩ := L.r6.at hx
    obtain ⟨rw_, hrw, rfl⟩ := rows_get hd
    have hnext := of_snoc hrw
    have hok : (SS.of (R.take i)).Ok 900 := by
      have := ss_of_ok (R.take i)
      have hle : (R.take i).length ≤ 900 := by
        rw [List.length_take]
        omega
      exact ⟨this.nv, this.nl, Nat.le_trans this.lv hle, Nat.le_trans this.ll hle⟩
    generalize SS.of (R.take i) = s at L hnext hok
    have envT : ∀ (H3 : Hp) (s3 : SS) (a7 a8 : Option V) (d7 d8 : Option D), LSt H p4 p5 p6 vs R s3 H3 → Rp H3 rw_.d x → (∀ d, d7 = some d → ∃ v, a7 = some v ∧ Rp H3 d v) → (∀ d, d8 = some d → ∃ v, a8 = some v ∧ Rp H3 d v) →
        Env [some w0, some w1, some w2, some w3, some (.ref p4), some (.ref p5), some x, a7, a8, none, none, none] H3 [some (grpD g), some (.lst (rowsD rows)), some (.int (cut : Int)), some (.int (long : Int)), some (dctE (esV s3.vals)), some (dctE (esL s3.lst)), some rw_.d, d7, d8, none, none, none] := fun H3 s3 a7 a8 d7 d8 L3 rx3 h7 h8 => by
      obtain ⟨kv4, b4, k4⟩ := L3.h4
      obtain ⟨kv5, b5, k5⟩ := L3.h5
      have tail : Env [none, none, none] H3 [none, none, none] := nones H3 [none, none, none]
      have t8 : Env [a8, none, none, none] H3 [d8, none, none, none] := by
        cases d8 with
        | none => exact env_skip tail
        | some d =>
          obtain ⟨v, rfl, hv⟩ := h8 d rfl
          exact env_cons hv tail
      have t7 : Env [a7, a8, none, none, none] H3 [d7, d8, none, none, none] := by
        cases d7 with
        | none => exact env_skip t8
        | some d =>
          obtain ⟨v, rfl, hv⟩ := h7 d rfl
          exact env_cons hv t8
      exact env0 H3 L3.ex _ _ (env_cons (rp_dctE b4 k4) (env_cons (rp_dctE b5 k5) (env_cons rx3 t7)))
    have E0 := envT H'' s a7 a8 none none L rx (fun _ z => nomatch z) (fun _ z => nomatch z)
    cases rw_ with
    | change z =>
      refine st_if (b := decide (("change" : Str) = "deed") && false) (et_and (et_test (ed_op (ed_op (ed_var (d := (Row.change z).d) rfl) ed_int (rd_ixT' rfl (by decide))) ed_str rd_eqS)) (fun hb => absurd (of_decide_eq_true hb) sne1)) E0 (fun hb => ?_) (fun _ H3 e3 => ⟨⟨_, _, _, rfl⟩, ?_⟩)
      · rw [Bool.and_false] at hb
        cases hb
      · rw [hnext]
        exact L.mono e3
    | close =>
      refine st_if (b := decide (("close" : Str) = "deed") && false) (et_and (et_test (ed_op (ed_op (ed_var (d := Row.close.d) rfl) ed_int (rd_ixT' rfl (by decide))) ed_str rd_eqS)) (fun hb => absurd (of_decide_eq_true hb) sne2)) E0 (fun hb => ?_) (fun _ H3 e3 => ⟨⟨_, _, _, rfl⟩, ?_⟩)
      · rw [Bool.and_false] at hb
        cases hb
      · rw [hnext]
        exact L.mono e3
    | deed c n dd =>
      have ix6 : ∀ (δ : DE) (j : Int) (e : D), δ[6]? = some (some (Row.deed c n dd).d) → [D.str "deed", .int c, .int n, dd.d][j.toNat]? = some e → 0 ≤ j → EvD (tOp (rIxT K) (tVar 6) (tC (.int j))) δ e := fun δ j e h1 h2 h3 => ed_op (ed_var (d := .tup [D.str "deed", .int c, .int n, dd.d]) h1) ed_int (rd_ixT' h2 h3)
      have hlast : ∀ (δ : DE), δ[6]? = some (some (Row.deed c n dd).d) → δ[5]? = some (some (dctE (esL s.lst))) → EvD (tDGet2 (tVar 5) (tOp (rIxT K) (tVar 6) (tC (.int 1))) (tTup (tCons (tC (.int 0)) (tCons (tC (.int 0)) tNil)))) δ (numD ((getA s.lst c).getD (0, 0))) := fun δ h1 h2 => by
        rw [← numD_get]
        exact ed_dget2 (ed_var h2) (ix6 δ 1 (.int c) h1 rfl (by decide)) (ed_tup (ea_cons ed_int (ea_cons ed_int ea_nil)) (by simp))
      refine st_if (b := decide (("deed" : Str) = "deed") && decide (s.last c < n)) (et_and (et_test (ed_op (ix6 _ 0 (.str "deed") rfl rfl (by decide)) ed_str rd_eqS)) (fun _ => et_test (ed_op (ed_op (hlast _ rfl rfl) ed_int (rd_ixT' (d := .int (s.last c)) rfl (by decide))) (ix6 _ 2 (.int n) rfl rfl (by decide)) rd_ib))) E0 (fun hb H3 e3 => ?_) (fun hb H3 e3 => ⟨⟨_, _, _, rfl⟩, ?_⟩)
      · rw [decide_eq_true rfl, Bool.true_and] at hb
        have hb := of_decide_eq_true hb
        have hstep : s.step (.deed c n dd) = s.after c n dd := if_pos hb
        have fin : ∀ (En' : Ends) (H4 : Hp) (s4 : SS) (v7 v8 : V) (ans : Int), LSt H p4 p5 p6 vs R s4 H4 → s4.lst.length ≤ 900 → Rp H4 (Row.deed c n dd).d x → Rp H4 dd.d v7 → Rp H4 (.int ans) v8 →
            (∀ σ' H', (∃ a6 a7 a8, σ' = [some w0, some w1, some w2, some w3, some (.ref p4), some (.ref p5), a6, a7, a8, none, none, none]) ∧ LSt H p4 p5 p6 vs R ⟨s4.vals, putA s4.lst c (n, ans)⟩ H' → En'.nx σ' H') →
            sDPut (tVar 5) (tOp (rIxT K) (tVar 6) (tC (.int 1))) (tTup (tCons (tOp (rIxT K) (tVar 6) (tC (.int 2))) (tCons (tVar 8) tNil))) En' [some w0, some w1, some w2, some w3, some (.ref p4), some (.ref p5), some x, some v7, some v8, none, none, none] H4 := fun En' H4 s4 v7 v8 ans L4 hl4 r6 r7 r8 hq => by
          have E4 := envT H4 s4 (some v7) (some v8) (some dd.d) (some (.int ans)) L4 r6 (fun _ z => by cases z; exact ⟨v7, rfl, r7⟩) (fun _ z => by cases z; exact ⟨v8, rfl, r8⟩)
          refine st_dput (k := .inl c) rfl (ed_tup (ds := [.int n, .int ans]) (ea_cons (ix6 _ 2 (.int n) rfl rfl (by decide)) (ea_cons (ed_var rfl) ea_nil)) (by simp)) (ix6 _ 1 (.int c) rfl rfl (by decide)) E4 fun v H5 e5 rv => ?_
          obtain ⟨kv5, b5, k5⟩ := (L4.mono e5).h5
          refine ⟨kv5, b5, ?_, hq _ _ ⟨⟨_, _, _, rfl⟩, (L4.mono e5).putL n5' n45 (x := (n, ans)) b5 rv⟩⟩
          rw [k5.length]
          unfold esL
          rw [List.length_map]
          exact Nat.lt_of_le_of_lt hl4 (by decide)
        have L3 := L.mono e3
        have r63 := rx.mono e3
        refine st_one (ix6 _ 3 dd.d rfl rfl (by decide)) (E0.mono e3) fun v7 H4 e4 r7 => ?_
        have L4 := L3.mono e4
        have r64 := r63.mono e4
        have E4 := envT H4 s (some v7) a8 (some dd.d) none L4 r64 (fun _ z => by cases z; exact ⟨v7, rfl, r7⟩) (fun _ z => nomatch z)
        obtain ⟨rest, hdd⟩ := deed_d dd
        have ix7 : ∀ (δ : DE) (j : Int) (e : D), δ[7]? = some (some dd.d) → (D.str dd.word :: .str dd.key :: rest)[j.toNat]? = some e → 0 ≤ j → EvD (tOp (rIxT K) (tVar 7) (tC (.int j))) δ e := fun δ j e h1 h2 h3 => ed_op (ed_var (d := .tup (.str dd.word :: .str dd.key :: rest)) (by rw [← hdd]; exact h1)) ed_int (rd_ixT' h2 h3)
        have evA : EvD (tDGet2 (tVar 4) (tOp (rIxT K) (tVar 7) (tC (.int 1))) (tC (.int 0))) [some (grpD g), some (.lst (rowsD rows)), some (.int (cut : Int)), some (.int (long : Int)), some (dctE (esV s.vals)), some (dctE (esL s.lst)), some (Row.deed c n dd).d, some dd.d, none, none, none, none] (.int (s.worth dd.key)) := by
          rw [← worth_get]
          exact ed_dget2 (ed_var rfl) (ix7 _ 1 (.str dd.key) rfl rfl (by decide)) ed_int
        refine st_one evA E4 fun v8 H5 e5 r8 => ?_
        have L5 := L4.mono e5
        have r65 := r64.mono e5
        have r75 := r7.mono e5
        have E5 := envT H5 s (some v7) (some v8) (some dd.d) (some (.int (s.worth dd.key))) L5 r65 (fun _ z => by cases z; exact ⟨v7, rfl, r75⟩) (fun _ z => by cases z; exact ⟨v8, rfl, r8⟩)
        have wordT : ∀ (δ : DE) (z : Str), δ[7]? = some (some dd.d) → EtD (tTest (tOp rEq (tOp (rIxT K) (tVar 7) (tC (.int 0))) (tC (.str z)))) δ (decide (dd.word = z)) := fun δ z h => et_test (ed_op (ix7 _ 0 (.str dd.word) h rfl (by decide)) ed_str rd_eqS)
        rw [hnext, hstep]
        cases dd with
        | get k =>
          refine st_when (wordT _ _ rfl) E5 (fun hb => absurd (of_decide_eq_true hb) seq1) (fun _ H6 e6 => ?_)
          refine st_when (wordT _ _ rfl) (E5.mono e6) (fun hb => absurd (of_decide_eq_true hb) seq2) (fun _ H7 e7 => ?_)
          have e67 := e6.trans e7
          exact fin _ H7 s v7 v8 (s.worth k) (L5.mono e67) hok.ll (r65.mono e67) (r75.mono e67) (r8.mono e67) fun σ' H' h => h
        | put k z =>
          cases hdd
          refine st_when (wordT _ _ rfl) E5 (fun hb => absurd (of_decide_eq_true hb) seq3) (fun _ H6 e6 => ?_)
          refine st_when (wordT _ _ rfl) (E5.mono e6) (fun _ H7 e7 => ?_) (fun hb => absurd (rfl : ("put" : Str) = "put") (of_decide_eq_false hb))
          have e67 := e6.trans e7
          refine st_dput (k := .inr k) rfl (ix7 _ 2 (.int z) rfl rfl (by decide)) (ix7 _ 1 (.str k) rfl rfl (by decide)) (E5.mono e67) fun v H8 e8 rv => ?_
          obtain ⟨kv4, b4, k4⟩ := (L5.mono (e67.trans e8)).h4
          rw [of_int rv]
          have te : TEx H8 (upd H8 p4 (.dK (putK kv4 (.inr k) (.int z)))) := tex_upd fun xs h => by
            rw [b4] at h
            cases h
          refine ⟨kv4, b4, ?_, fin _ _ ⟨putA s.vals k z, s.lst⟩ v7 v8 (s.worth k) ((L5.mono (e67.trans e8)).putV n4 n45 b4) hok.ll ((r65.mono (e67.trans e8)).keep te (imm_row _)) ((r75.mono (e67.trans e8)).keep te rfl) ((r8.mono (e67.trans e8)).keep te rfl) fun σ' H' h => h⟩
          rw [k4.length]
          unfold esV
          rw [List.length_map]
          exact Nat.lt_of_le_of_lt hok.lv (by decide)
        | add k z =>
          cases hdd
          refine st_when (wordT _ _ rfl) E5 (fun _ H6 e6 => ?_) (fun hb => absurd (rfl : ("add" : Str) = "add") (of_decide_eq_false hb))
          refine st_one (ed_op (ed_var rfl) (ix7 _ 2 (.int z) rfl rfl (by decide)) rd_ii) (E5.mono e6) fun v8' H7 e7 r8' => ?_
          have e67 := e6.trans e7
          have E7 := envT H7 s (some v7) (some v8') (some (Deed.add k z).d) (some (.int (s.worth k + z))) (L5.mono e67) (r65.mono e67) (fun _ z => by cases z; exact ⟨v7, rfl, r75.mono e67⟩) (fun _ z => by cases z; exact ⟨v8', rfl, r8'⟩)
          refine st_dput (k := .inr k) rfl (ed_var rfl) (ix7 _ 1 (.str k) rfl rfl (by decide)) E7 fun v H8 e8 rv => ?_
          obtain ⟨kv4, b4, k4⟩ := (L5.mono (e67.trans e8)).h4
          rw [of_int rv]
          have te : TEx H8 (upd H8 p4 (.dK (putK kv4 (.inr k) (.int (s.worth k + z))))) := tex_upd fun xs h => by
            rw [b4] at h
            cases h
          have L8 := (L5.mono (e67.trans e8)).putV n4 n45 (k := k) (x := s.worth k + z) b4
          have r68 := (r65.mono (e67.trans e8)).keep te (imm_row _)
          have r78 := (r75.mono (e67.trans e8)).keep te rfl
          have r88 := (r8'.mono e8).keep te rfl
          refine ⟨kv4, b4, ?_, ?_⟩
          · rw [k4.length]
            unfold esV
            rw [List.length_map]
            exact Nat.lt_of_le_of_lt hok.lv (by decide)
          · have E8 := envT _ _ (some v7) (some v8') (some (Deed.add k z).d) (some (.int (s.worth k + z))) L8 r68 (fun _ z => by cases z; exact ⟨v7, rfl, r78⟩) (fun _ z => by cases z; exact ⟨v8', rfl, r88⟩)
            refine st_when (wordT _ _ rfl) E8 (fun hb => absurd (of_decide_eq_true hb) seq4) (fun _ H9 e9 => ?_)
            exact fin _ H9 ⟨putA s.vals k (s.worth k + z), s.lst⟩ v7 v8' (s.worth k + z) (L8.mono e9) hok.ll (r68.mono e9) (r78.mono e9) (r88.mono e9) fun σ' H' h => h
      · rw [decide_eq_true rfl, Bool.true_and] at hb
        have hb := of_decide_eq_false hb
        rw [hnext]
        have hstep : s.step (.deed c n dd) = s := by
          show (if s.last c < n then _ else s) = s
          rw [if_neg hb]
        rw [hstep]
        exact L.mono e3
  · rintro σ' H' ⟨⟨a6, a7, a8, rfl⟩, L⟩
    rw [hvl, List.take_length] at L
    have hok : (SS.of R).Ok 900 := by
      have := ss_of_ok R
      exact ⟨this.nv, this.nl, Nat.le_trans this.lv hRl, Nat.le_trans this.ll hRl⟩
    generalize hS : SS.of R = s at L hok
    obtain ⟨kv4, b4, k4⟩ := L.h4
    obtain ⟨kv5, b5, k5⟩ := L.h5
    have E := env0 H' L.ex _ _ (env_cons (rp_dctE b4 k4) (env_cons (rp_dctE b5 k5) (env_skip (o := a6) (env_skip (o := a7) (env_skip (o := a8) (nones H' [none, none, none]))))))
    have p1 : EvN (tLockE (tLc (iKeys (tVar 4)) (gName 10) tYes (tTup (tCons (tVar 10) (tCons (tDGet (tVar 4) (tVar 10)) tNil))) [10])) [some (grpD g), some (.lst (rowsD rows)), some (.int (cut : Int)), some (.int (long : Int)), some (dctE (esV s.vals)), none, none, none, none, none, none, none] ((s.vals.map fun e => [.inr e.1, .inl e.2]).map tupI) := by
      refine en_lock (i := 4) rfl immE_V (fun j d hj hd => ?_) (immS_map imm_tupI _) ?_
      · match j, hj, hd with
        | 0, _, hd =>
          cases hd
          show noDS (g.map setD) = true
          have : ∀ l : Grp, noDS (l.map setD) = true := by
            intro l
            induction l with
            | nil => rfl
            | cons a l ih =>
              show (noDS (a.map D.int) && noDS (l.map setD)) = true
              rw [ih, Bool.and_true]
              induction a with
              | nil => rfl
              | cons x a ih2 => exact ih2
          exact this g
        | 1, _, hd =>
          cases hd
          show noDS (rowsD rows) = true
          have : ∀ l : List Row, noDS (rowsD l) = true := by
            intro l
            induction l with
            | nil => rfl
            | cons a l ih =>
              show (noD a.d && noDS (rowsD l)) = true
              rw [ih, Bool.and_true]
              cases a with
              | deed c n x => cases x <;> rfl
              | close => rfl
              | change z =>
                show (true && (noDS (z.map D.int) && true)) = true
                rw [Bool.and_true, Bool.true_and]
                induction z with
                | nil => rfl
                | cons x a ih2 => exact ih2
          exact this rows
        | 2, _, hd => cases hd; rfl
        | 3, _, hd => cases hd; rfl
        | 4, hj, _ => exact absurd rfl hj
        | 5, _, hd => cases hd
        | 6, _, hd => cases hd
        | 7, _, hd => cases hd
        | 8, _, hd => cases hd
        | 9, _, hd => cases hd
        | 10, _, hd => cases hd
        | 11, _, hd => cases hd
        | j + 12, _, hd => simp at hd
      · have h1 := en_lcM (F := fun e : Str × Int => D.str e.1) (l := s.vals) (fun _ => true) (fun e => tupI [.inr e.1, .inl e.2]) (g := gName 10) (tt := tYes) (te := tTup (tCons (tVar 10) (tCons (tDGet (tVar 4) (tVar 10)) tNil))) (vs := [10]) (wi := iKeys (tVar 4))
          (δ := [some (grpD g), some (.lst (rowsD rows)), some (.int (cut : Int)), some (.int (long : Int)), some (dcfE (esV s.vals)), none, none, none, none, none, none, none])
          (by
            have := wd_keys (td := tVar 4) (es := esV s.vals) (δ := [some (grpD g), some (.lst (rowsD rows)), some (.int (cut : Int)), some (.int (long : Int)), some (dcfE (esV s.vals)), none, none, none, none, none, none, none]) (ed_var rfl)
            unfold esV at this ⊢
            rw [List.map_map] at this
            exact this) (Nat.le_trans hok.lv (by decide)) fun e he =>
          ⟨_, _, fun i hi => hi, gd_name, et_yes, fun _ => ⟨rfl, ed_tup (ds := [.str e.1, .int e.2]) (ea_cons (ed_var rfl) (ea_cons (ed_dget (es := esV s.vals) (k := .inr e.1) (.inr (ed_var rfl)) (ed_var rfl) (by rw [valE_V, getA_self hok.nv e he]; rfl)) ea_nil)) (by simp)⟩⟩
        rw [filter_true] at h1
        rw [List.map_map]
        exact h1
    have p2 : EvN (tLockE (tLc (iKeys (tVar 5)) (gName 11) tYes (tOp (rCatA K) (tTup (tCons (tVar 11) tNil)) (tDGet (tVar 5) (tVar 11))) [11])) [some (grpD g), some (.lst (rowsD rows)), some (.int (cut : Int)), some (.int (long : Int)), none, some (dctE (esL s.lst)), none, none, none, none, none, none] ((s.lst.map fun e => [.inl e.1, .inl e.2.1, .inl e.2.2]).map tupI) := by
      refine en_lock (i := 5) rfl immE_L (fun j d hj hd => ?_) (immS_map imm_tupI _) ?_
      · match j, hj, hd with
        | 0, _, hd =>
          cases hd
          show noDS (g.map setD) = true
          have : ∀ l : Grp, noDS (l.map setD) = true := by
            intro l
            induction l with
            | nil => rfl
            | cons a l ih =>
              show (noDS (a.map D.int) && noDS (l.map setD)) = true
              rw [ih, Bool.and_true]
              induction a with
              | nil => rfl
              | cons x a ih2 => exact ih2
          exact this g
        | 1, _, hd =>
          cases hd
          show noDS (rowsD rows) = true
          have : ∀ l : List Row, noDS (rowsD l) = true := by
            intro l
            induction l with
            | nil => rfl
            | cons a l ih =>
              show (noD a.d && noDS (rowsD l)) = true
              rw [ih, Bool.and_true]
              cases a with
              | deed c n x => cases x <;> rfl
              | close => rfl
              | change z =>
                show (true && (noDS (z.map D.int) && true)) = true
                rw [Bool.and_true, Bool.true_and]
                induction z with
                | nil => rfl
                | cons x a ih2 => exact ih2
          exact this rows
        | 2, _, hd => cases hd; rfl
        | 3, _, hd => cases hd; rfl
        | 4, _, hd => cases hd
        | 5, hj, _ => exact absurd rfl hj
        | 6, _, hd => cases hd
        | 7, _, hd => cases hd
        | 8, _, hd => cases hd
        | 9, _, hd => cases hd
        | 10, _, hd => cases hd
        | 11, _, hd => cases hd
        | j + 12, _, hd => simp at hd
      · have h1 := en_lcM (F := fun e : Int × Int × Int => D.int e.1) (l := s.lst) (fun _ => true) (fun e => tupI [.inl e.1, .inl e.2.1, .inl e.2.2]) (g := gName 11) (tt := tYes) (te := tOp (rCatA K) (tTup (tCons (tVar 11) tNil)) (tDGet (tVar 5) (tVar 11))) (vs := [11]) (wi := iKeys (tVar 5))
          (δ := [some (grpD g), some (.lst (rowsD rows)), some (.int (cut : Int)), some (.int (long : Int)), none, some (dcfE (esL s.lst)), none, none, none, none, none, none])
          (by
            have := wd_keys (td := tVar 5) (es := esL s.lst) (δ := [some (grpD g), some (.lst (rowsD rows)), some (.int (cut : Int)), some (.int (long : Int)), none, some (dcfE (esL s.lst)), none, none, none, none, none, none]) (ed_var rfl)
            unfold esL at this ⊢
            rw [List.map_map] at this
            exact this) (Nat.le_trans hok.ll (by decide)) fun e he =>
          ⟨_, _, fun i hi => hi, gd_name, et_yes, fun _ => ⟨rfl, ed_op (ed_tup (ds := [.int e.1]) (ea_cons (ed_var rfl) ea_nil) (by simp)) (ed_dget (es := esL s.lst) (k := .inl e.1) (d := numD e.2) (.inr (ed_var rfl)) (ed_var rfl) (by rw [valE_L, getA_self hok.nl e he]; rfl)) (rd_catT (ds := [_]) (es := [_, _]) (by simp))⟩⟩
        rw [filter_true] at h1
        rw [List.map_map]
        exact h1
    have s1 := ed_drop 5 (te := tCB (rSortU' K) (tCons (tLockE (tLc (iKeys (tVar 4)) (gName 10) tYes (tTup (tCons (tVar 10) (tCons (tDGet (tVar 4) (tVar 10)) tNil))) [10])) tNil)) (δ := [some (grpD g), some (.lst (rowsD rows)), some (.int (cut : Int)), some (.int (long : Int)), some (dctE (esV s.vals)), some (dctE (esL s.lst)), none, none, none, none, none, none])
      (ed_cb (ea_cons p1.ed ea_nil) (rc_sortedU (shape := fun i => i == 0) fun l hl => by
        obtain ⟨e, _, rfl⟩ := List.mem_map.mp hl
        exact ⟨by simp, rfl, rfl, trivial⟩))
    have s2 := ed_drop 4 (te := tCB (rSortU' K) (tCons (tLockE (tLc (iKeys (tVar 5)) (gName 11) tYes (tOp (rCatA K) (tTup (tCons (tVar 11) tNil)) (tDGet (tVar 5) (tVar 11))) [11])) tNil)) (δ := [some (grpD g), some (.lst (rowsD rows)), some (.int (cut : Int)), some (.int (long : Int)), some (dctE (esV s.vals)), some (dctE (esL s.lst)), none, none, none, none, none, none])
      (ed_cb (ea_cons p2.ed ea_nil) (rc_sortedU (shape := fun _ => false) fun l hl => by
        obtain ⟨e, _, rfl⟩ := List.mem_map.mp hl
        exact ⟨by simp, rfl, rfl, rfl, trivial⟩))
    have hsl2 : (((rowsD rows).drop (HT.sIx (rowsD rows).length 0 (some (cut : Int)))).take (HT.sIx (rowsD rows).length (rowsD rows).length (some (long : Int)) - HT.sIx (rowsD rows).length 0 (some (cut : Int)))) = rowsD ((rows.take long).drop cut) := by
      rw [HT.sIx_nat, HT.sIx_nat, drop_take']
      unfold rowsD
      rw [List.map_drop, List.map_take]
    have evS2 : ∀ (δ : DE), δ[1]? = some (some (.lst (rowsD rows))) → δ[2]? = some (some (.int (cut : Int))) → δ[3]? = some (some (.int (long : Int))) → EvD (tSl (rSlL K) (tVar 1) (tPart (tVar 2)) (tPart (tVar 3))) δ (.lst (rowsD ((rows.take long).drop cut))) := fun δ h1 h2 h3 => by
      have := ed_sl (z := _) (ed_var h1) (eo_some (ed_var h2)) (eo_some (ed_var h3)) (rs_slL (K := K) (ds := rowsD rows) (lo := some (cut : Int)) (hi := some (long : Int)))
      rw [hsl2] at this
      exact this
    refine (sd_one (δ1 := [some (grpD g), some (.lst (rowsD rows)), some (.int (cut : Int)), some (.int (long : Int)), some (dctE (esV s.vals)), some (dctE (esL s.lst)), none, none, none, some s.d, none, none]) (sd_set (d := s.d) (ed_tup (ea_cons (ed_cb (ea_cons s1 ea_nil) rc_tupleL) (ea_cons (ed_cb (ea_cons s2 ea_nil) rc_tupleL) ea_nil)) (by simp)) rfl)
      (sd_ret (d := (mkLog g rows cut long).d) (Nx := fun _ => False) (Rt := fun d => d = (mkLog g rows cut long).d) (EvD.to (ed_tup (ds := [.int (cut : Int), s.d, grpD g', .tup (rowsD ((rows.take long).drop cut))]) (ea_cons (ed_var rfl) (ea_cons (ed_var rfl) (ea_cons (ed_call (ea_cons (ed_var rfl) (ea_cons (evS _ rfl rfl) ea_nil)) (pr_behind hg)) (ea_cons (ed_cb (ea_cons (evS2 _ rfl rfl rfl) ea_nil) rc_tupleL) ea_nil)))) (by simp)) ?_) rfl)) _ H' E _ (fun _ _ _ z => z.elim) fun d v H2 hd e rp => ?_
    · unfold mkLog
      rw [hR, hS, hg]
      rfl
    · subst hd
      exact q v H2 (L.ex.trans e) rp
end
end Oa
/-! The law's look behind each turn. -/
namespace Oa
open PySem L2
/-- the places of the houses of which p is so -/
def ones (hs : List House) (p : House → Bool) : List Int := ((List.range hs.length).filter fun i => match hs[i]? with | some h => p h | none => false).map fun (i : Nat) => (i : Int)
theorem mem_ones {hs : List House} {p : House → Bool} {i : Nat} {h : House} (hi : hs[i]? = some h) (hp : p h = true) : (i : Int) ∈ ones hs p := by
  unfold ones
  refine List.mem_map.mpr ⟨i, List.mem_filter.mpr ⟨List.mem_range.mpr (List.getElem?_eq_some_iff.mp hi).1, ?_⟩, rfl⟩
  simp only [hi, hp]
def housesD (hs : List House) : D := .lst (hs.map House.d)
def stateD (hs : List House) (me : Nat) (g : Grp) (rows : List Row) : D := .lst [housesD hs, .int (me : Int), grpD g, .lst (rowsD rows)]
/-- how all must stand for the look to find it right -/
structure RightOk (g : Grp) (rows : List Row) (hs olds : List House) (me : Nat) (time lease : Int) : Prop where
  few : hs.length ≤ 1000
  same : olds.length = hs.length
  rl : rows.length ≤ 900
  rok : ∀ r ∈ rows, RowOk r
  gok : GOk g
  logs : ∀ h ∈ hs, ∃ cut long : Nat, cut ≤ long ∧ long ≤ rows.length ∧ h.log = mkLog g rows cut long
  grow : ∀ (i : Nat) h o, hs[i]? = some h → olds[i]? = some o → o.settled ≤ h.settled ∧ o.until_ ≤ h.until_ ∧ h.log.cut ≤ h.settled ∧ h.settled ≤ h.log.len ∧ (∀ hd, hs[me]? = some hd → h.taken = hd.which → h.settled ≤ max hd.settled o.settled)
  head : ∃ hd o start stamp acks gz, hs[me]? = some hd ∧ olds[me]? = some o ∧ IsHead hd start stamp acks gz ∧ groupBehind g rows = some gz ∧ hd.log.len = (rows.length : Int) ∧ hd.settled ≤ (rows.length : Int) ∧
    (o.settled < hd.settled → isEnough gz (ones hs fun h => decide (h.taken = hd.which) && decide (hd.settled ≤ h.log.len)) = true) ∧
    (mayRead gz (me : Int) time lease hd.settled start stamp acks = true → isEnough gz (ones hs fun h => decide (time < h.until_)) = true)
def Rp_right (ds : List D) (d : D) : Prop := ∃ (g : Grp) (rows : List Row) (hs olds : List House) (me : Nat) (time lease : Int), ds = [stateD hs me g rows, housesD olds, .int time, .int lease] ∧ RightOk g rows hs olds me time lease ∧ d = .bl true
theorem pr_right {g : Grp} {rows : List Row} {hs olds : List House} {me : Nat} {time lease : Int} (h : RightOk g rows hs olds me time lease) : Pr (spR Rp_right) [stateD hs me g rows, housesD olds, .int time, .int lease] (.bl true) := pr_R ⟨g, rows, hs, olds, me, time, lease, rfl, h, rfl⟩
theorem hs_get {hs : List House} {i : Nat} {h : House} (e : hs[i]? = some h) : (hs.map House.d)[i]? = some h.d := by
  rw [List.getElem?_map, e]
  rfl
section
variable {P : Program} {w : World} {K : PySem.W.Frag} {mg : Str → Option Value} {base : Heap} (T : Defs K mg)
/-- [one for one in range(len(houses)) if ..] -/
theorem en_ones {δ : DE} {hs : List House} {p : House → Bool} {te : TE} {tt : TT} {i : Nat} (hl : hs.length ≤ 1000) (hi : i < δ.length) (h4 : EvD te δ (housesD hs)) (ht : ∀ (j : Nat) h, hs[j]? = some h → EtD tt ((wipeD δ [i]).set i (some (.int (j : Int)))) (p h)) :
    EvN (tLc (iRng1 (tCons (tCB (fun xs H Q => ∃ p ys, xs = [.ref p] ∧ (SqL K H p ys ∨ SqT K H p ys) ∧ Q (.int ys.length) H) (tCons te tNil)) tNil)) (gName i) tt (tVar i) [i]) δ ((ones hs p).map D.int) := by
  have hlen : EvD (tCB (fun xs H Q => ∃ p ys, xs = [.ref p] ∧ (SqL K H p ys ∨ SqT K H p ys) ∧ Q (.int ys.length) H) (tCons te tNil)) δ (.int (hs.length : Int)) := by
    have := ed_cb (ea_cons h4 ea_nil) (rc_lenL (K := K))
    rw [List.length_map] at this
    exact this
  have h1 := en_lcM (F := fun j : Nat => D.int (j : Int)) (l := List.range hs.length) (fun j => match hs[j]? with | some h => p h | none => false) (fun j => D.int (j : Int)) (g := gName i) (tt := tt) (te := tVar i) (vs := [i]) (wi := iRng1 (tCons (tCB (fun xs H Q => ∃ p ys, xs = [.ref p] ∧ (SqL K H p ys ∨ SqT K H p ys) ∧ Q (.int ys.length) H) (tCons te tNil)) tNil)) (δ := δ)
    (by
      have := wd_range (ea_cons hlen ea_nil) (by omega) (by omega)
      rw [Int.toNat_natCast] at this
      exact this) (by rw [List.length_range]; omega) fun j hj => by
    have hj := List.mem_range.mp hj
    have e := List.getElem?_eq_getElem hj
    refine ⟨_, _, fun i hi => hi, gd_name, ?_, fun _ => ⟨rfl, ed_var ?_⟩⟩
    · rw [e]
      exact ht j _ e
    · rw [List.getElem?_set_self]
      unfold wipeD wipeD
      rw [List.length_set]
      exact hi
  unfold ones
  rw [List.map_map]
  exact h1
theorem ok__law_right : FnOk P w K mg base CX0 6 T._law_right.f T._law_right.fd ["_law_state", "_law_before", "_law_time", "_law_lease"] (spR Rp_right) := by
  refine T._law_right.F.ok sc__law_right (fun vs H Q E h => spR_len h fun ds d ⟨_, _, _, _, _, _, _, e, _⟩ => by rw [e]; rfl) (fun cdv A outer s H vs Q E hr h => ?_)
  refine ⟨_,
    (pss_cons (ps_asg (pv 0) (k_pgL (K := K) (n := 4) rfl (by rfl) (pgs_cons (pg_name (i := 4) sc__law_right.nd rfl (.inr rfl)) (pgs_cons (pg_name (i := 5) sc__law_right.nd rfl (.inl rfl)) (pgs_cons (pg_name (i := 6) sc__law_right.nd rfl (.inl rfl)) (pgs_cons (pg_name (i := 7) sc__law_right.nd rfl (.inl rfl)) pgs_nil))))))
    (pss_cons (ps_set (i := 8) sc__law_right.nd rfl (.inr rfl) (pe_ix (k_ixL (K := K) rfl) (pv 4) (pv 5) (fun _ _ => rfl)))
    (pss_cons (ps_set (i := 9) sc__law_right.nd rfl (.inl rfl) (pe_call (ok__law_behind T) (hr.mono (by decide)) (by rfl) T._law_behind.g T._law_behind.F.kp T._law_behind.b .nil pass0 (pa_cons (pv 6) (pa_cons (pv 7) pa_nil))))
    (pss_cons (ps_if (PW.pt (pw_or (pt_cmpR op_ne (pe_call (ok__law_long T) (hr.mono (by decide)) (by rfl) T._law_long.g T._law_long.F.kp T._law_long.b .nil pass0 (pa_cons (pv 8) pa_nil)) (pe_callB (k_len (K := K) rfl) (by rfl) T.n_len bb_len (pa_cons (pv 7) pa_nil)) (nomark _)) (pw_or1 (pt_not (pt_cmpR op_le (pe_ix (k_ixT (K := K) rfl) (pv 8) pe_int (fun _ _ => rfl)) (pe_callB (k_len (K := K) rfl) (by rfl) T.n_len bb_len (pa_cons (pv 7) pa_nil)) (nomark _))))))
      (pss_one (ps_ret pe_bl)) pss_nil)
    (pss_cons (ps_for PassesOwn.never rfl (k_pizip (K := K) rfl (by rfl) T.n_zip (pa_cons (pv 4) (pa_cons (pv 1) pa_nil))) (k_pgT (K := K) (n := 2) rfl (by rfl) (pgs_cons (pg_name (i := 10) sc__law_right.nd rfl (.inl rfl)) (pgs_cons (pg_name (i := 11) sc__law_right.nd rfl (.inl rfl)) pgs_nil)))
      (pss_cons (ps_if (pt_not (pt_val (pe_call (ok__law_same T 4) (hr.mono (by decide)) (by rfl) T._law_same.g T._law_same.F.kp T._law_same.b .nil pass0 (pa_cons (pe_ix (k_ixT (K := K) rfl) (pv 10) pe_int (fun _ _ => rfl)) (pa_cons (pe_call (ok__law_log T) (hr.mono (by decide)) (by rfl) T._law_log.g T._law_log.F.kp T._law_log.b .nil pass0 (pa_cons (pv 6) (pa_cons (pv 7) (pa_cons (pe_ix (k_ixT (K := K) rfl) (pe_ix (k_ixT (K := K) rfl) (pv 10) pe_int (fun _ _ => rfl)) pe_int (fun _ _ => rfl)) (pa_cons (pe_call (ok__law_long T) (hr.mono (by decide)) (by rfl) T._law_long.g T._law_long.F.kp T._law_long.b .nil pass0 (pa_cons (pv 10) pa_nil)) pa_nil))))) pa_nil)))))
        (pss_one (ps_ret pe_bl)) pss_nil)
      (pss_cons (ps_if (PW.pt (pw_or (pt_cmpR op_lt (pe_ix (k_ixT (K := K) rfl) (pv 10) pe_int (fun _ _ => rfl)) (pe_ix (k_ixT (K := K) rfl) (pv 11) pe_int (fun _ _ => rfl)) (nomark _)) (pw_or (pt_cmpR op_lt (pe_ix (k_ixT (K := K) rfl) (pv 10) pe_int (fun _ _ => rfl)) (pe_ix (k_ixT (K := K) rfl) (pv 11) pe_int (fun _ _ => rfl)) (nomark _)) (pw_or1 (pt_not (pt_chain op_le op_le (pe_ix (k_ixT (K := K) rfl) (pe_ix (k_ixT (K := K) rfl) (pv 10) pe_int (fun _ _ => rfl)) pe_int (fun _ _ => rfl)) (pe_ix (k_ixT (K := K) rfl) (pv 10) pe_int (fun _ _ => rfl)) (pe_call (ok__law_long T) (hr.mono (by decide)) (by rfl) T._law_long.g T._law_long.F.kp T._law_long.b .nil pass0 (pa_cons (pv 10) pa_nil))))))))
        (pss_one (ps_ret pe_bl)) pss_nil)
      (pss_one (ps_if (PW.pt (pw_and (pt_cmpR op_eq (pe_ix (k_ixT (K := K) rfl) (pv 10) pe_int (fun _ _ => rfl)) (pe_ix (k_ixT (K := K) rfl) (pv 8) pe_int (fun _ _ => rfl)) (nomark _)) (pw_and1 (pt_cmpR op_gt (pe_ix (k_ixT (K := K) rfl) (pv 10) pe_int (fun _ _ => rfl)) (pe_callB (call_max2 rfl) (by rfl) T.n_max bb_max (pa_cons (pe_ix (k_ixT (K := K) rfl) (pv 8) pe_int (fun _ _ => rfl)) (pa_cons (pe_ix (k_ixT (K := K) rfl) (pv 11) pe_int (fun _ _ => rfl)) pa_nil))) (nomark _)))))
        (pss_one (ps_ret pe_bl)) pss_nil)))))
    (pss_cons (ps_setLc (i := 12) (own := [("_law_one", 13)]) rfl sc__law_right.nd rfl rfl (sw_true rfl rfl rfl (by decide +kernel)) (pi_range1 (by rfl) T.n_range (pa_cons (pe_callB (k_len (K := K) rfl) (by rfl) T.n_len bb_len (pa_cons (pv 4) pa_nil)) pa_nil)) (blkOk_by (N := nN__law_right) (sc := defScope s__law_right) (own := [("_law_one", 13)]) (by decide +kernel)) (fun _ _ _ _ _ => (pg_name (i := 13) sc__law_right.nd rfl (.inl rfl))) (fun _ _ _ _ _ => (pts_one (PW.pt (pw_and (pt_cmpR op_eq (pe_ix (k_ixT (K := K) rfl) (pe_ix (k_ixL (K := K) rfl) (pv 4) (pv 13) (fun _ _ => rfl)) pe_int (fun _ _ => rfl)) (pe_ix (k_ixT (K := K) rfl) (pv 8) pe_int (fun _ _ => rfl)) (nomark _)) (pw_and1 (pt_cmpR op_ge (pe_call (ok__law_long T) (hr.mono (by decide)) (by rfl) T._law_long.g T._law_long.F.kp T._law_long.b .nil pass0 (pa_cons (pe_ix (k_ixL (K := K) rfl) (pv 4) (pv 13) (fun _ _ => rfl)) pa_nil)) (pe_ix (k_ixT (K := K) rfl) (pv 8) pe_int (fun _ _ => rfl)) (nomark _))))))) (fun _ _ _ _ _ => (pv 13)))
    (pss_cons (ps_if (PW.pt (pw_and (pt_cmpR op_gt (pe_ix (k_ixT (K := K) rfl) (pv 8) pe_int (fun _ _ => rfl)) (pe_ix (k_ixT (K := K) rfl) (pe_ix (k_ixL (K := K) rfl) (pv 1) (pv 5) (fun _ _ => rfl)) pe_int (fun _ _ => rfl)) (nomark _)) (pw_and1 (pt_not (pt_val (pe_call (ok__law_enough T) (hr.mono (by decide)) (by rfl) T._law_enough.g T._law_enough.F.kp T._law_enough.b .nil pass0 (pa_cons (pv 9) (pa_cons (pv 12) pa_nil))))))))
      (pss_one (ps_ret pe_bl)) pss_nil)
    (pss_cons (ps_if (pt_val (pe_call (ok_may_read T) (hr.mono (by decide)) (by rfl) T.may_read.g T.may_read.F.kp T.may_read.b .nil pass0 (pa_cons (pv 8) (pa_cons (pv 5) (pa_cons (pv 2) (pa_cons (pv 3) pa_nil))))))
      (pss_one (ps_ret (pe_call (ok__law_enough T) (hr.mono (by decide)) (by rfl) T._law_enough.g T._law_enough.F.kp T._law_enough.b .nil pass0 (pa_cons (pv 9) (pa_cons (pe_lc (own := [("_law_one", 13)]) rfl sc__law_right.nd (pi_range1 (by rfl) T.n_range (pa_cons (pe_callB (k_len (K := K) rfl) (by rfl) T.n_len bb_len (pa_cons (pv 4) pa_nil)) pa_nil)) (blkOk_by (N := nN__law_right) (sc := defScope s__law_right) (own := [("_law_one", 13)]) (by decide +kernel)) (fun _ _ _ _ _ => (pg_name (i := 13) sc__law_right.nd rfl (.inl rfl))) (fun _ _ _ _ _ => (pts_one (pt_cmpR op_gt (pe_ix (k_ixT (K := K) rfl) (pe_ix (k_ixL (K := K) rfl) (pv 4) (pv 13) (fun _ _ => rfl)) pe_int (fun _ _ => rfl)) (pv 2) (nomark _)))) (fun _ _ _ _ _ => (pv 13))) pa_nil))))) pss_nil)
    (pss_one (ps_ret pe_bl)))))))))), ?_⟩
  refine body_R h fun ds d hR => ?_
  obtain ⟨g, rows, hs, olds, me, time, lease, rfl, ok, rfl⟩ := hR
  obtain ⟨hd, o, start, stamp, acks, gz, hme, ome, ih, hgz, hlen, hset, hheld, hread⟩ := ok.head
  have hrl : (rowsD rows).length = rows.length := List.length_map ..
  have hgok : GOk gz := gb_ok ok.gok ok.rok hgz
  refine sd_one (δ1 := [some (stateD hs me g rows), some (housesD olds), some (.int time), some (.int lease), some (housesD hs), some (.int (me : Int)), some (grpD g), some (.lst (rowsD rows)), none, none, none, none, none, none]) (sd_asg (ed_var rfl) (gd_unl (gds_cons gd_name (gds_cons gd_name (gds_cons gd_name (gds_cons gd_name gds_nil)))) rfl) rfl) ?_
  refine sd_one (δ1 := [some (stateD hs me g rows), some (housesD olds), some (.int time), some (.int lease), some (housesD hs), some (.int (me : Int)), some (grpD g), some (.lst (rowsD rows)), some hd.d, none, none, none, none, none]) (sd_set (ed_op (ed_var rfl) (ed_var rfl) (rd_ixL (j := me) rfl (hs_get hme))) rfl) ?_
  refine sd_one (δ1 := [some (stateD hs me g rows), some (housesD olds), some (.int time), some (.int lease), some (housesD hs), some (.int (me : Int)), some (grpD g), some (.lst (rowsD rows)), some hd.d, some (grpD gz), none, none, none, none]) (sd_set (ed_call (ea_cons (ed_var rfl) (ea_cons (ed_var rfl) ea_nil)) (pr_behind hgz)) rfl) ?_
  have lenR : ∀ (δ : DE), δ[7]? = some (some (.lst (rowsD rows))) → EvD (tCB (fun xs H Q => ∃ p ys, xs = [.ref p] ∧ (SqL K H p ys ∨ SqT K H p ys) ∧ Q (.int ys.length) H) (tCons (tVar 7) tNil)) δ (.int (rows.length : Int)) := fun δ h => by
    have := ed_cb (ea_cons (ed_var h) ea_nil) (rc_lenL (K := K))
    rw [hrl] at this
    exact this
  have ixH : ∀ (δ : DE) (i : Nat) (h : House) (j : Int) (e : D), δ[i]? = some (some h.d) → [D.int h.which, .int h.taken, h.log.d, .int h.settled, .int h.until_, .bl true, h.role.d][j.toNat]? = some e → 0 ≤ j → EvD (tOp (rIxT K) (tVar i) (tC (.int j))) δ e := fun δ i h j e h1 h2 h3 => ed_op (ed_var (d := h.d) h1) ed_int (rd_ixT' (ds := [D.int h.which, .int h.taken, h.log.d, .int h.settled, .int h.until_, .bl true, h.role.d]) h2 h3)
  refine sd_skip (b := (!decide (hd.log.len = (rows.length : Int))) || !decide (hd.settled ≤ (rows.length : Int))) (et_or (et_test (ed_op (ed_call (ea_cons (ed_var rfl) ea_nil) pr_long) (lenR _ rfl) rd_neI)) (fun _ => et_not (et_test (ed_op (ixH _ 8 hd 3 _ rfl rfl (by decide)) (lenR _ rfl) rd_ib)))) (by rw [decide_eq_true hlen, decide_eq_true hset]; rfl) ?_
  refine sd_seq (Nx' := fun δ' => ∃ v10 v11, δ' = [some (stateD hs me g rows), some (housesD olds), some (.int time), some (.int lease), some (housesD hs), some (.int (me : Int)), some (grpD g), some (.lst (rowsD rows)), some hd.d, some (grpD gz), v10, v11, none, none])
    (sd_for (ds := zipD (hs.map House.d) (olds.map House.d)) (fun i δ' => ∃ v10 v11, δ' = [some (stateD hs me g rows), some (housesD olds), some (.int time), some (.int lease), some (housesD hs), some (.int (me : Int)), some (grpD g), some (.lst (rowsD rows)), some hd.d, some (grpD gz), v10, v11, none, none])
      (wd_zipL (ea_cons (ed_var rfl) (ea_cons (ed_var rfl) ea_nil))) ⟨none, none, rfl⟩ ?_ (fun δ' h => h)) ?_
  · rintro i dd δ' hi ⟨v10, v11, rfl⟩
    have hil : i < hs.length := by
      have := (List.getElem?_eq_some_iff.mp hi).1
      rw [zipD_len, List.length_map, List.length_map] at this
      omega
    have hil2 : i < olds.length := by rw [ok.same]; exact hil
    obtain ⟨h, hh⟩ : ∃ h, hs[i]? = some h := ⟨_, List.getElem?_eq_getElem hil⟩
    obtain ⟨ol, ho⟩ : ∃ h, olds[i]? = some h := ⟨_, List.getElem?_eq_getElem hil2⟩
    have hz : (zipD (hs.map House.d) (olds.map House.d))[i]? = some (.tup [h.d, ol.d]) := zip_get (hs_get hh) (hs_get ho)
    rw [hz] at hi
    cases hi
    obtain ⟨cut, long, hcl, hlr, hlog⟩ := ok.logs h (List.mem_of_getElem? hh)
    obtain ⟨g1, g2, g3, g4, g5⟩ := ok.grow i h ol hh ho
    refine ⟨_, _, gd_tup (gds_cons gd_name (gds_cons gd_name gds_nil)) rfl, ?_⟩
    have hcut : h.log.cut = (cut : Int) := by rw [hlog]; rfl
    have hlongI : h.log.len = (long : Int) := by rw [hlog]; exact mkLog_len hcl hlr
    have ixC : ∀ (δ : DE), δ[10]? = some (some h.d) → EvD (tOp (rIxT K) (tOp (rIxT K) (tVar 10) (tC (.int 2))) (tC (.int 0))) δ (.int (cut : Int)) := fun δ e => by
      have := ed_op (r := rIxT K) (z := .int h.log.cut) (ixH δ 10 h 2 h.log.d e rfl (by decide)) ed_int (rd_ixT' (K := K) (ds := [.int h.log.cut, h.log.store, grpD h.log.group, .tup (rowsD h.log.rows)]) (n := 0) rfl (by decide))
      rw [hcut] at this
      exact this
    obtain ⟨g6, hg6⟩ := gb_take hgz cut
    refine sd_skip (b := !true) (et_not (et_B (ed_call (d := .bl true) (ds := [h.log.d, h.log.d]) (ea_cons (ixH _ 10 h 2 _ rfl rfl (by decide)) (ea_cons (EvD.to (ed_call (ds := [grpD g, .lst (rowsD rows), .int (cut : Int), .int (long : Int)]) (ea_cons (ed_var rfl) (ea_cons (ed_var rfl) (ea_cons (ixC _ rfl) (ea_cons (EvD.to (ed_call (ea_cons (ed_var rfl) ea_nil) pr_long) (by rw [hlongI])) ea_nil)))) (pr_log ok.rl hg6)) (by rw [hlog])) ea_nil)) (pr_same (by rw [hlog]; exact good_log ok.gok ok.rok ok.rl hgz))))) rfl ?_
    refine sd_skip (b := decide (h.settled < ol.settled) || (decide (h.until_ < ol.until_) || !(decide ((cut : Int) ≤ h.settled) && decide (h.settled ≤ h.log.len)))) (et_or (et_test (ed_op (ixH _ 10 h 3 _ rfl rfl (by decide)) (ixH _ 11 ol 3 _ rfl rfl (by decide)) rd_ib)) (fun _ => et_or (et_test (ed_op (ixH _ 10 h 4 _ rfl rfl (by decide)) (ixH _ 11 ol 4 _ rfl rfl (by decide)) rd_ib)) (fun _ => et_not (et_test (ed_chain (ixC _ rfl) (ixH _ 10 h 3 _ rfl rfl (by decide)) rd_ib (fun _ => ed_call (ea_cons (ed_var rfl) ea_nil) pr_long) (fun _ => rd_ib)))))) ?_ ?_
    · rw [decide_eq_false (by omega), decide_eq_false (by omega), decide_eq_true (by omega), decide_eq_true g4]
      rfl
    refine sd_if (b := decide (h.taken = hd.which) && decide (max hd.settled ol.settled < h.settled)) (et_and (et_test (ed_op (ixH _ 10 h 1 _ rfl rfl (by decide)) (ixH _ 8 hd 0 _ rfl rfl (by decide)) rd_eqI)) (fun _ => et_test (ed_op (ixH _ 10 h 3 _ rfl rfl (by decide)) (ed_cb (ea_cons (ixH _ 8 hd 3 _ rfl rfl (by decide)) (ea_cons (ixH _ 11 ol 3 _ rfl rfl (by decide)) ea_nil)) rc_max) rd_ib))) (fun hb => ?_) (fun _ => sd_next ⟨_, _, rfl⟩)
    rw [Bool.and_eq_true] at hb
    have := g5 hd hme (of_decide_eq_true hb.1)
    have := of_decide_eq_true hb.2
    omega
  · rintro δ' ⟨v10, v11, rfl⟩
    have ixO : ∀ (δ : DE) (j : Nat) (h : House) (m : Int) (e : D), δ[4]? = some (some (housesD hs)) → δ[13]? = some (some (.int (j : Int))) → hs[j]? = some h → [D.int h.which, .int h.taken, h.log.d, .int h.settled, .int h.until_, .bl true, h.role.d][m.toNat]? = some e → 0 ≤ m → EvD (tOp (rIxT K) (tOp (rIxL K) (tVar 4) (tVar 13)) (tC (.int m))) δ e := fun δ j h m e h1 h2 hj h3 h4 =>
      ed_op (ed_op (ed_var h1) (ed_var h2) (rd_ixL (j := j) rfl (hs_get hj))) ed_int (rd_ixT' (ds := [D.int h.which, .int h.taken, h.log.d, .int h.settled, .int h.until_, .bl true, h.role.d]) h3 h4)
    refine sd_one (δ1 := [some (stateD hs me g rows), some (housesD olds), some (.int time), some (.int lease), some (housesD hs), some (.int (me : Int)), some (grpD g), some (.lst (rowsD rows)), some hd.d, some (grpD gz), v10, v11, some (.lst ((ones hs fun h => decide (h.taken = hd.which) && decide (hd.settled ≤ h.log.len)).map D.int)), none]) (sd_set (en_ones (K := K) ok.few (show 13 < 14 by decide) (ed_var rfl) fun j h hj => ?_).ed rfl) ?_
    · exact et_and (et_test (ed_op (ixO _ j h 1 _ rfl rfl hj rfl (by decide)) (ixH _ 8 hd 0 _ rfl rfl (by decide)) rd_eqI)) (fun _ => et_test (ed_op (ed_call (ea_cons (ed_op (ed_var rfl) (ed_var rfl) (rd_ixL (j := j) rfl (hs_get hj))) ea_nil) pr_long) (ixH _ 8 hd 3 _ rfl rfl (by decide)) rd_ib))
    have ixB : ∀ (δ : DE), δ[1]? = some (some (housesD olds)) → δ[5]? = some (some (.int (me : Int))) → EvD (tOp (rIxT K) (tOp (rIxL K) (tVar 1) (tVar 5)) (tC (.int 3))) δ (.int o.settled) := fun δ h1 h2 => ed_op (ed_op (ed_var h1) (ed_var h2) (rd_ixL (j := me) rfl (hs_get ome))) ed_int (rd_ixT' (ds := [D.int o.which, .int o.taken, o.log.d, .int o.settled, .int o.until_, .bl true, o.role.d]) rfl (by decide))
    refine sd_skip (b := decide (o.settled < hd.settled) && !isEnough gz (ones hs fun h => decide (h.taken = hd.which) && decide (hd.settled ≤ h.log.len))) (et_and (et_test (ed_op (ixH _ 8 hd 3 _ rfl rfl (by decide)) (ixB _ rfl rfl) rd_ib)) (fun _ => et_not (et_B (ed_call (ea_cons (ed_var rfl) (ea_cons (ed_var rfl) ea_nil)) (pr_enough hgok))))) ?_ ?_
    · by_cases hb : o.settled < hd.settled
      · rw [hheld hb]
        simp
      · simp [hb]
    cases hm : mayRead gz (me : Int) time lease hd.settled start stamp acks with
    | true =>
      refine sd_take (b := true) (by rw [← hm]; exact et_B (ed_call (ea_cons (ed_var (d := hd.d) rfl) (ea_cons (ed_var rfl) (ea_cons (ed_var rfl) (ea_cons (ed_var rfl) ea_nil)))) (pr_may_read ih))) rfl ?_
      refine sd_ret (d := .bl (isEnough gz (ones hs fun h => decide (time < h.until_)))) (ed_call (ea_cons (ed_var rfl) (ea_cons (en_ones (K := K) ok.few (show 13 < 14 by decide) (ed_var rfl) fun j h hj => ?_).ed ea_nil)) (pr_enough hgok)) ?_
      · exact et_test (ed_op (ixO _ j h 4 _ rfl rfl hj rfl (by decide)) (ed_var rfl) rd_ib)
      · rw [hread hm]
    | false =>
      refine sd_skip (b := false) (by rw [← hm]; exact et_B (ed_call (ea_cons (ed_var (d := hd.d) rfl) (ea_cons (ed_var rfl) (ea_cons (ed_var rfl) (ea_cons (ed_var rfl) ea_nil)))) (pr_may_read ih))) rfl ?_
      exact sd_ret ed_bl rfl
end
end Oa
/-! The law's draws: a pot that each draw changes. -/
namespace Oa
open PySem L2
def PotAt (H : Hp) (p : Addr) : Prop := ∃ a b : Int, H p = some (.lst [.int a, .int b])
theorem pot_tex {H H' : Hp} {p : Addr} (h : PotAt H p) (e : LEx p H H') : TEx H H' := fun a xs ha => by
  obtain ⟨x, y, hp⟩ := h
  exact e a _ (fun z => by rw [z, hp] at ha; cases ha) ha
theorem ex_lex {H H' : Hp} {p : Addr} (e : Ex H H') : LEx p H H' := fun a o _ h => e a o h
theorem LEx.trans {H H1 H2 : Hp} {p : Addr} (a : LEx p H H1) (b : LEx p H1 H2) : LEx p H H2 := fun c o n h => b c o n (a c o n h)
theorem PotAt.ex {H H' : Hp} {p : Addr} (h : PotAt H p) (e : Ex H H') : PotAt H' p := let ⟨a, b, hp⟩ := h; ⟨a, b, e _ _ hp⟩
/-- an expression that may draw: all its data, the pot's change -/
def EvP (te : TE) (δ : DE) (p : Addr) (P : D → Prop) : Prop := ∀ σ H, Env σ H δ → PotAt H p → ∀ Q : VK, (∀ v d H', P d → imm d = true → LEx p H H' → PotAt H' p → Rp H' d v → Q v H') → te σ H Q
def EaP (ta : TA) (δ : DE) (p : Addr) (P : List D → Prop) : Prop := ∀ σ H, Env σ H δ → PotAt H p → ∀ Q : List V → Hp → Prop, (∀ vs ds H', P ds → immS ds = true → LEx p H H' → PotAt H' p → RpS H' ds vs → Q vs H') → ta σ H Q
/-- the promise of a def that draws: asked C, the answer told by R -/
def spP (C : Addr → List D → Prop) (R : List D → D → Prop) : Sp := fun vs H Q _ => ∃ p ds, RpS H ds vs ∧ C p ds ∧ PotAt H p ∧ ∀ v d H', R ds d → imm d = true → LEx p H H' → PotAt H' p → Rp H' d v → Q v H'
theorem spP_len {C : Addr → List D → Prop} {R : List D → D → Prop} {vs : List V} {H : Hp} {Q : VK} {E : XK} {n : Nat} (h : spP C R vs H Q E) (hn : ∀ p ds, C p ds → ds.length = n) : vs.length = n := by
  obtain ⟨p, ds, r, hC, _⟩ := h
  rw [r.length]
  exact hn p ds hC
section
variable {δ δ1 : DE} {p : Addr} {te ta tb : TE} {t tr : TA} {P P' Px Py : D → Prop} {d : D} {ds : List D} {K : PySem.W.Frag}
theorem EvP.imp (h : EvP te δ p P) (hi : ∀ d, P d → P' d) : EvP te δ p P' := fun σ H E hp Q q => h σ H E hp Q fun v d H' hd => q v d H' (hi d hd)
theorem EaP.imp {PA PA' : List D → Prop} (h : EaP t δ p PA) (hi : ∀ ds, PA ds → PA' ds) : EaP t δ p PA' := fun σ H E hp Q q => h σ H E hp Q fun v d H' hd => q v d H' (hi d hd)
theorem ep_of (h : EvD te δ d) (hi : imm d = true) : EvP te δ p (· = d) := fun σ H E hp Q q => h σ H E Q fun v H' e r => q v d H' rfl hi (ex_lex e) (hp.ex e) r
theorem env_pot {σ : St} {H H' : Hp} (hi : immE δ = true) (E : Env σ H δ) (h : PotAt H p) (e : LEx p H H') : Env σ H' δ := E.keep hi (pot_tex h e)
theorem ep_op {r : R2} (hi : immE δ = true) (ha : EvP ta δ p Px) (hb : EvP tb δ p Py) (hr : ∀ x y, Px x → Py y → ∃ z, RD r x y z ∧ imm z = true ∧ P z) : EvP (tOp r ta tb) δ p P := fun σ H E hp Q q =>
  ha σ H E hp _ fun vx x H1 px ix e1 hp1 rx => hb σ H1 (env_pot hi E hp e1) hp1 _ fun vy y H2 py iy e2 hp2 ry => by
    obtain ⟨z, hz, iz, pz⟩ := hr x y px py
    exact hz H2 vx vy (rx.keep (pot_tex hp1 e2) ix) ry Q fun v H3 e3 r3 => q v z H3 pz iz ((e1.trans e2).trans (ex_lex e3)) (hp2.ex e3) r3
theorem eap_nil : EaP tNil δ p (· = []) := fun σ H E hp Q q => q [] [] H rfl rfl (fun a o _ h => h) hp rs_nil
theorem eap_cons {PA : List D → Prop} (hi : immE δ = true) (h : EvP te δ p P) (hr : EaP tr δ p PA) : EaP (tCons te tr) δ p (fun ds => ∃ d r, ds = d :: r ∧ P d ∧ PA r) := fun σ H E hp Q q =>
  h σ H E hp _ fun v d H1 pd id e1 hp1 rd => hr σ H1 (env_pot hi E hp e1) hp1 _ fun vs ds H2 pds ids e2 hp2 rds => q (v :: vs) (d :: ds) H2 ⟨d, ds, rfl, pd, pds⟩ (by
    show (imm d && immS ds) = true
    rw [id, ids]
    rfl) (e1.trans e2) hp2 (rs_cons (rd.keep (pot_tex hp1 e2) id) rds)
theorem ep_tup {PA : List D → Prop} (h : EaP t δ p PA) (hl : ∀ ds, PA ds → ds.length ≤ 1000) : EvP (tTup t) δ p (fun d => ∃ ds, d = .tup ds ∧ PA ds) := fun σ H E hp Q q =>
  h σ H E hp _ fun vs ds H1 pd id e1 hp1 rds => ⟨sz1000 (by rw [rds.length]; exact hl ds pd), fun b hb => q _ (.tup ds) _ ⟨ds, rfl, pd⟩ id (e1.trans (ex_lex (ex_new hb))) (hp1.ex (ex_new hb)) (rp_tup upd_same (rds.mono (ex_new hb)))⟩
theorem ep_call {C : Addr → List D → Prop} {R : List D → D → Prop} {E0 : XK} {PA : List D → Prop} (h : EaP t δ p PA) (hC : ∀ ds, PA ds → C p ds) : EvP (tCall (spP C R) [] E0 t) δ p (fun d => ∃ ds, PA ds ∧ R ds d) := fun σ H E hp Q q =>
  h σ H E hp _ fun vs ds H1 pd id e1 hp1 rds => by
    rw [List.append_nil]
    exact ⟨p, ds, rds, hC ds pd, hp1, fun v d H2 hR hi e2 hp2 r => q v d H2 ⟨ds, pd, hR⟩ hi (e1.trans e2) hp2 r⟩
/-- a def that draws nothing, called with drawn things -/
theorem ep_callR {R : List D → D → Prop} {E0 : XK} {PA : List D → Prop} {P : D → Prop} (h : EaP t δ p PA) (hR : ∀ ds, PA ds → ∃ d, R ds d ∧ imm d = true ∧ P d) : EvP (tCall (spR R) [] E0 t) δ p P := fun σ H E hp Q q =>
  h σ H E hp _ fun vs ds H1 pd id e1 hp1 rds => by
    obtain ⟨d, hd, hi, pd'⟩ := hR ds pd
    rw [List.append_nil]
    exact ⟨ds, d, rds, hd, fun v H2 e2 r => q v d H2 pd' hi (e1.trans (ex_lex e2)) (hp1.ex e2) r⟩
theorem ep_cb {r : List V → Hp → VK → Prop} {PA : List D → Prop} {P : D → Prop} (h : EaP t δ p PA) (hR : ∀ ds, PA ds → ∃ d, RC r ds d ∧ imm d = true ∧ P d) : EvP (tCB r t) δ p P := fun σ H E hp Q q =>
  h σ H E hp _ fun vs ds H1 pd id e1 hp1 rds => by
    obtain ⟨d, hd, hi, pd'⟩ := hR ds pd
    exact hd H1 vs rds Q fun v H2 e2 r => q v d H2 pd' hi (e1.trans (ex_lex e2)) (hp1.ex e2) r
/-- [..][i]: an item of a list written there -/
theorem ep_pick {PA : List D → Prop} (hi : immE δ = true) (h : EaP t δ p PA) (hl : ∀ ds, PA ds → ds.length ≤ 1000) (hx : EvP te δ p Px) (hP : ∀ ds x, PA ds → Px x → ∃ (n : Nat) (d : D), x = .int (n : Int) ∧ ds[n]? = some d ∧ P d) : EvP (tOp (rIxL K) (tLst t) te) δ p P := fun σ H E hp Q q =>
  h σ H E hp _ fun vs ds H1 pd ids e1 hp1 rds => ⟨sz1000 (by rw [rds.length]; exact hl ds pd), fun b hb => by
    have e1' := e1.trans (ex_lex (p := p) (ex_new (o := .lst vs) hb))
    have hp1' := hp1.ex (ex_new (o := .lst vs) hb)
    refine hx σ _ (env_pot hi E hp e1') hp1' _ fun vx x H2 px ix e2 hp2 rx => ?_
    obtain ⟨n, d, rfl, hn, pd'⟩ := hP ds x pd px
    have hbp : b ≠ p := fun z => by
      obtain ⟨x, y, h⟩ := hp1
      rw [z, h] at hb
      cases hb
    have hb2 : H2 b = some (.lst vs) := e2 b _ hbp upd_same
    have rds2 : RpS H2 ds vs := (rds.mono (ex_new (o := .lst vs) hb)).keep (pot_tex hp1' e2) ids
    obtain ⟨v, h1, h2⟩ := rds2.get hn
    have hid : imm d = true := by
      have : ∀ {l : List D} {n : Nat}, immS l = true → l[n]? = some d → imm d = true := by
        intro l
        induction l with
        | nil => intro n _ h; simp at h
        | cons a l ih =>
          intro n hs h
          have hs : (imm a && immS l) = true := hs
          rw [Bool.and_eq_true] at hs
          cases n with
          | zero =>
            have : a = d := Option.some.inj h
            rw [← this]
            exact hs.1
          | succ n => exact ih hs.2 h
      exact this ids hn
    exact ⟨b, vs, (n : Int), v, rfl, of_int rx, SqL.of hb2, atI_nat h1, q v d H2 pd' hid (e1'.trans e2) hp2 h2⟩⟩
/-! statements that draw -/
def SP (ts : TS) (δ : DE) (p : Addr) (Nx : DE → Prop) (Rt : D → Prop) : Prop := ∀ σ H, Env σ H δ → PotAt H p → ∀ En : Ends, (∀ δ' σ' H', Nx δ' → LEx p H H' → PotAt H' p → Env σ' H' δ' → En.nx σ' H') → (∀ d v H', Rt d → imm d = true → LEx p H H' → PotAt H' p → Rp H' d v → En.rt v H') → ts En σ H
variable {ts us : TS} {Nx Nx' : DE → Prop} {Rt : D → Prop} {i : Nat}
theorem sp_seq (h : SP ts δ p Nx' Rt) (h2 : ∀ δ', Nx' δ' → SP us δ' p Nx Rt) : SP (tSeq ts us) δ p Nx Rt := fun σ H E hp En hn hr =>
  h σ H E hp { En with nx := us En } (fun δ' σ' H' n e hp1 E' => h2 δ' n σ' H' E' hp1 En (fun δ2 σ2 H2 n2 e2 hp2 E2 => hn δ2 σ2 H2 n2 (e.trans e2) hp2 E2) fun d v H2 r i e2 hp2 rp => hr d v H2 r i (e.trans e2) hp2 rp) hr
theorem sp_next (h : Nx δ) : SP tNext δ p Nx Rt := fun σ H E hp En hn hr => hn δ σ H h (fun a o _ h => h) hp E
theorem sp_set (hi : immE δ = true) (h : EvP te δ p P) (hx : ∀ d, P d → imm d = true → Nx (δ.set i (some d))) : SP (tAsg te (gName i)) δ p Nx Rt := fun σ H E hp En hn hr =>
  h σ H E hp _ fun v d H1 pd id e1 hp1 r1 => hn _ _ H1 (hx d pd id) e1 hp1 ((env_pot hi E hp e1).set i r1)
theorem sp_ret (h : EvP te δ p P) (hr : ∀ d, P d → Rt d) : SP (tRet te) δ p Nx Rt := fun σ H E hp En hn hrt => h σ H E hp _ fun v d H1 pd id e1 hp1 r1 => hrt d v H1 (hr d pd) id e1 hp1 r1
/-- a test that draws -/
def EtP (tt : TT) (δ : DE) (p : Addr) (P : Bool → Prop) : Prop := ∀ σ H, Env σ H δ → PotAt H p → ∀ Q : Bool → Hp → Prop, (∀ b H', P b → LEx p H H' → PotAt H' p → Q b H') → tt σ H Q
theorem etp_test (h : EvP te δ p P) (hb : ∀ d, P d → ∃ b, d = .bl b) : EtP (tTest te) δ p (fun b => P (.bl b)) := fun σ H E hp Q q => h σ H E hp _ fun v d H1 pd _ e1 hp1 r1 => by
  obtain ⟨b, rfl⟩ := hb d pd
  exact ⟨b, of_bl r1, q b H1 pd e1 hp1⟩
theorem etp_of {tt : TT} {b : Bool} (h : EtD tt δ b) : EtP tt δ p (· = b) := fun σ H E hp Q q => h σ H E Q fun H' e => q b H' rfl (ex_lex e) (hp.ex e)
theorem sp_if {tt : TT} {PB : Bool → Prop} (hi : immE δ = true) (h : EtP tt δ p PB) (h1 : PB true → SP ts δ p Nx Rt) (h2 : PB false → SP us δ p Nx Rt) : SP (tIfS tt ts us) δ p Nx Rt := fun σ H E hp En hn hr =>
  h σ H E hp _ fun b H1 pb e1 hp1 => by
    have E1 := env_pot hi E hp e1
    cases b with
    | true =>
      exact h1 pb σ H1 E1 hp1 En (fun δ2 σ2 H2 n2 e2 hp2 E2 => hn δ2 σ2 H2 n2 (e1.trans e2) hp2 E2) fun d v H2 r i e2 hp2 rp => hr d v H2 r i (e1.trans e2) hp2 rp
    | false =>
      exact h2 pb σ H1 E1 hp1 En (fun δ2 σ2 H2 n2 e2 hp2 E2 => hn δ2 σ2 H2 n2 (e1.trans e2) hp2 E2) fun d v H2 r i e2 hp2 rp => hr d v H2 r i (e1.trans e2) hp2 rp
end
theorem body_P {C : Addr → List D → Prop} {R : List D → D → Prop} {N : List Str} {vs : List V} {H : Hp} {Q : VK} {E : XK} {ts : TS} (h : spP C R vs H Q E) (hb : ∀ p ds, C p ds → SP ts (startD N.length ds) p (fun _ => False) (R ds)) :
    ts { nx := fun _ H' => Q .non H', rt := Q } (L2.start N vs) H := by
  obtain ⟨p, ds, r, hC, hp, q⟩ := h
  exact hb p ds hC _ H (env_start r) hp _ (fun _ _ _ z => z.elim) fun d v H' hR hi e hp' rp => q v d H' hR hi e hp' rp
/-! ### promises -/
def Cp_take (p : Addr) (ds : List D) : Prop := ∃ m : Int, ds = [.ptr p, .int m] ∧ 0 < m ∧ m.natAbs.log2 < 9000
def Rp_take (ds : List D) (d : D) : Prop := ∃ (a m : Int) (x : D), ds = [x, .int m] ∧ d = .int a ∧ 0 ≤ a ∧ a < m
end Oa
/-! The defs that draw. -/
namespace Oa
open PySem L2
/-! ### more of the layer -/
def IntP (P : Int → Prop) : D → Prop := fun d => ∃ m : Int, d = .int m ∧ P m
section
variable {δ δ1 : DE} {p : Addr} {te tv tk : TE} {t : TA} {d : D} {ds es : List D} {K : PySem.W.Frag} {Pm : Int → Prop} {ts us : TS} {i : Nat}
theorem eap_of (h : EaD t δ ds) (hi : immS ds = true) : EaP t δ p (· = ds) := fun σ H E hp Q q => h σ H E Q fun vs H' e r => q vs ds H' rfl hi (ex_lex e) (hp.ex e) r
theorem ep_take {E0 : XK} (hv : δ[i]? = some (some (.ptr p))) (hi : immE δ = true) (he : EvP te δ p (IntP Pm)) (hm : ∀ m, Pm m → 0 < m ∧ m.natAbs.log2 < 9000) : EvP (tCall (spP Cp_take Rp_take) [] E0 (tCons (tVar i) (tCons te tNil))) δ p (IntP fun a => ∃ m, Pm m ∧ 0 ≤ a ∧ a < m) := by
  refine (ep_call (eap_cons hi (ep_of (ed_var hv) rfl) (eap_cons hi he eap_nil)) ?_).imp ?_
  · rintro ds ⟨d, r, rfl, rfl, d2, r2, rfl, ⟨m, rfl, hp⟩, rfl⟩
    exact ⟨m, rfl, hm m hp⟩
  · rintro d ⟨ds, ⟨d1, r, rfl, rfl, d2, r2, rfl, ⟨m, rfl, hp⟩, rfl⟩, a, m2, x, e, rfl, h0, h1⟩
    injection e with e1 e2
    injection e2 with e3 e4
    injection e3 with e5
    subst e5
    exact ⟨a, rfl, m, hp, h0, h1⟩
theorem ep_takeC {E0 : XK} {m : Int} (hv : δ[i]? = some (some (.ptr p))) (hi : immE δ = true) (h0 : 0 < m) (h1 : m.natAbs.log2 < 9000) : EvP (tCall (spP Cp_take Rp_take) [] E0 (tCons (tVar i) (tCons (tC (.int m)) tNil))) δ p (IntP fun a => 0 ≤ a ∧ a < m) :=
  (ep_take (Pm := (· = m)) hv hi ((ep_of ed_int rfl).imp fun d e => ⟨m, e, rfl⟩) (by rintro _ rfl; exact ⟨h0, h1⟩)).imp (by
    rintro d ⟨a, rfl, m2, rfl, h⟩
    exact ⟨a, rfl, h⟩)
/-- an item of a list written there -/
theorem ep_pickC (hi : immE δ = true) (h : EaD t δ ds) (him : immS ds = true) (hl : ds.length ≤ 1000) (hx : EvP te δ p (IntP fun a => 0 ≤ a ∧ a < (ds.length : Int))) : EvP (tOp (rIxL K) (tLst t) te) δ p (· ∈ ds) :=
  ep_pick hi (eap_of h him) (by rintro _ rfl; exact hl) hx (by
    rintro ds' x rfl ⟨a, rfl, h0, h1⟩
    have hlt : a.toNat < ds'.length := by omega
    exact ⟨a.toNat, ds'[a.toNat], by rw [Int.toNat_of_nonneg h0], List.getElem?_eq_getElem hlt, List.getElem_mem hlt⟩)
/-- l[k] = v -/
theorem st_setL {σ : St} {H : Hp} {n : Int} {En : Ends} (hp : σ[i]? = some (some (.ref p))) (hv : EvD tv δ d) (hk : EvD tk δ (.int n)) (E : Env σ H δ) (q : ∀ v H1, Ex H H1 → Rp H1 d v → ∃ xs j, H1 p = some (.lst xs) ∧ ixN xs.length n = some j ∧ us En σ (upd H1 p (.lst (xs.set j v)))) : tSeq (tAsg tv (gSub (tVar i) tk rSetL)) us En σ H :=
  hv σ H E _ fun v H1 e1 r1 => ⟨.ref p, hp, hk σ H1 (E.mono e1) _ fun y H2 e2 r2 => by
    obtain ⟨xs, j, h1, h2, h3⟩ := q v H2 (e1.trans e2) (r1.mono e2)
    exact ⟨p, xs, n, j, rfl, of_int r2, h1, h2, h3⟩⟩
/-- a new list handed back -/
def SN (ts : TS) (δ : DE) (es : List D) : Prop := ∀ σ H, Env σ H δ → ∀ En : Ends, (∀ p vs H', Ex H H' → H p = none → H' p = some (.lst vs) → RpS H' es vs → En.rt (.ref p) H') → ts En σ H
theorem sn_one (h : SD ts δ (fun δ' => δ' = δ1) (fun _ => False)) (k : SN us δ1 es) : SN (tSeq ts us) δ es := fun σ H E En q =>
  h σ H E { En with nx := us En } (fun δ' σ' H' n e E' => by
    subst n
    exact k σ' H' E' En fun p vs H2 e2 hl => q p vs H2 (e.trans e2) (e.free hl)) fun _ _ _ z => z.elim
theorem sn_ret (h : EvN te δ es) : SN (tRet te) δ es := fun σ H E En q => h σ H E _ fun p vs H' hn e h1 r => q p vs H' e hn h1 r
end
theorem rc_abs {i : Int} : RC (fun xs H Q => ∃ i, xs = [.int i] ∧ Q (.int (if i < 0 then -i else i)) H) [.int i] (.int (if i < 0 then -i else i)) := fun H vs r Q q => by
  obtain ⟨v, r0, rfl, h1, h2⟩ := of_cons r
  rw [of_nil h2, of_int h1]
  exact ⟨i, rfl, q _ H (Same.refl H) rp_int⟩
/-- the promise of a new pot -/
def spPot : Sp := fun vs H Q _ => ∃ a b : Int, vs = [.int a, .int b] ∧ ∀ p H', Ex H H' → H p = none → PotAt H' p → Q (.ref p) H'
def Cp_one (p : Addr) (ds : List D) : Prop := ds = [.ptr p]
def Rp_number (_ : List D) (d : D) : Prop := ∃ a : Int, d = .int a ∧ 0 ≤ a
def SetOk (n : Nat) (s : List Int) : Prop := s ≠ [] ∧ (∀ x ∈ s, 0 ≤ x ∧ x < (n : Int)) ∧ s.length ≤ n
def Cp_set (p : Addr) (ds : List D) : Prop := ∃ n : Nat, ds = [.ptr p, .int (n : Int)] ∧ 1 ≤ n ∧ n ≤ 6
def Rp_set (ds : List D) (d : D) : Prop := ∃ (n : Nat) (x : D) (s : List Int), ds = [x, .int (n : Int)] ∧ d = setD s ∧ SetOk n s
def Rp_deed (_ : List D) (d : D) : Prop := ∃ x : Deed, d = x.d
/-- a row's sets are of houses there -/
def RowS (n : Nat) : Row → Prop
  | .change s => SetOk n s
  | _ => True
def Cp_row (p : Addr) (ds : List D) : Prop := ∃ (n : Nat) (g : Grp), ds = [.ptr p, .int (n : Int), grpD g] ∧ 1 ≤ n ∧ n ≤ 6 ∧ (g.length = 1 ∨ g.length = 2)
def Rp_row (ds : List D) (d : D) : Prop := ∃ (n : Nat) (x : D) (g : Grp) (r : Row) (g' : Grp), ds = [x, .int (n : Int), grpD g] ∧ d = r.d ∧ RowS n r ∧ groupAfter g r = some g'
def setOf (n b : Nat) : List Nat := (List.range n).filter fun (i : Nat) => decide (b / 2 ^ i % 2 = 1)
def setI (n b : Nat) : List Int := (setOf n b).map fun (i : Nat) => (i : Int)
theorem setOf_ok {n b : Nat} (h1 : 1 ≤ b) (h2 : b < 2 ^ n) (hn : n ≤ 6) : SetOk n (setI n b) := by
  unfold setI
  have key : ∀ n < 7, ∀ b < 64, 1 ≤ b → b < 2 ^ n → setOf n b ≠ [] := by decide +kernel
  have hb : b < 64 := Nat.lt_of_lt_of_le h2 (Nat.le_trans (Nat.pow_le_pow_right (by decide) hn) (by decide))
  have := key n (by omega) b hb h1 h2
  refine ⟨fun z => this (List.map_eq_nil_iff.mp z), fun x hx => ?_, ?_⟩
  · obtain ⟨i, hi, rfl⟩ := List.mem_map.mp hx
    have := (List.mem_filter.mp hi).1
    rw [List.mem_range] at this
    omega
  · rw [List.length_map]
    exact Nat.le_trans (List.length_filter_le ..) (by rw [List.length_range]; exact Nat.le_refl _)
theorem ga_len {g g' : Grp} {r : Row} (hg : g.length = 1 ∨ g.length = 2) (h : groupAfter g r = some g') : g'.length = 1 ∨ g'.length = 2 := by
  cases r with
  | deed c n x =>
    cases h
    exact hg
  | change s =>
    match g, h with
    | [a], h =>
      cases h
      exact .inr rfl
  | close =>
    match g, h with
    | [a, b], h =>
      cases h
      exact .inl rfl
theorem gb_len : ∀ {rows : List Row} {g g' : Grp}, g.length = 1 ∨ g.length = 2 → groupBehind g rows = some g' → g'.length = 1 ∨ g'.length = 2
  | [], g, g', hg, h => by
    cases h
    exact hg
  | r :: rows, g, g', hg, h => by
    have h : (match groupAfter g r with | some g2 => groupBehind g2 rows | none => none) = some g' := h
    cases h2 : groupAfter g r with
    | none =>
      rw [h2] at h
      cases h
    | some g2 =>
      rw [h2] at h
      exact gb_len (ga_len hg h2) h
theorem rd_mul {i j : Int} (h : CMul i j) : RD (rI CMul fun i j => .int (i * j)) (.int i) (.int j) (.int (i * j)) := rd_iiC h
theorem rd_mod {i j : Int} (h : 0 < j) : RD (rI (fun _ j => 0 < j) fun i j => .int (i % j)) (.int i) (.int j) (.int (i % j)) := rd_iiC h
theorem rd_fdiv {i j : Int} (h : CDivW i j) : RD (rI CDivW fun i j => .int (i / j)) (.int i) (.int j) (.int (i / j)) := rd_iiC h
theorem rd_pow {i j z : Int} (h : CPow i j) (e : i ^ j.toNat = z) : RD (rI CPow fun i j => .int (i ^ j.toNat)) (.int i) (.int j) (.int z) := e ▸ rd_iiC h
theorem rd_shl {i j : Int} (h : CPow i j) : RD (rI CPow fun i j => .int (i * 2 ^ j.toNat)) (.int i) (.int j) (.int (i * 2 ^ j.toNat)) := rd_iiC h
abbrev rShrR : R2 := fun x y H Q => ∃ (i : Int) (k : Nat), x = .int i ∧ y = .int (k : Int) ∧ Q (.int (i / 2 ^ k)) H
abbrev rOddR : R2 := fun x y H Q => ∃ n : Nat, x = .int (n : Int) ∧ y = .int 1 ∧ Q (.int ((n % 2 : Nat) : Int)) H
theorem rd_shr {i : Int} {k : Nat} : RD (fun x y H Q => ∃ (i : Int) (k : Nat), x = .int i ∧ y = .int (k : Int) ∧ Q (.int (i / 2 ^ k)) H) (.int i) (.int (k : Int)) (.int (i / 2 ^ k)) := fun H vx vy rx ry Q q => ⟨i, k, of_int rx, of_int ry, q _ H (Same.refl H) rp_int⟩
theorem rd_odd {n : Nat} : RD (fun x y H Q => ∃ n : Nat, x = .int (n : Int) ∧ y = .int 1 ∧ Q (.int ((n % 2 : Nat) : Int)) H) (.int (n : Int)) (.int 1) (.int ((n % 2 : Nat) : Int)) := fun H vx vy rx ry Q q => ⟨n, of_int rx, of_int ry, q _ H (Same.refl H) rp_int⟩
section
variable {P : Program} {w : World} {K : PySem.W.Frag} {mg : Str → Option Value} {base : Heap} (T : Defs K mg)
theorem ok__law_pot : FnOk P w K mg base CX0 1 T._law_pot.f T._law_pot.fd ["_law_cell", "_law_salt"] spPot := by
  refine T._law_pot.F.ok sc__law_pot (fun vs H Q E h => by obtain ⟨a, b, rfl, _⟩ := h; rfl) (fun cdv A outer s H vs Q E hr h => ?_)
  refine ⟨_,
    (pss_cons (ps_set (i := 2) sc__law_pot.nd rfl (.inl rfl) (pe_op op_mod (pe_op op_add (pe_op op_add (pe_op op_mul (pe_op op_mod (pv 0) pe_int) pe_int) (pe_op op_mul (pv 1) pe_int)) pe_int) pe_int))
    (pss_one (ps_ret (pe_lst (pa_cons (pe_op op_mul (pe_op op_fdivW (pe_callB call_abs (by rfl) T.n_abs bb_abs (pa_cons (pv 0) pa_nil)) pe_int) (pe_op op_sub pe_int (pe_op op_mod (pv 0) pe_int))) (pa_cons (pv 2) pa_nil)))))), ?_⟩
  obtain ⟨a, b, rfl, q⟩ := h
  have hm := Int.emod_nonneg a (show (2 : Int) ≠ 0 by decide)
  have hm2 := Int.emod_lt_of_pos a (show (0 : Int) < 2 by decide)
  have hc : ∀ x : Int, CMul x 48271 := fun x => .inr (by decide)
  refine sn_one (δ := [some (.int a), some (.int b), none]) (δ1 := [some (.int a), some (.int b), some (.int ((a % 2305843009213693951 * 48271 + b * 69621 + 7) % 2305843009213693951))]) (sd_set (i := 2) (d := .int ((a % 2305843009213693951 * 48271 + b * 69621 + 7) % 2305843009213693951)) (ed_op (ed_op (ed_op (ed_op (ed_op (ed_var rfl) ed_int (rd_mod (by decide))) ed_int (rd_mul (Or.inr (by decide)))) (ed_op (ed_var rfl) ed_int (rd_mul (Or.inr (by decide)))) rd_ii) ed_int rd_ii) ed_int (rd_mod (by decide))) rfl)
    (sn_ret (en_lst (ea_cons (ed_op (ed_op (ed_cb (ea_cons (ed_var (d := .int a) rfl) ea_nil) rc_abs) ed_int (rd_fdiv (j := 2) ⟨by decide, by decide⟩)) (ed_op ed_int (ed_op (ed_var (d := .int a) rfl) ed_int (rd_mod (j := 2) (by decide))) rd_ii) (rd_mul (j := 1 - a % 2) (Or.inr ⟨by omega, by omega⟩))) (ea_cons (ed_var rfl) ea_nil)) (by simp)))
    _ H (env_cons rp_int (env_cons rp_int (env_skip env_nil))) _ fun p vs H' e hn hp r => ?_
  obtain ⟨v, r0, rfl, h1, h2⟩ := of_cons r
  obtain ⟨v2, r0, rfl, h3, h4⟩ := of_cons h2
  rw [of_nil h4, of_int h1, of_int h3] at hp
  exact q p H' e hn ⟨_, _, hp⟩
theorem ok__law_take : FnOk P w K mg base CX0 1 T._law_take.f T._law_take.fd ["_law_pot_here", "_law_many"] (spP Cp_take Rp_take) := by
  refine T._law_take.F.ok sc__law_take (fun vs H Q E h => spP_len h fun p ds ⟨m, e, _⟩ => by rw [e]; rfl) (fun cdv A outer s H vs Q E hr h => ?_)
  refine ⟨_,
    (pss_cons (ps_if (pt_cmpR op_gt (pe_ix (k_ixL (K := K) rfl) (pv 0) pe_int (fun _ _ => rfl)) pe_int (nomark _))
      (pss_cons (ps_set (i := 2) sc__law_take.nd rfl (.inl rfl) (pe_op op_mod (pe_ix (k_ixL (K := K) rfl) (pv 0) pe_int (fun _ _ => rfl)) (pv 1)))
      (pss_cons (ps_asg (pe_op op_fdivW (pe_ix (k_ixL (K := K) rfl) (pv 0) pe_int (fun _ _ => rfl)) (pv 1)) (pg_sub (pv 0) pe_int set_list))
      (pss_one (ps_ret (pv 2))))) pss_nil)
    (pss_cons (ps_asg (pe_op op_mod (pe_op op_add (pe_op op_mul (pe_ix (k_ixL (K := K) rfl) (pv 0) pe_int (fun _ _ => rfl)) pe_int) pe_int) pe_int) (pg_sub (pv 0) pe_int set_list))
    (pss_one (ps_ret (pe_op op_mod (pe_op op_fdivW (pe_ix (k_ixL (K := K) rfl) (pv 0) pe_int (fun _ _ => rfl)) pe_int) (pv 1)))))), ?_⟩
  obtain ⟨p, ds, r, ⟨m, rfl, hm, hl⟩, ⟨a, b, hp⟩, q⟩ := h
  obtain ⟨v, r0, rfl, h1, r⟩ := of_cons r
  obtain ⟨v2, r0, rfl, h3, h4⟩ := of_cons r
  rw [of_nil h4, of_int h3, of_ptr h1]
  clear h1 h3 h4 r
  have env : ∀ (H' : Hp) (x y : Int) (o : Option V) (d : Option D), H' p = some (.lst [.int x, .int y]) → (∀ e, d = some e → ∃ v, o = some v ∧ Rp H' e v) → Env [some (.ref p), some (.int m), o] H' [some (.lst [.int x, .int y]), some (.int m), d] := fun H' x y o d h ho => by
    refine env_cons (rp_lst h (rs_cons rp_int (rs_cons rp_int rs_nil))) (env_cons rp_int ?_)
    cases d with
    | none => exact env_skip env_nil
    | some e =>
      obtain ⟨v, rfl, hv⟩ := ho e rfl
      exact env_cons hv env_nil
  have ix : ∀ (δ : DE) (x y : Int) (j : Nat) (z : Int), δ[0]? = some (some (.lst [.int x, .int y])) → [D.int x, .int y][j]? = some (.int z) → EvD (tOp (rIxL K) (tVar 0) (tC (.int (j : Int)))) δ (.int z) := fun δ x y j z h1 h2 => ed_op (ed_var h1) ed_int (rd_ixL rfl h2)
  refine st_when (b := decide (1 < a)) (et_test (ed_op (ix _ a b 0 a rfl rfl) ed_int rd_ib)) (env H a b none none hp (fun _ z => nomatch z)) (fun _ H1 e1 => ?_) (fun _ H1 e1 => ?_)
  · refine st_one (d := .int (a % m)) (ed_op (ix _ a b 0 a rfl rfl) (ed_var rfl) (rd_mod hm)) (env H1 a b none none (e1 _ _ hp) (fun _ z => nomatch z)) fun v H2 e2 rv => ?_
    rw [of_int rv]
    refine st_setL (p := p) (n := 0) (d := .int (a / m)) rfl (ed_op (ix _ a b 0 a rfl rfl) (ed_var rfl) (rd_fdiv ⟨hm, hl⟩)) ed_int (env H2 a b (some (.int (a % m))) (some (.int (a % m))) (e2 _ _ (e1 _ _ hp)) (fun _ z => by cases z; exact ⟨_, rfl, rp_int⟩)) fun v H3 e3 rv3 => ⟨_, 0, e3 _ _ (e2 _ _ (e1 _ _ hp)), rfl, ?_⟩
    rw [of_int rv3]
    refine (ed_var (i := 2) (d := .int (a % m)) (δ := [some (.lst [.int (a / m), .int b]), some (.int m), some (.int (a % m))]) rfl) _ _ (env _ (a / m) b _ _ upd_same (fun _ z => by cases z; exact ⟨_, rfl, rp_int⟩)) _ fun v H4 e4 rv4 => ?_
    refine q v (.int (a % m)) H4 ⟨_, m, .ptr p, rfl, rfl, Int.emod_nonneg _ (by omega), Int.emod_lt_of_pos _ hm⟩ rfl (fun c o hc ho => e4 _ _ ?_) ⟨_, _, e4 _ _ upd_same⟩ rv4
    rw [upd_ne hc]
    exact e3 _ _ (e2 _ _ (e1 _ _ ho))
  · refine st_setL (p := p) (n := 1) (d := .int ((b * 1181783497276652981 + 12345678910987) % 2305843009213693951)) rfl (ed_op (ed_op (ed_op (ix _ a b 1 b rfl rfl) ed_int (rd_mul (Or.inr (by decide)))) ed_int rd_ii) ed_int (rd_mod (by decide))) ed_int (env H1 a b none none (e1 _ _ hp) (fun _ z => nomatch z)) fun v H3 e3 rv3 => ⟨_, 1, e3 _ _ (e1 _ _ hp), rfl, ?_⟩
    rw [of_int rv3]
    generalize (b * 1181783497276652981 + 12345678910987) % 2305843009213693951 = c
    refine (ed_op (ed_op (ix [some (.lst [.int a, .int c]), some (.int m), none] a c 1 c rfl rfl) ed_int (rd_fdiv (j := 65537) ⟨by decide, by decide⟩)) (ed_var (d := .int m) rfl) (rd_mod hm)) _ _ (env _ a c _ _ upd_same (fun _ z => nomatch z)) _ fun v H4 e4 rv4 => ?_
    refine q v _ H4 ⟨_, m, .ptr p, rfl, rfl, Int.emod_nonneg _ (by omega), Int.emod_lt_of_pos _ hm⟩ rfl (fun c o hc ho => e4 _ _ ?_) ⟨_, _, e4 _ _ upd_same⟩ rv4
    rw [upd_ne hc]
    exact e3 _ _ (e1 _ _ ho)
theorem ok__law_number : FnOk P w K mg base CX0 2 T._law_number.f T._law_number.fd ["_law_pot_here"] (spP Cp_one Rp_number) := by
  refine T._law_number.F.ok sc__law_number (fun vs H Q E h => spP_len h fun p ds e => by rw [e]; rfl) (fun cdv A outer s H vs Q E hr h => ?_)
  refine ⟨_,
    (pss_one (ps_ret (pe_call (ok__law_take T) (hr.mono (by decide)) (by rfl) T._law_take.g T._law_take.F.kp T._law_take.b .nil pass0 (pa_cons (pv 0) (pa_cons (pe_ix (k_ixL (K := K) rfl) (pe_lst (pa_cons pe_int (pa_cons pe_int (pa_cons pe_int (pa_cons (pe_op op_pow pe_int pe_int) (pa_cons (pe_op op_pow pe_int pe_int) pa_nil)))))) (pe_call (ok__law_take T) (hr.mono (by decide)) (by rfl) T._law_take.g T._law_take.F.kp T._law_take.b .nil pass0 (pa_cons (pv 0) (pa_cons pe_int pa_nil))) (fun _ _ => rfl)) pa_nil))))), ?_⟩
  refine body_P h fun p ds hC => ?_
  cases hC
  refine sp_ret (ep_take (Pm := fun m => m ∈ [(3 : Int), 10, 1000, 1000000000, 10000000000000000000000000000000000000000]) rfl rfl (EvP.imp (ep_pickC (ds := [(3 : Int), 10, 1000, 1000000000, 10000000000000000000000000000000000000000].map D.int) rfl (ea_cons ed_int (ea_cons ed_int (ea_cons ed_int (ea_cons (ed_op ed_int ed_int (rd_pow (z := 1000000000) ⟨by decide, by decide, by decide⟩ (by decide +kernel))) (ea_cons (ed_op ed_int ed_int (rd_pow (z := 10000000000000000000000000000000000000000) ⟨by decide, by decide, by decide⟩ (by decide +kernel))) ea_nil))))) rfl (by decide) (ep_takeC rfl rfl (by decide) (by decide))) fun d hd => ?_) (by decide +kernel)) ?_
  · obtain ⟨m, h1, rfl⟩ := List.mem_map.mp hd
    exact ⟨m, rfl, h1⟩
  · rintro d ⟨a, rfl, m, _, h, _⟩
    exact ⟨a, rfl, h⟩
theorem ok__law_set : FnOk P w K mg base CX0 2 T._law_set.f T._law_set.fd ["_law_pot_here", "_law_many"] (spP Cp_set Rp_set) := by
  refine T._law_set.F.ok sc__law_set (fun vs H Q E h => spP_len h fun p ds ⟨m, e, _⟩ => by rw [e]; rfl) (fun cdv A outer s H vs Q E hr h => ?_)
  refine ⟨_,
    (pss_cons (ps_set (i := 2) sc__law_set.nd rfl (.inr rfl) (pe_op op_add pe_int (pe_call (ok__law_take T) (hr.mono (by decide)) (by rfl) T._law_take.g T._law_take.F.kp T._law_take.b .nil pass0 (pa_cons (pv 0) (pa_cons (pe_op op_sub (pe_op op_shl pe_int (pv 1)) pe_int) pa_nil)))))
    (pss_one (ps_ret (pe_callTy (k_tuple (K := K) rfl) (by rfl) T.n_tuple bb_tuple (pa_cons (pe_lc (own := [("_law_house", 3)]) rfl sc__law_set.nd (pi_range1 (by rfl) T.n_range (pa_cons (pv 1) pa_nil)) (blkOk_by (N := nN__law_set) (sc := defScope s__law_set) (own := [("_law_house", 3)]) (by decide +kernel)) (fun _ _ _ _ _ => (pg_name (i := 3) sc__law_set.nd rfl (.inl rfl))) (fun _ _ _ _ _ => (pts_one (pt_cmpR op_eq (pe_op op_odd (pe_op op_shrN (pv 2) (pv 3)) pe_int) pe_int (nomark _)))) (fun _ _ _ _ _ => (pv 3))) pa_nil))))), ?_⟩
  refine body_P h fun p ds hC => ?_
  obtain ⟨n, rfl, h1, h6⟩ := hC
  have hpow : (2 : Int) ^ n = ((2 ^ n : Nat) : Int) := by
    rw [Int.natCast_pow]
    rfl
  have hp2 : 2 ≤ 2 ^ n := by
    have := Nat.pow_le_pow_right (show 0 < 2 by decide) h1
    exact this
  have hp64 : 2 ^ n ≤ 64 := Nat.pow_le_pow_right (show 0 < 2 by decide) h6
  refine sp_seq (Nx' := fun δ' => ∃ b : Nat, δ' = [some (.ptr p), some (.int (n : Int)), some (.int (b : Int)), none] ∧ 1 ≤ b ∧ b < 2 ^ n) (sp_set (i := 2) rfl (ep_op (Py := IntP fun a => 0 ≤ a ∧ a < (2 ^ n : Int) - 1) (Px := (· = .int 1)) (P := IntP fun a => 1 ≤ a ∧ a < (2 ^ n : Int)) rfl (ep_of ed_int rfl) (EvP.imp (ep_take (Pm := (· = (2 ^ n : Int) - 1)) rfl rfl (EvP.imp (ep_of (ed_op (ed_op ed_int (ed_var (d := .int (n : Int)) rfl) (rd_shl (i := 1) ⟨by omega, by omega, by decide⟩)) ed_int rd_ii) rfl) ?_) ?_) ?_) ?_) ?_) ?_
  · rintro d rfl
    refine ⟨_, rfl, ?_⟩
    show 1 * 2 ^ (n : Int).toNat - 1 = (2 : Int) ^ n - 1
    rw [Int.toNat_natCast, Int.one_mul]
  · rintro m rfl
    rw [hpow]
    refine ⟨by omega, ?_⟩
    have hlt : (((2 ^ n : Nat) : Int) - 1).natAbs < 2 ^ 9000 := by
      have : (64 : Nat) < 2 ^ 9000 := by decide +kernel
      omega
    exact PySem.Flt.log2_lt_of (by decide) hlt
  · rintro d ⟨a, rfl, m, rfl, h⟩
    exact ⟨a, rfl, h⟩
  · rintro x y rfl ⟨a, rfl, h⟩
    exact ⟨_, rd_ii, rfl, _, rfl, by omega, by omega⟩
  · rintro d ⟨a, rfl, h0, h2⟩ _
    rw [hpow] at h2
    obtain ⟨b, rfl⟩ := Int.eq_ofNat_of_zero_le (by omega : 0 ≤ a)
    exact ⟨b, rfl, by omega, by omega⟩
  · rintro δ' ⟨b, rfl, hb1, hb2⟩
    have hlc : EvN (tLc (iRng1 (tCons (tVar 1) tNil)) (gName 3) (tTest (tOp rEq (tOp rOddR (tOp rShrR (tVar 2) (tVar 3)) (tC (.int 1))) (tC (.int 1)))) (tVar 3) [3]) [some (.ptr p), some (.int (n : Int)), some (.int (b : Int)), none] ((setOf n b).map fun (i : Nat) => D.int (i : Int)) := by
      refine en_lcM (F := fun (i : Nat) => D.int (i : Int)) (l := List.range n) (fun (i : Nat) => decide (b / 2 ^ i % 2 = 1)) (fun (i : Nat) => D.int (i : Int)) ?_ (by rw [List.length_range]; omega) fun i _ => ⟨_, _, fun j hj => hj, gd_name, ?_, fun _ => ⟨rfl, ed_var rfl⟩⟩
      · have := wd_range (n := (n : Int)) (ea_cons (ed_var (i := 1) (δ := [some (.ptr p), some (.int (n : Int)), some (.int (b : Int)), none]) rfl) ea_nil) (by omega) (by omega)
        rw [Int.toNat_natCast] at this
        exact this
      · refine EtD.to (et_test (ed_op (ed_op (ed_op (ed_var (d := .int (b : Int)) rfl) (ed_var (d := .int (i : Int)) rfl) rd_shr) ed_int ?_) ed_int rd_eqI)) (b := decide (((b / 2 ^ i % 2 : Nat) : Int) = 1)) ?_
        · have e : (b : Int) / 2 ^ i = ((b / 2 ^ i : Nat) : Int) := by
            rw [Int.natCast_ediv, Int.natCast_pow]
            rfl
          rw [e]
          exact rd_odd
        · exact decide_eq_decide.mpr (by omega)
    refine sp_ret (ep_of (ed_cb (ea_cons hlc.ed ea_nil) rc_tupleL) ?_) ?_
    · exact immS_map (fun _ => rfl) _
    · rintro d rfl
      refine ⟨n, .ptr p, setI n b, rfl, ?_, setOf_ok hb1 hb2 h6⟩
      unfold setD setI
      rw [List.map_map]
      rfl
theorem rd_ixS {s : Str} {i : Int} {c : Nat} (hz : s.length ≤ sizeLine) (h : atI s.cps.toList i = some c) : RD rIxS (.str s) (.int i) (.str ⟨#[c]⟩) := fun H vx vy rx ry Q q => ⟨s, i, c, of_str rx, of_int ry, hz, h, q _ H (Same.refl H) rp_str⟩
theorem ok__law_deed : FnOk P w K mg base CX0 3 T._law_deed.f T._law_deed.fd ["_law_pot_here"] (spP Cp_one Rp_deed) := by
  refine T._law_deed.F.ok sc__law_deed (fun vs H Q E h => spP_len h fun p ds e => by rw [e]; rfl) (fun cdv A outer s H vs Q E hr h => ?_)
  refine ⟨_,
    (pss_cons (ps_set (i := 1) sc__law_deed.nd rfl (.inl rfl) (pe_ix (k_ixL (K := K) rfl) (pe_lst (pa_cons pe_str (pa_cons pe_str (pa_cons pe_str pa_nil)))) (pe_call (ok__law_take T) (hr.mono (by decide)) (by rfl) T._law_take.g T._law_take.F.kp T._law_take.b .nil pass0 (pa_cons (pv 0) (pa_cons pe_int pa_nil))) (fun _ _ => rfl)))
    (pss_cons (ps_set (i := 2) sc__law_deed.nd rfl (.inl rfl) (pe_ix ix_str pe_str (pe_call (ok__law_take T) (hr.mono (by decide)) (by rfl) T._law_take.g T._law_take.F.kp T._law_take.b .nil pass0 (pa_cons (pv 0) (pa_cons (pe_ix (k_ixL (K := K) rfl) (pe_lst (pa_cons pe_int (pa_cons pe_int pa_nil))) (pe_call (ok__law_take T) (hr.mono (by decide)) (by rfl) T._law_take.g T._law_take.F.kp T._law_take.b .nil pass0 (pa_cons (pv 0) (pa_cons pe_int pa_nil))) (fun _ _ => rfl)) pa_nil))) (fun _ _ => rfl)))
    (pss_cons (ps_if (pt_cmpR op_eq (pv 1) pe_str (nomark _))
      (pss_one (ps_ret (pe_tup (pa_cons (pv 1) (pa_cons (pv 2) pa_nil))))) pss_nil)
    (pss_one (ps_ret (pe_tup (pa_cons (pv 1) (pa_cons (pv 2) (pa_cons (pe_op op_mul (pe_call (ok__law_number T) (hr.mono (by decide)) (by rfl) T._law_number.g T._law_number.F.kp T._law_number.b .nil pass0 (pa_cons (pv 0) pa_nil)) (pe_ix (k_ixL (K := K) rfl) (pe_lst (pa_cons pe_int (pa_cons (pe_un un_neg pe_int) pa_nil))) (pe_call (ok__law_take T) (hr.mono (by decide)) (by rfl) T._law_take.g T._law_take.F.kp T._law_take.b .nil pass0 (pa_cons (pv 0) (pa_cons pe_int pa_nil))) (fun _ _ => rfl))) pa_nil))))))))), ?_⟩
  refine body_P h fun p ds hC => ?_
  cases hC
  refine sp_seq (Nx' := fun δ' => ∃ wd : Str, wd ∈ [("get" : Str), "put", "add"] ∧ δ' = [some (.ptr p), some (.str wd), none]) (sp_set (i := 1) rfl (ep_pickC (ds := [("get" : Str), "put", "add"].map D.str) rfl (ea_cons ed_str (ea_cons ed_str (ea_cons ed_str ea_nil))) rfl (by decide) (ep_takeC rfl rfl (by decide) (by decide))) ?_) ?_
  · rintro d hd _
    obtain ⟨wd, h1, rfl⟩ := List.mem_map.mp hd
    exact ⟨wd, h1, rfl⟩
  rintro δ' ⟨wd, hwd, rfl⟩
  refine sp_seq (Nx' := fun δ' => ∃ k : Str, δ' = [some (.ptr p), some (.str wd), some (.str k)]) (sp_set (i := 2) rfl (ep_op (Px := (· = .str "abcdefghijklmnopqrstuvwxyz")) (Py := IntP fun a => 0 ≤ a ∧ a < 26) (P := fun d => ∃ k : Str, d = .str k) rfl (ep_of ed_str rfl) (EvP.imp (ep_take (Pm := fun m => m ∈ [(2 : Int), 26]) rfl rfl (EvP.imp (ep_pickC (ds := [(2 : Int), 26].map D.int) rfl (ea_cons ed_int (ea_cons ed_int ea_nil)) rfl (by decide) (ep_takeC rfl rfl (by decide) (by decide))) fun d hd => ?_) (by decide +kernel)) ?_) ?_) ?_) ?_
  · obtain ⟨m, h1, rfl⟩ := List.mem_map.mp hd
    exact ⟨m, rfl, h1⟩
  · rintro d ⟨a, rfl, m, hm, h0, h1⟩
    refine ⟨a, rfl, h0, ?_⟩
    have : m ≤ 26 := by
      simp at hm
      omega
    omega
  · rintro x y rfl ⟨a, rfl, h0, h1⟩
    obtain ⟨j, rfl⟩ := Int.eq_ofNat_of_zero_le h0
    have hj : j < (("abcdefghijklmnopqrstuvwxyz" : Str).cps.toList).length := by
      have : (("abcdefghijklmnopqrstuvwxyz" : Str).cps.toList).length = 26 := by decide +kernel
      omega
    exact ⟨_, rd_ixS (by decide +kernel) (atI_nat (List.getElem?_eq_getElem hj)), rfl, _, rfl⟩
  · rintro d ⟨k, rfl⟩ _
    exact ⟨k, rfl⟩
  rintro δ' ⟨k, rfl⟩
  refine sp_seq (Nx' := fun δ' => δ' = [some (.ptr p), some (.str wd), some (.str k)] ∧ wd ∈ [("put" : Str), "add"]) (sp_if rfl (etp_of (b := decide (wd = "get")) (et_test (ed_op (ed_var rfl) ed_str rd_eqS))) (fun hb => ?_) (fun hb => sp_next ⟨rfl, ?_⟩)) ?_
  · have hb := of_decide_eq_true hb.symm
    subst hb
    refine sp_ret (ep_of (d := (Deed.get k).d) (ed_tup (ea_cons (ed_var rfl) (ea_cons (ed_var rfl) ea_nil)) (by simp)) rfl) ?_
    rintro d rfl
    exact ⟨_, rfl⟩
  · have hb := of_decide_eq_false hb.symm
    rcases List.mem_cons.mp hwd with h | h
    · exact absurd h hb
    · exact h
  rintro δ' ⟨rfl, hw2⟩
  refine sp_ret (ep_tup (eap_cons rfl (ep_of (ed_var rfl) rfl) (eap_cons rfl (ep_of (ed_var rfl) rfl) (eap_cons rfl (ep_op (Px := fun d => ∃ a : Int, d = .int a) (Py := fun d => d ∈ [D.int 1, D.int (-1)]) (P := fun d => ∃ a : Int, d = .int a) rfl (EvP.imp (ep_call (C := Cp_one) (R := Rp_number) (eap_cons rfl (ep_of (ed_var rfl) rfl) eap_nil) ?_) ?_) (ep_pickC (ds := [D.int 1, D.int (-1)]) rfl (ea_cons ed_int (ea_cons ?_ ea_nil)) rfl (by decide) (ep_takeC rfl rfl (by decide) (by decide))) ?_) eap_nil))) ?_) ?_
  · rintro ds ⟨d, r, rfl, rfl, rfl⟩
    rfl
  · rintro d ⟨ds, _, a, rfl, _⟩
    exact ⟨a, rfl⟩
  · exact ed_un ed_int fun H vx rx Q q => ⟨1, of_int rx, q _ H (Same.refl H) rp_int⟩
  · rintro x y ⟨a, rfl⟩ hy
    rcases List.mem_cons.mp hy with rfl | hy
    · exact ⟨_, rd_mul (Or.inr (by decide)), rfl, _, rfl⟩
    · rcases List.mem_cons.mp hy with rfl | hy
      · exact ⟨_, rd_mul (Or.inr (by decide)), rfl, _, rfl⟩
      · cases hy
  · rintro ds ⟨d, r, rfl, rfl, d2, r2, rfl, rfl, d3, r3, rfl, _, rfl⟩
    simp
  · rintro d ⟨ds, rfl, d, r, rfl, rfl, d2, r2, rfl, rfl, d3, r3, rfl, ⟨a, rfl⟩, rfl⟩
    rcases List.mem_cons.mp hw2 with rfl | hw2
    · exact ⟨.put k a, rfl⟩
    · rcases List.mem_cons.mp hw2 with rfl | hw2
      · exact ⟨.add k a, rfl⟩
      · cases hw2
theorem ok__law_row : FnOk P w K mg base CX0 4 T._law_row.f T._law_row.fd ["_law_pot_here", "_law_many", "_law_group"] (spP Cp_row Rp_row) := by
  refine T._law_row.F.ok sc__law_row (fun vs H Q E h => spP_len h fun p ds ⟨_, _, e, _⟩ => by rw [e]; rfl) (fun cdv A outer s H vs Q E hr h => ?_)
  refine ⟨_,
    (pss_cons (ps_if (pt_cmpR op_eq (pe_call (ok__law_take T) (hr.mono (by decide)) (by rfl) T._law_take.g T._law_take.F.kp T._law_take.b .nil pass0 (pa_cons (pv 0) (pa_cons pe_int pa_nil))) pe_int (nomark _))
      (pss_cons (ps_if (pt_cmpR op_eq (pe_callB (k_len (K := K) rfl) (by rfl) T.n_len bb_len (pa_cons (pv 2) pa_nil)) pe_int (nomark _))
        (pss_one (ps_ret (pe_tup (pa_cons pe_str pa_nil)))) pss_nil)
      (pss_one (ps_ret (pe_tup (pa_cons pe_str (pa_cons (pe_call (ok__law_set T) (hr.mono (by decide)) (by rfl) T._law_set.g T._law_set.F.kp T._law_set.b .nil pass0 (pa_cons (pv 0) (pa_cons (pv 1) pa_nil))) pa_nil)))))) pss_nil)
    (pss_one (ps_ret (pe_tup (pa_cons pe_str (pa_cons (pe_call (ok__law_take T) (hr.mono (by decide)) (by rfl) T._law_take.g T._law_take.F.kp T._law_take.b .nil pass0 (pa_cons (pv 0) (pa_cons pe_int pa_nil))) (pa_cons (pe_op op_add pe_int (pe_call (ok__law_take T) (hr.mono (by decide)) (by rfl) T._law_take.g T._law_take.F.kp T._law_take.b .nil pass0 (pa_cons (pv 0) (pa_cons pe_int pa_nil)))) (pa_cons (pe_call (ok__law_deed T) (hr.mono (by decide)) (by rfl) T._law_deed.g T._law_deed.F.kp T._law_deed.b .nil pass0 (pa_cons (pv 0) pa_nil)) pa_nil)))))))), ?_⟩
  refine body_P h fun p ds hC => ?_
  obtain ⟨n, g, rfl, h1, h6, hg⟩ := hC
  have himm : immE [some (.ptr p), some (.int (n : Int)), some (grpD g)] = true := by
    show (true && (true && (imm (grpD g) && true))) = true
    rw [imm_grp]
    rfl
  refine sp_seq (Nx' := fun δ' => δ' = [some (.ptr p), some (.int (n : Int)), some (grpD g)]) (sp_if (PB := fun _ => True) himm (fun σ H E hp Q q => ?_) (fun _ => ?_) (fun _ => sp_next rfl)) ?_
  · refine (ep_takeC (m := 4) rfl himm (by decide) (by decide)) σ H E hp _ fun v d H1 pd id e1 hp1 r1 => ?_
    obtain ⟨a, rfl, _⟩ := pd
    rw [of_int r1]
    exact ⟨rfl, _, rfl, q _ H1 trivial e1 hp1⟩
  · refine sp_seq (Nx' := fun δ' => δ' = [some (.ptr p), some (.int (n : Int)), some (grpD g)] ∧ g.length = 1) (sp_if himm (etp_of (b := decide (((g.map setD).length : Int) = 2)) (et_test (ed_op (ed_cb (ea_cons (ed_var (d := grpD g) rfl) ea_nil) rc_lenT) ed_int rd_eqI))) (fun hb => ?_) (fun hb => sp_next ⟨rfl, ?_⟩)) ?_
    · have hb := of_decide_eq_true hb.symm
      rw [List.length_map] at hb
      refine sp_ret (ep_of (d := Row.close.d) (ed_tup (ea_cons ed_str ea_nil) (by simp)) rfl) ?_
      rintro d rfl
      match g, hb with
      | [a, b], _ => exact ⟨n, .ptr p, [a, b], .close, [b], rfl, rfl, trivial, rfl⟩
    · have hb := of_decide_eq_false hb.symm
      rw [List.length_map] at hb
      omega
    · rintro δ' ⟨rfl, hl⟩
      refine sp_ret (ep_tup (eap_cons himm (ep_of ed_str rfl) (eap_cons himm (ep_call (C := Cp_set) (R := Rp_set) (eap_cons himm (ep_of (ed_var rfl) rfl) (eap_cons himm (ep_of (ed_var rfl) rfl) eap_nil)) ?_) eap_nil)) ?_) ?_
      · rintro ds ⟨d, r, rfl, rfl, d2, r2, rfl, rfl, rfl⟩
        exact ⟨n, rfl, h1, h6⟩
      · rintro ds ⟨d, r, rfl, rfl, d2, r2, rfl, _, rfl⟩
        simp
      · rintro d ⟨ds, rfl, d, r, rfl, rfl, d2, r2, rfl, ⟨ds2, ⟨e1, r3, rfl, rfl, e2, r4, rfl, rfl, rfl⟩, n2, x, s, e, rfl, hs⟩, rfl⟩
        injection e with _ e
        injection e with e _
        injection e with e
        have e : n = n2 := by omega
        subst e
        match g, hl with
        | [a], _ => exact ⟨n, .ptr p, [a], .change s, [a, s], rfl, rfl, hs, rfl⟩
  · rintro δ' rfl
    refine sp_ret (ep_tup (eap_cons himm (ep_of ed_str rfl) (eap_cons himm (ep_takeC rfl himm (by decide) (by decide)) (eap_cons himm (ep_op (Px := (· = .int 1)) (Py := IntP fun a => 0 ≤ a ∧ a < 3) (P := fun d => ∃ a : Int, d = .int a) himm (ep_of ed_int rfl) (ep_takeC rfl himm (by decide) (by decide)) ?_) (eap_cons himm (ep_call (C := Cp_one) (R := Rp_deed) (eap_cons himm (ep_of (ed_var rfl) rfl) eap_nil) ?_) eap_nil)))) ?_) ?_
    · rintro x y rfl ⟨a, rfl, _⟩
      exact ⟨_, rd_ii, rfl, _, rfl⟩
    · rintro ds ⟨d, r, rfl, rfl, rfl⟩
      rfl
    · rintro ds ⟨d, r, rfl, rfl, d2, r2, rfl, _, d3, r3, rfl, _, d4, r4, rfl, _, rfl⟩
      simp
    · rintro d ⟨ds, rfl, d, r, rfl, rfl, d2, r2, rfl, ⟨a, rfl, _⟩, d3, r3, rfl, ⟨b, rfl⟩, d4, r4, rfl, ⟨_, _, x, rfl⟩, rfl⟩
      exact ⟨n, .ptr p, g, .deed a b x, g, rfl, rfl, trivial, rfl⟩
end
end Oa
/-! The law's rows. -/
namespace Oa
open PySem L2
def spRows : Sp := fun vs H Q _ => ∃ (p : Addr) (n : Nat) (g : Grp) (more : Nat), RpS H [.ptr p, .int (n : Int), grpD g, .lst [], .int (more : Int)] vs ∧ 1 ≤ n ∧ n ≤ 6 ∧ (g.length = 1 ∨ g.length = 2) ∧ more ≤ 60 ∧ PotAt H p ∧
  ∀ q ws rows g' H', LEx p H H' → PotAt H' p → H q = none → H' q = some (.lst ws) → RpS H' (rowsD rows) ws → rows.length = more → (∀ r ∈ rows, RowS n r) → groupBehind g rows = some g' → Q (.ref q) H'
theorem te_call {sp : Sp} {E0 : XK} {ta : TA} {δ : DE} {ds : List D} {σ : St} {H : Hp} {Q : VK} (h : EaD ta δ ds) (E : Env σ H δ) (q : ∀ us H2, Ex H H2 → RpS H2 ds us → sp us H2 Q E0) : tCall sp [] E0 ta σ H Q := h σ H E _ fun us H2 e r => by
  rw [List.append_nil]
  exact q us H2 e r
theorem ta_call {sp : Sp} {E0 : XK} {ta : TA} {δ : DE} {ds : List D} {σ : St} {H : Hp} {Q : List V → Hp → Prop} (h : EaD ta δ ds) (E : Env σ H δ) (q : ∀ us H2, Ex H H2 → RpS H2 ds us → sp us H2 (fun v H3 => Q [v] H3) E0) : tCons (tCall sp [] E0 ta) tNil σ H Q := te_call h E q
theorem setD_inj {s t : List Int} (h : setD s = setD t) : s = t := List.map_inj_right (fun _ _ e => D.int.inj e) |>.mp (D.tup.inj h)
theorem grpD_inj {s t : Grp} (h : grpD s = grpD t) : s = t := List.map_inj_right (fun _ _ e => setD_inj e) |>.mp (D.tup.inj h)
theorem LEx.free {p q : Addr} {H H' : Hp} (e : LEx p H H') (hq : q ≠ p) (h : H' q = none) : H q = none := by
  cases h2 : H q with
  | none => rfl
  | some o => rw [e q o hq h2] at h; cases h
theorem lex_mut {p q : Addr} {H H' : Hp} {o : HO} (e : LEx p H H') (h : H q = none) : LEx p H (upd H' q o) := fun a u ha h2 => by
  rw [upd_ne (ne_of_none h2 h)]
  exact e a u ha h2
theorem tn_lst {a q : Addr} {H : Hp} {vs : List V} {o : HO} (h : H q = some (.lst vs)) (ha : H a = some o) (hn : ∀ vs, o ≠ .lst vs) : a ≠ q := fun z => by
  rw [z, h] at ha
  cases ha
  exact hn _ rfl
theorem PotAt.upd {H : Hp} {p q : Addr} {o : HO} (h : PotAt H p) (hq : p ≠ q) : PotAt (upd H q o) p := by
  obtain ⟨a, b, hp⟩ := h
  exact ⟨a, b, by rw [upd_ne hq]; exact hp⟩
section
variable {P : Program} {w : World} {K : PySem.W.Frag} {mg : Str → Option Value} {base : Heap} (T : Defs K mg)
theorem ok__law_rows : FnOk P w K mg base CX0 5 T._law_rows.f T._law_rows.fd ["_law_pot_here", "_law_many", "_law_group", "_law_rows_here", "_law_more"] spRows := by
  refine T._law_rows.F.ok sc__law_rows (fun vs H Q E h => by obtain ⟨p, n, g, more, r, _⟩ := h; exact r.length) (fun cdv A outer s H vs Q E hr h => ?_)
  refine ⟨_,
    (pss_cons (ps_set (i := 3) sc__law_rows.nd rfl (.inl rfl) (pe_callTy (k_list (K := K) rfl) (by rfl) T.n_list bb_list (pa_cons (pv 3) pa_nil)))
    (pss_cons (ps_for PassesOwn.never rfl (pi_range1 (by rfl) T.n_range (pa_cons (pv 4) pa_nil)) (pg_name (i := 5) sc__law_rows.nd rfl (.inl rfl))
      (pss_one (ps_expr (pe_bm PySem.F.plainAttrs_list PySem.F.slot_list_append PySem.F.type_list_append mt_append (pv 3) (pa_cons (pe_call (ok__law_row T) (hr.mono (by decide)) (by rfl) T._law_row.g T._law_row.F.kp T._law_row.b .nil pass0 (pa_cons (pv 0) (pa_cons (pv 1) (pa_cons (pe_call (ok__law_behind T) (hr.mono (by decide)) (by rfl) T._law_behind.g T._law_behind.F.kp T._law_behind.b .nil pass0 (pa_cons (pv 2) (pa_cons (pv 3) pa_nil))) pa_nil)))) pa_nil)))))
    (pss_one (ps_ret (pv 3))))), ?_⟩
  obtain ⟨p, n, g, more, r, h1, h6, hg, hm, hp, q⟩ := h
  obtain ⟨v0, r0, rfl, rp0, r⟩ := of_cons r
  obtain ⟨v1, r0, rfl, rp1, r⟩ := of_cons r
  obtain ⟨vg, r0, rfl, rpg, r⟩ := of_cons r
  obtain ⟨v3, r0, rfl, rp3, r⟩ := of_cons r
  obtain ⟨v4, r0, rfl, rp4, r⟩ := of_cons r
  rw [of_nil r, of_ptr rp0, of_int rp1, of_int rp4]
  clear rp0 rp1 rp4 r
  obtain ⟨pe, ve, rfl, he, re⟩ := of_lst rp3
  rw [of_nil re] at he
  refine ⟨.ref pe, rfl, pe, [], rfl, .inl (SqL.of he), fun ql hql => ?_⟩
  have hpq : p ≠ ql := fun z => by
    obtain ⟨a, b, hpp⟩ := hp
    rw [← z, hpp] at hql
    cases hql
  refine ⟨_, rfl, (more : Int), rfl, by omega, by omega, ?_⟩
  refine for_it (walk_range (lo := 0) (n := (more : Int).toNat)) (fun i σ' H' => ∃ a5 ws rows g', σ' = [some (.ref p), some (.int (n : Int)), some vg, some (.ref ql), some (.int (more : Int)), a5] ∧ LEx p H H' ∧ PotAt H' p ∧ H' ql = some (.lst ws) ∧ RpS H' (rowsD rows) ws ∧ rows.length = i ∧ (∀ r ∈ rows, RowS n r) ∧ groupBehind g rows = some g')
    ⟨none, [], [], g, rfl, ex_lex (ex_new hql), hp.ex (ex_new hql), upd_same, rs_nil, rfl, (fun r h => nomatch h), rfl⟩ (fun i σ' H' _ _ => trivial) ?_ ?_
  · rintro i x σ' H' H'' hi ⟨a5, ws, rows, g', rfl, e1, hp1, hq1, rr, hl, hrs, hgb⟩ ⟨rfl, rfl⟩
    have hi : i < more := by omega
    have te : TEx H H'' := pot_tex hp e1
    refine ⟨.ref ql, rfl, .inl ⟨rfl, ws, .inl (.inl hq1)⟩, ?_⟩
    have E1 : Env [some (.ref p), some (.int (n : Int)), some vg, some (.ref ql), some (.int (more : Int)), some (.int (0 + (i : Int)))] H'' [some (.ptr p), some (.int (n : Int)), some (grpD g), some (.lst (rowsD rows)), some (.int (more : Int)), some (.int (0 + (i : Int)))] :=
      env_cons rp_ptr (env_cons rp_int (env_cons (rpg.keep te imm_grp) (env_cons (rp_lst hq1 rr) (env_cons rp_int (env_cons rp_int env_nil)))))
    refine ta_call (ea_cons (ed_var (i := 0) (d := .ptr p) rfl) (ea_cons (ed_var (i := 1) (d := .int (n : Int)) rfl) (ea_cons (ed_call (ea_cons (ed_var (i := 2) (d := grpD g) rfl) (ea_cons (ed_var (i := 3) (d := .lst (rowsD rows)) rfl) ea_nil)) (pr_behind hgb)) ea_nil))) E1 fun us H2 e2 r2 => ?_
    have hq2 : H2 ql = some (.lst ws) := e2 _ _ hq1
    refine ⟨p, _, r2, ⟨n, g', rfl, h1, h6, gb_len hg hgb⟩, hp1.ex e2, fun v d H3 hR hi3 e3 hp3 r3 => ?_⟩
    obtain ⟨n', x, g1, r', g2, eq, rfl, hrow, hga⟩ := hR
    injection eq with _ eq
    injection eq with e4 eq
    injection eq with e5 _
    injection e4 with e4
    have hg1 : grpD g1 = grpD g' := e5.symm
    have hn : n' = n := by omega
    subst hn
    have hq3 : H3 ql = some (.lst ws) := e3 _ _ hpq.symm hq2
    have hwl : ws.length = i := by
      rw [rr.length]
      unfold rowsD
      rw [List.length_map, hl]
    refine ⟨ql, ws, v, rfl, rfl, hq3, small1000 (by omega), some (.int (0 + (i : Int))), ws ++ [v], rows ++ [r'], g2, rfl, ?_, ?_, upd_same, ?_, ?_, ?_, ?_⟩
    · exact lex_mut ((e1.trans (ex_lex e2)).trans e3) hql
    · exact hp3.upd hpq
    · unfold rowsD
      rw [List.map_append]
      have te3 : TEx H'' (upd H3 ql (.lst (ws ++ [v]))) := fun a xs ha => by
        have := pot_tex (hp1.ex e2) e3 a xs (e2 a _ ha)
        rw [upd_ne (tn_lst hq3 this (fun _ z => nomatch z))]
        exact this
      exact (rr.keep te3 (imm_rows rows)).append (rs_cons (r3.keep (tex_lst hq3) (imm_row r')) rs_nil)
    · rw [List.length_append, hl]
      rfl
    · intro r hr
      rcases List.mem_append.mp hr with h | h
      · exact hrs r h
      · rcases List.mem_cons.mp h with rfl | h
        · exact hrow
        · cases h
    · rw [gb_append, hgb]
      show groupBehind g' [r'] = some g2
      have : g1 = g' := grpD_inj hg1
      subst this
      show (match groupAfter g1 r' with | some g3 => groupBehind g3 [] | none => none) = some g2
      rw [hga]
      rfl
  · rintro σ' H' ⟨a5, ws, rows, g', rfl, e1, hp1, hq1, rr, hl, hrs, hgb⟩
    exact ⟨.ref ql, rfl, q ql ws rows g' H' e1 hp1 hql hq1 rr (by omega) hrs hgb⟩
end
end Oa
/-! The plain law: what holds of houses, rows and letters ahead of each turn and behind it. -/
namespace Oa
open PySem L2
/-! ### the best of known numbers -/
theorem best_some {g : Grp} {known : List (Int × Int)} {c : Int} (h : bestOf g known = some c) : isEnough g (atLeast known c) = true ∧ ∃ p ∈ known, p.2 = c := by
  unfold bestOf at h
  refine ⟨by simpa using List.find?_some h, ?_⟩
  have h2 := (desc_perm _).mem_iff.mp (List.mem_of_find?_eq_some h)
  obtain ⟨p, hp, e⟩ := List.mem_map.mp h2
  exact ⟨p, hp, e⟩
theorem best_max {g : Grp} {known : List (Int × Int)} {M : Int} (h1 : ∀ p ∈ known, p.2 ≤ M) (h2 : ∃ p ∈ known, p.2 = M) (h3 : isEnough g (atLeast known M) = true) : bestOf g known = some M := by
  have hM : M ∈ desc (known.map (·.2)) := by
    obtain ⟨p, hp, e⟩ := h2
    exact (desc_perm _).mem_iff.mpr (List.mem_map.mpr ⟨p, hp, e⟩)
  have hle : ∀ c ∈ desc (known.map (·.2)), c ≤ M := fun c hc => by
    obtain ⟨p, hp, e⟩ := List.mem_map.mp ((desc_perm _).mem_iff.mp hc)
    rw [← e]
    exact h1 p hp
  have hs := desc_pair (known.map (·.2))
  unfold bestOf
  cases hd : desc (known.map (·.2)) with
  | nil =>
    rw [hd] at hM
    cases hM
  | cons c l =>
    rw [hd] at hM hle hs
    have hc : c = M := by
      have h4 := hle c List.mem_cons_self
      rcases List.mem_cons.mp hM with e | hm
      · exact e.symm
      · have := (List.pairwise_cons.mp hs).1 M hm
        omega
    rw [hc, List.find?_cons, h3]
theorem mem_atLeast {known : List (Int × Int)} {c x : Int} : x ∈ atLeast known c ↔ ∃ p ∈ known, c ≤ p.2 ∧ p.1 = x := by
  unfold atLeast
  rw [List.mem_map]
  constructor
  · rintro ⟨p, hp, e⟩
    obtain ⟨h1, h2⟩ := List.mem_filter.mp hp
    exact ⟨p, h1, of_decide_eq_true h2, e⟩
  · rintro ⟨p, hp, h1, e⟩
    exact ⟨p, List.mem_filter.mpr ⟨hp, decide_eq_true h1⟩, e⟩
theorem pick_ge {s : Int} {o : Option Int} : s ≤ pick s o := by
  cases o with
  | none => exact Int.le_refl _
  | some c =>
    show s ≤ if s < c then c else s
    split <;> omega
theorem pick_lt {s : Int} {o : Option Int} (h : s < pick s o) : o = some (pick s o) := by
  cases o with
  | none => exact absurd h (Int.lt_irrefl s)
  | some c =>
    have h : s < if s < c then c else s := h
    show some c = some (if s < c then c else s)
    split at h
    · rename_i h2
      rw [if_pos h2]
    · omega
theorem pick_or {s : Int} {o : Option Int} : pick s o = s ∨ o = some (pick s o) := by
  by_cases h : s < pick s o
  · exact .inr (pick_lt h)
  · exact .inl (Int.le_antisymm (by omega) pick_ge)
/-! ### groups of houses there -/
def GS (n : Nat) (g : Grp) : Prop := (g.length = 1 ∨ g.length = 2) ∧ ∀ s ∈ g, SetOk n s
theorem ga_sets {n : Nat} {g g' : Grp} {r : Row} (hg : GS n g) (hr : RowS n r) (h : groupAfter g r = some g') : GS n g' := by
  refine ⟨ga_len hg.1 h, ?_⟩
  cases r with
  | deed c m x =>
    cases h
    exact hg.2
  | change s =>
    match g, h with
    | [a], h =>
      cases h
      intro t ht
      rcases List.mem_cons.mp ht with rfl | ht
      · exact hg.2 _ List.mem_cons_self
      · rcases List.mem_cons.mp ht with rfl | ht
        · exact hr
        · cases ht
  | close =>
    match g, h with
    | [a, b], h =>
      cases h
      intro t ht
      rcases List.mem_cons.mp ht with rfl | ht
      · exact hg.2 _ (List.mem_cons_of_mem _ List.mem_cons_self)
      · cases ht
theorem gb_sets {n : Nat} : ∀ {rows : List Row} {g g' : Grp}, GS n g → (∀ r ∈ rows, RowS n r) → groupBehind g rows = some g' → GS n g'
  | [], g, g', hg, _, h => by
    cases h
    exact hg
  | r :: rows, g, g', hg, hr, h => by
    have h : (match groupAfter g r with | some g2 => groupBehind g2 rows | none => none) = some g' := h
    cases h2 : groupAfter g r with
    | none =>
      rw [h2] at h
      cases h
    | some g2 =>
      rw [h2] at h
      exact gb_sets (ga_sets hg (hr r List.mem_cons_self) h2) (fun r' m => hr r' (List.mem_cons_of_mem _ m)) h
theorem gs_ok {n : Nat} {g : Grp} (hn : n ≤ 6) (h : GS n g) : GOk g := ⟨by rcases h.1 with h | h <;> omega, fun s hs => Nat.le_trans (h.2 s hs).2.2 (by omega)⟩
theorem rows_ok {n : Nat} {r : Row} (hn : n ≤ 6) (h : RowS n r) : RowOk r := by
  cases r with
  | change s => exact Nat.le_trans h.2.2 (by omega)
  | close => trivial
  | deed => trivial
/-- all houses are enough -/
theorem enough_all {n : Nat} {g : Grp} {A : List Int} (h : GS n g) (hA : ∀ x : Int, 0 ≤ x → x < (n : Int) → x ∈ A) : isEnough g A = true := by
  unfold isEnough
  rw [List.all_eq_true]
  intro s hs
  obtain ⟨h1, h2, _⟩ := h.2 s hs
  have e : s.filter (fun h => decide (h ∈ A)) = s := List.filter_eq_self.mpr fun x hx => decide_eq_true (hA x (h2 x hx).1 (h2 x hx).2)
  rw [e]
  apply decide_eq_true
  have : 0 < s.length := List.length_pos_iff.mpr h1
  omega
/-! ### what holds -/
/-- house one has taken the round and shows what it told -/
def AckOk (hs : List House) (me : Nat) (own lease time : Int) (a : Int × Int × Int) : Prop :=
  ∃ (i : Nat) (h : House), a.1 = (i : Int) ∧ i ≠ me ∧ hs[i]? = some h ∧ h.taken = own ∧ a.2.1 ≤ h.log.len ∧ a.2.2 + lease ≤ h.until_ ∧ a.2.2 ≤ time
structure HOk (g : Grp) (rows : List Row) (own st : Int) (h : House) : Prop where
  log : ∃ cut long : Nat, h.log = mkLog g rows cut long ∧ cut ≤ long ∧ long ≤ rows.length ∧ (cut : Int) ≤ h.settled ∧ h.settled ≤ (long : Int) ∧ (h.taken ≠ own → (long : Int) ≤ st)
  w : h.which ≤ own
  t : h.taken ≤ own
def LOk (g : Grp) (rows : List Row) (hs : List House) (me : Nat) (own st lease time top : Int) : Letter → Prop
  | .rows w log k t => w = own ∧ t ≤ time ∧ k ≤ top ∧ ∃ cut long : Nat, log = mkLog g rows cut long ∧ cut ≤ long ∧ long ≤ rows.length ∧ (cut : Int) ≤ k ∧ k ≤ (long : Int) ∧ st ≤ (long : Int)
  | .got w o c t => w = own ∧ AckOk hs me own lease time (o, c, t)
/-- what stays -/
structure Fix where
  g : Grp
  n : Nat
  me : Nat
  own : Int
  st : Int
  lease : Int
structure FixOk (F : Fix) : Prop where
  n1 : 1 ≤ F.n
  n6 : F.n ≤ 6
  hm : F.me < F.n
  gs : GS F.n F.g
  ow : (F.own - 1) % (F.n : Int) = (F.me : Int)
structure Inv (F : Fix) (m : Nat) (rows : List Row) (hs : List House) (ls : List Letter) (time : Int) (hd : House) (stamp : Option Int) (acks : List (Int × Int × Int)) (gz : Grp) : Prop where
  hl : hs.length = F.n
  rs : ∀ r ∈ rows, RowS F.n r
  rl : rows.length ≤ 60
  gb : groupBehind F.g rows = some gz
  hk : ∀ (i : Nat) h, hs[i]? = some h → HOk F.g rows F.own F.st h
  at_ : hs[F.me]? = some hd
  wh : hd.which = F.own
  tk : hd.taken = F.own
  ro : hd.role = .heads F.st stamp acks
  len : hd.log.len = (rows.length : Int)
  al : acks.length ≤ m
  ak : ∀ a ∈ acks, AckOk hs F.me F.own F.lease time a
  sp : ∀ t, stamp = some t → t + F.lease ≤ hd.until_ ∧ t ≤ time
  one : F.n = 1 → hd.settled = (rows.length : Int)
  st : F.st ≤ (rows.length : Int)
  ll : ls.length ≤ m
  lk : ∀ l ∈ ls, LOk F.g rows hs F.me F.own F.st F.lease time hd.settled l
section
variable {F : Fix} {m : Nat} {rows : List Row} {hs olds : List House} {ls : List Letter} {time : Int} {hd : House} {stamp : Option Int} {acks : List (Int × Int × Int)} {gz : Grp}
theorem HOk.len {g : Grp} {own st : Int} {h : House} (k : HOk g rows own st h) : h.log.len ≤ (rows.length : Int) ∧ h.settled ≤ h.log.len ∧ h.log.cut ≤ h.settled := by
  obtain ⟨cut, long, e, h1, h2, h3, h4, _⟩ := k.log
  rw [e, mkLog_len h1 h2]
  exact ⟨by omega, h4, h3⟩
theorem AckOk.later {own lease t2 : Int} {a : Int × Int × Int} {me : Nat} (h : AckOk hs me own lease time a) (ht : time ≤ t2) : AckOk hs me own lease t2 a := by
  obtain ⟨i, h, e, h1, h2, h3, h4, h5, h6⟩ := h
  exact ⟨i, h, e, h1, h2, h3, h4, h5, by omega⟩
theorem Inv.later (I : Inv F m rows hs ls time hd stamp acks gz) {t2 : Int} (ht : time ≤ t2) : Inv F m rows hs ls t2 hd stamp acks gz := { I with
  ak := fun a ha => (I.ak a ha).later ht
  sp := fun t e => ⟨(I.sp t e).1, Int.le_trans (I.sp t e).2 ht⟩
  lk := fun l hl => by
    have := I.lk l hl
    cases l with
    | rows w log k t =>
      obtain ⟨h1, h2, h3⟩ := this
      exact ⟨h1, by omega, h3⟩
    | got w o c t => exact ⟨this.1, this.2.later ht⟩ }
theorem Inv.more (I : Inv F m rows hs ls time hd stamp acks gz) {m2 : Nat} (h : m ≤ m2) : Inv F m2 rows hs ls time hd stamp acks gz := { I with
  al := Nat.le_trans I.al h
  ll := Nat.le_trans I.ll h }
theorem Inv.gzs (I : Inv F m rows hs ls time hd stamp acks gz) (f : FixOk F) : GS F.n gz := gb_sets f.gs I.rs I.gb
theorem Inv.grp (I : Inv F m rows hs ls time hd stamp acks gz) : hd.log.grp = some gz := by
  obtain ⟨cut, long, e, h1, h2, _⟩ := (I.hk _ _ I.at_).log
  have hl := I.len
  rw [e, mkLog_len h1 h2] at hl
  have hl : long = rows.length := by omega
  subst hl
  rw [e, mkLog_grp h1 I.gb, List.take_length]
  exact I.gb
theorem Inv.head (I : Inv F m rows hs ls time hd stamp acks gz) (f : FixOk F) (hm : m < 900) : IsHead hd F.st stamp acks gz := ⟨I.ro, I.grp, gs_ok f.n6 (I.gzs f), Nat.lt_of_le_of_lt I.al hm⟩
/-- who may read has enough promises -/
theorem Inv.reads (I : Inv F m rows hs ls time hd stamp acks gz) (h : mayRead gz (F.me : Int) time F.lease hd.settled F.st stamp acks = true) : isEnough gz (ones hs fun h => decide (time < h.until_)) = true := by
  unfold mayRead readsUntil at h
  cases hb : bestOf gz (knownTimes (F.me : Int) stamp acks) with
  | none =>
    rw [hb] at h
    cases h
  | some c =>
    rw [hb] at h
    have h : (decide (time < c + F.lease) && decide (F.st ≤ hd.settled)) = true := h
    rw [Bool.and_eq_true] at h
    have h1 := of_decide_eq_true h.1
    refine enough_mono (best_some hb).1 fun x hx => ?_
    obtain ⟨p, hp, hc, rfl⟩ := mem_atLeast.mp hx
    rcases List.mem_append.mp hp with hp | hp
    · obtain ⟨a, ha, rfl⟩ := List.mem_map.mp hp
      obtain ⟨i, h, e, _, h2, h3, h4, h5, h6⟩ := I.ak a ha
      show a.1 ∈ _
      rw [e]
      have hc : c ≤ a.2.2 := hc
      exact mem_ones h2 (decide_eq_true (by omega))
    · cases stamp with
      | none => cases hp
      | some t =>
        have hp : p ∈ [((F.me : Int), t)] := hp
        rcases List.mem_cons.mp hp with rfl | hp
        · have := (I.sp t rfl).1
          have hc : c ≤ t := hc
          exact mem_ones I.at_ (decide_eq_true (by omega))
        · cases hp
theorem Inv.right (I : Inv F m rows hs ls time hd stamp acks gz) (f : FixOk F) (hm : m < 900) {o : House} (hsame : olds.length = hs.length) (hgrow : ∀ (i : Nat) h o, hs[i]? = some h → olds[i]? = some o → o.settled ≤ h.settled ∧ o.until_ ≤ h.until_ ∧ (h.taken = F.own → h.settled ≤ max hd.settled o.settled))
    (ho : olds[F.me]? = some o) (hmove : o.settled < hd.settled → isEnough gz (ones hs fun h => decide (h.taken = hd.which) && decide (hd.settled ≤ h.log.len)) = true) : RightOk F.g rows hs olds F.me time F.lease where
  few := by
    rw [I.hl]
    exact Nat.le_trans f.n6 (by decide)
  same := hsame
  rl := Nat.le_trans I.rl (by decide)
  rok := fun r hr => rows_ok f.n6 (I.rs r hr)
  gok := gs_ok f.n6 f.gs
  logs := fun h hh => by
    obtain ⟨i, hi⟩ := List.mem_iff_getElem?.mp hh
    obtain ⟨cut, long, e, h1, h2, _⟩ := (I.hk i h hi).log
    exact ⟨cut, long, h1, h2, e⟩
  grow := fun i h o hi hoi => by
    obtain ⟨h1, h2, h3⟩ := hgrow i h o hi hoi
    obtain ⟨h4, h5, h6⟩ := (I.hk i h hi).len
    refine ⟨h1, h2, h6, h5, fun hd' e ht => ?_⟩
    rw [I.at_] at e
    cases e
    exact h3 (by rw [ht, I.wh])
  head := ⟨hd, o, F.st, stamp, acks, gz, I.at_, ho, I.head f hm, I.gb, I.len, by
    have := (I.hk _ _ I.at_).len
    omega, hmove, I.reads⟩
/-- nothing moved -/
theorem Inv.right0 (I : Inv F m rows hs ls time hd stamp acks gz) (f : FixOk F) (hm : m < 900) : RightOk F.g rows hs hs F.me time F.lease :=
  I.right f hm rfl (fun i h o h1 h2 => by
    rw [h1] at h2
    cases h2
    exact ⟨Int.le_refl _, Int.le_refl _, fun _ => by omega⟩) I.at_ (fun h => absurd h (Int.lt_irrefl _))
theorem get_set {α : Type} {l : List α} {i j : Nat} {a b x : α} (hi : l[i]? = some b) (h : (l.set i a)[j]? = some x) : (j = i ∧ x = a) ∨ (j ≠ i ∧ l[j]? = some x) := by
  by_cases hj : i = j
  · subst hj
    rw [List.getElem?_set_self (List.getElem?_eq_some_iff.mp hi).1] at h
    exact .inl ⟨rfl, (Option.some.inj h).symm⟩
  · rw [List.getElem?_set_ne hj] at h
    exact .inr ⟨fun z => hj z.symm, h⟩
theorem set_get {α : Type} {l : List α} {i : Nat} {a b : α} (hi : l[i]? = some b) : (l.set i a)[i]? = some a := List.getElem?_set_self (List.getElem?_eq_some_iff.mp hi).1
/-- the head changed, the others' told things stand -/
theorem AckOk.set_me {own lease : Int} {a : Int × Int × Int} {me : Nat} {h' : House} (h : AckOk hs me own lease time a) : AckOk (hs.set me h') me own lease time a := by
  obtain ⟨i, h, e, h1, h2, h3⟩ := h
  exact ⟨i, h, e, h1, by rw [List.getElem?_set_ne (Ne.symm h1)]; exact h2, h3⟩
/-! ### sent -/
theorem Inv.sent (I : Inv F m rows hs ls time hd stamp acks gz) : Inv F (m + 1) rows (hs.set F.me (hd.sent F.st acks time F.lease)) (ls ++ [.rows hd.which hd.log hd.settled time]) time (hd.sent F.st acks time F.lease) (some time) acks gz where
  hl := by rw [List.length_set, I.hl]
  rs := I.rs
  rl := I.rl
  gb := I.gb
  hk := fun i h hi => by
    rcases get_set I.at_ hi with ⟨rfl, rfl⟩ | ⟨_, h2⟩
    · have := I.hk _ _ I.at_
      exact ⟨this.log, this.w, this.t⟩
    · exact I.hk i h h2
  at_ := set_get I.at_
  wh := I.wh
  tk := I.tk
  ro := rfl
  len := I.len
  al := Nat.le_succ_of_le I.al
  ak := fun a ha => (I.ak a ha).set_me
  sp := fun t e => by
    cases e
    exact ⟨by show time + F.lease ≤ max hd.until_ (time + F.lease); omega, Int.le_refl _⟩
  one := I.one
  st := I.st
  ll := by
    rw [List.length_append]
    have := I.ll
    show ls.length + 1 ≤ m + 1
    omega
  lk := fun l hl => by
    rcases List.mem_append.mp hl with hl | hl
    · have := I.lk l hl
      cases l with
      | rows w log k t => exact this
      | got w o c t => exact ⟨this.1, this.2.set_me⟩
    · rcases List.mem_cons.mp hl with rfl | hl
      · obtain ⟨cut, long, e, h1, h2, h3, h4, _⟩ := (I.hk _ _ I.at_).log
        have hl := I.len
        rw [e, mkLog_len h1 h2] at hl
        refine ⟨I.wh, Int.le_refl _, Int.le_refl _, cut, long, e, h1, h2, h3, h4, ?_⟩
        rw [hl]
        exact I.st
      · cases hl
theorem Inv.sent_right (I : Inv F m rows hs ls time hd stamp acks gz) (f : FixOk F) (hm : m + 1 < 900) : RightOk F.g rows (hs.set F.me (hd.sent F.st acks time F.lease)) hs F.me time F.lease :=
  I.sent.right f hm (by rw [List.length_set]) (fun i h o h1 h2 => by
    rcases get_set I.at_ h1 with ⟨rfl, rfl⟩ | ⟨_, h3⟩
    · rw [I.at_] at h2
      cases h2
      refine ⟨Int.le_refl _, ?_, fun _ => ?_⟩
      · show hd.until_ ≤ max hd.until_ (time + F.lease)
        omega
      · show hd.settled ≤ max hd.settled hd.settled
        omega
    · rw [h3] at h2
      cases h2
      exact ⟨Int.le_refl _, Int.le_refl _, fun _ => by omega⟩) I.at_ (fun h => absurd h (Int.lt_irrefl _))
/-! ### told -/
theorem toldLog_cases {h : House} {w : Int} {other : Log} : (toldLog h w other = other ∧ (h.taken < w ∨ h.log.len < other.len)) ∨ (toldLog h w other = h.log ∧ ¬ (h.taken < w ∨ h.log.len < other.len)) := by
  unfold toldLog
  split
  · exact .inl ⟨rfl, by assumption⟩
  · exact .inr ⟨rfl, by assumption⟩
theorem Inv.told_hok (I : Inv F m rows hs ls time hd stamp acks gz) {i : Nat} {h : House} {other : Log} {k t : Int} (hi : hs[i]? = some h) (hl : LOk F.g rows hs F.me F.own F.st F.lease time hd.settled (.rows F.own other k t)) :
    HOk F.g rows F.own F.st (h.told F.own other k t F.lease) ∧ h.settled ≤ (h.told F.own other k t F.lease).settled ∧ (h.told F.own other k t F.lease).settled ≤ max hd.settled h.settled ∧ other.len ≤ (h.told F.own other k t F.lease).log.len ∧ (h.taken = F.own → h.log.len ≤ (h.told F.own other k t F.lease).log.len) := by
  obtain ⟨_, h1, h2, cut, long, rfl, h3, h4, h5, h6, h7⟩ := hl
  have hh := I.hk i h hi
  have htk := hh.t
  obtain ⟨c2, l2, e2, k1, k2, k3, k4, k5⟩ := hh.log
  have len1 := mkLog_len (g := F.g) h3 h4
  have len2 := mkLog_len (g := F.g) k1 k2
  have hs1 : (h.told F.own (mkLog F.g rows cut long) k t F.lease).settled = max h.settled (min k (toldLog h F.own (mkLog F.g rows cut long)).len) := rfl
  have hlog : (h.told F.own (mkLog F.g rows cut long) k t F.lease).log = toldLog h F.own (mkLog F.g rows cut long) := rfl
  rcases toldLog_cases (h := h) (w := F.own) (other := mkLog F.g rows cut long) with ⟨e, hc⟩ | ⟨e, hc⟩
  · rw [e] at hs1 hlog
    rw [len1] at hs1
    rw [e2, len1, len2] at hc
    have hle : (l2 : Int) ≤ long := by
      by_cases ht : h.taken = F.own
      · omega
      · have := k5 ht
        omega
    refine ⟨⟨⟨cut, long, hlog, h3, h4, ?_, ?_, fun z => absurd rfl z⟩, Int.le_refl _, Int.le_refl _⟩, ?_, ?_, ?_, ?_⟩
    · rw [hs1]
      omega
    · rw [hs1]
      omega
    · rw [hs1]
      omega
    · rw [hs1]
      omega
    · rw [hlog]
      exact Int.le_refl _
    · intro _
      rw [hlog, len1, e2, len2]
      exact hle
  · rw [e] at hs1 hlog
    rw [e2, len2] at hs1
    rw [e2, len1, len2] at hc
    refine ⟨⟨⟨c2, l2, by rw [hlog, e2], k1, k2, ?_, ?_, fun z => absurd rfl z⟩, Int.le_refl _, Int.le_refl _⟩, ?_, ?_, ?_, ?_⟩
    · rw [hs1]
      omega
    · rw [hs1]
      omega
    · rw [hs1]
      omega
    · rw [hs1]
      omega
    · rw [hlog, len1, e2, len2]
      omega
    · intro _
      rw [hlog]
      exact Int.le_refl _
/-- a follower told: it takes the round and tells what it has -/
theorem AckOk.told {own lease : Int} {a : Int × Int × Int} {me i : Nat} {h h' : House} (hi : hs[i]? = some h) (h1 : h'.taken = own) (h2 : h.taken = own → h.log.len ≤ h'.log.len) (h3 : h.until_ ≤ h'.until_) (ha : AckOk hs me own lease time a) : AckOk (hs.set i h') me own lease time a := by
  obtain ⟨j, x, e, k1, k2, k3, k4, k5, k6⟩ := ha
  by_cases hj : i = j
  · subst hj
    rw [hi] at k2
    cases k2
    have := h2 k3
    exact ⟨i, h', e, k1, set_get hi, h1, by omega, by omega, k6⟩
  · exact ⟨j, x, e, k1, by rw [List.getElem?_set_ne hj]; exact k2, k3, k4, k5, k6⟩
theorem told_until {h : House} {w k t lease : Int} {other : Log} : h.until_ ≤ (h.told w other k t lease).until_ ∧ t + lease ≤ (h.told w other k t lease).until_ := by
  show h.until_ ≤ max h.until_ (t + lease) ∧ t + lease ≤ max h.until_ (t + lease)
  omega
theorem Inv.told (I : Inv F m rows hs ls time hd stamp acks gz) {i : Nat} {h : House} {other : Log} {k t : Int} (hi : hs[i]? = some h) (hne : i ≠ F.me) (hl : LOk F.g rows hs F.me F.own F.st F.lease time hd.settled (.rows F.own other k t)) :
    Inv F (m + 1) rows (hs.set i (h.told F.own other k t F.lease)) (ls ++ [.got F.own (i : Int) (h.told F.own other k t F.lease).log.len t]) time hd stamp acks gz := by
  obtain ⟨t1, t2, t3, t4, t5⟩ := I.told_hok hi hl
  have tu := told_until (h := h) (w := F.own) (k := k) (t := t) (lease := F.lease) (other := other)
  have htime : t ≤ time := hl.2.1
  have htk : (h.told F.own other k t F.lease).taken = F.own := rfl
  generalize h.told F.own other k t F.lease = h' at t1 t2 t3 t4 t5 tu htk
  exact {
    hl := by rw [List.length_set, I.hl]
    rs := I.rs
    rl := I.rl
    gb := I.gb
    hk := fun j x hj => by
      rcases get_set hi hj with ⟨rfl, rfl⟩ | ⟨_, h2⟩
      · exact t1
      · exact I.hk j x h2
    at_ := by rw [List.getElem?_set_ne hne]; exact I.at_
    wh := I.wh
    tk := I.tk
    ro := I.ro
    len := I.len
    al := Nat.le_succ_of_le I.al
    ak := fun a ha => (I.ak a ha).told hi htk t5 tu.1
    sp := I.sp
    one := I.one
    st := I.st
    ll := by
      rw [List.length_append]
      have := I.ll
      show ls.length + 1 ≤ m + 1
      omega
    lk := fun l hl' => by
      rcases List.mem_append.mp hl' with hl' | hl'
      · have := I.lk l hl'
        cases l with
        | rows w log k t => exact this
        | got w o c t => exact ⟨this.1, this.2.told hi htk t5 tu.1⟩
      · rcases List.mem_cons.mp hl' with rfl | hl'
        · exact ⟨rfl, i, h', rfl, hne, set_get hi, htk, Int.le_refl _, tu.2, htime⟩
        · cases hl' }
theorem Inv.told_right (I : Inv F m rows hs ls time hd stamp acks gz) (f : FixOk F) (hm : m + 1 < 900) {i : Nat} {h : House} {other : Log} {k t : Int} (hi : hs[i]? = some h) (hne : i ≠ F.me) (hl : LOk F.g rows hs F.me F.own F.st F.lease time hd.settled (.rows F.own other k t)) :
    RightOk F.g rows (hs.set i (h.told F.own other k t F.lease)) hs F.me time F.lease := by
  obtain ⟨t1, t2, t3, t4, t5⟩ := I.told_hok hi hl
  have tu := told_until (h := h) (w := F.own) (k := k) (t := t) (lease := F.lease) (other := other)
  refine (I.told hi hne hl).right f hm (by rw [List.length_set]) (fun j x o h1 h2 => ?_) I.at_ (fun h => absurd h (Int.lt_irrefl _))
  rcases get_set hi h1 with ⟨rfl, rfl⟩ | ⟨_, h3⟩
  · rw [hi] at h2
    cases h2
    exact ⟨t2, tu.1, fun _ => t3⟩
  · rw [h3] at h2
    cases h2
    exact ⟨Int.le_refl _, Int.le_refl _, fun _ => by omega⟩
/-! ### the head's settled anew -/
/-- what is known is of houses that have it -/
theorem Inv.known (I : Inv F m rows hs ls time hd stamp acks gz) {c x : Int} (hc : c ≤ hd.log.len) (hx : x ∈ atLeast (knownCounts (F.me : Int) hd.log.len acks) c) : x ∈ ones hs (fun h => decide (h.taken = hd.which) && decide (c ≤ h.log.len)) := by
  obtain ⟨p, hp, h1, rfl⟩ := mem_atLeast.mp hx
  rcases List.mem_cons.mp hp with rfl | hp
  · refine mem_ones I.at_ ?_
    rw [decide_eq_true (by rw [I.tk, I.wh]), decide_eq_true hc]
    rfl
  · obtain ⟨a, ha, rfl⟩ := List.mem_map.mp hp
    obtain ⟨i, h, e, _, h2, h3, h4, _⟩ := I.ak a (List.mem_filter.mp ha).1
    show a.1 ∈ _
    rw [e]
    have h1 : c ≤ a.2.1 := h1
    refine mem_ones h2 ?_
    rw [decide_eq_true (by rw [h3, I.wh]), decide_eq_true (by omega)]
    rfl
theorem known_le (hk : ∀ (i : Nat) h, hs[i]? = some h → HOk F.g rows F.own F.st h) (ak : ∀ a ∈ acks, AckOk hs F.me F.own F.lease time a) {L : Int} (hL : (rows.length : Int) ≤ L) : ∀ p ∈ knownCounts (F.me : Int) L acks, p.2 ≤ L := by
  intro p hp
  rcases List.mem_cons.mp hp with rfl | hp
  · exact Int.le_refl _
  · obtain ⟨a, ha, rfl⟩ := List.mem_map.mp hp
    obtain ⟨i, h, e, _, h2, h3, h4, _⟩ := ak a (List.mem_filter.mp ha).1
    have := (hk i h h2).len.1
    show a.2.1 ≤ L
    omega
theorem anew_ge {g : Grp} {known : List (Int × Int)} {s : Int} : s ≤ anew g known s := pick_ge
theorem anew_le {g : Grp} {known : List (Int × Int)} {s L : Int} (hs : s ≤ L) (hk : ∀ p ∈ known, p.2 ≤ L) : anew g known s ≤ L := by
  rcases pick_or (s := s) (o := bestOf g known) with h | h
  · unfold anew
    omega
  · obtain ⟨p, hp, e⟩ := (best_some h).2
    unfold anew
    have := hk p hp
    omega
/-- where all there is known by enough -/
theorem anew_all {g : Grp} {known : List (Int × Int)} {s L : Int} (hs : s ≤ L) (h1 : ∀ p ∈ known, p.2 ≤ L) (h2 : ∃ p ∈ known, p.2 = L) (h3 : isEnough g (atLeast known L) = true) : anew g known s = L := by
  unfold anew
  rw [best_max h1 h2 h3]
  show (if s < L then L else s) = L
  split <;> omega
/-- the head's place after its count: all but what the count gives -/
theorem Inv.moved_right (I : Inv F m rows hs ls time hd stamp acks gz) (f : FixOk F) (hm : m < 900) {o : House} {s0 : Int} (hset : hd.settled = anew gz (knownCounts (F.me : Int) hd.log.len acks) s0) (ho : olds[F.me]? = some o) (hos : o.settled = s0) (hou : o.until_ ≤ hd.until_)
    (hsame : olds.length = hs.length) (hother : ∀ (i : Nat) h o, i ≠ F.me → hs[i]? = some h → olds[i]? = some o → h = o) : RightOk F.g rows hs olds F.me time F.lease := by
  refine I.right f hm hsame (fun i h o' h1 h2 => ?_) ho (fun hlt => ?_)
  · by_cases hi : i = F.me
    · subst hi
      rw [I.at_] at h1
      cases h1
      rw [ho] at h2
      cases h2
      refine ⟨?_, hou, fun _ => by omega⟩
      rw [hos, hset]
      exact anew_ge
    · cases hother i h o' hi h1 h2
      exact ⟨Int.le_refl _, Int.le_refl _, fun _ => by omega⟩
  · rw [hos, hset] at hlt
    have hb := pick_lt hlt
    have he : pick s0 (bestOf gz (knownCounts (F.me : Int) hd.log.len acks)) = hd.settled := hset.symm
    rw [he] at hb
    have hle := (I.hk _ _ I.at_).len.2.1
    exact enough_mono (best_some hb).1 fun x hx => I.known hle hx
/-! ### counted -/
theorem ackMax_or {own lease : Int} {me : Nat} {o : Int} : ∀ {l : List (Int × Int × Int)} {c t : Int}, (∀ a ∈ l, AckOk hs me own lease time a) → AckOk hs me own lease time (o, c, t) → AckOk hs me own lease time (o, (ackMax l o c t).1, (ackMax l o c t).2)
  | [], c, t, _, h => h
  | a :: l, c, t, hl, h => by
    have ih := fun c2 t2 (h2 : AckOk hs me own lease time (o, c2, t2)) => ackMax_or (l := l) (fun a ha => hl a (List.mem_cons_of_mem _ ha)) h2
    unfold ackMax
    rw [List.foldl_cons]
    by_cases ho : a.1 = o
    · rw [if_pos ho]
      refine ih _ _ ?_
      obtain ⟨i, x, e, k1, k2, k3, k4, k5, k6⟩ := h
      obtain ⟨j, y, e2, q1, q2, q3, q4, q5, q6⟩ := hl a List.mem_cons_self
      have hij : i = j := by
        have e : o = (i : Int) := e
        rw [ho, e] at e2
        omega
      subst hij
      rw [k2] at q2
      cases q2
      have k4 : c ≤ x.log.len := k4
      have k5 : t + lease ≤ x.until_ := k5
      have k6 : t ≤ time := k6
      refine ⟨i, x, e, k1, k2, k3, ?_, ?_, ?_⟩
      · show max c a.2.1 ≤ _
        omega
      · show max t a.2.2 + lease ≤ _
        omega
      · show max t a.2.2 ≤ _
        omega
    · rw [if_neg ho]
      exact ih c t h
theorem mem_acksNew {l : List (Int × Int × Int)} {o c t : Int} {a : Int × Int × Int} : a ∈ sortA (acksNew l o c t) ↔ (a ∈ l ∧ a.1 ≠ o) ∨ a = (o, (ackMax l o c t).1, (ackMax l o c t).2) := by
  rw [(sortA_perm _).mem_iff]
  unfold acksNew
  rw [List.mem_append, List.mem_filter, List.mem_singleton]
  simp
theorem len_acksNew {l : List (Int × Int × Int)} {o c t : Int} : (sortA (acksNew l o c t)).length ≤ l.length + 1 := by
  rw [(sortA_perm _).length_eq]
  unfold acksNew
  rw [List.length_append]
  exact Nat.succ_le_succ (List.length_filter_le ..)
theorem Inv.counted (I : Inv F m rows hs ls time hd stamp acks gz) {o c t : Int} (hl : AckOk hs F.me F.own F.lease time (o, c, t)) :
    Inv F (m + 1) rows (hs.set F.me (hd.counted gz (F.me : Int) F.st stamp acks o c t)) ls time (hd.counted gz (F.me : Int) F.st stamp acks o c t) stamp (sortA (acksNew acks o c t)) gz := by
  have ak2 : ∀ a ∈ sortA (acksNew acks o c t), AckOk hs F.me F.own F.lease time a := fun a ha => by
    rcases mem_acksNew.mp ha with ⟨h, _⟩ | rfl
    · exact I.ak a h
    · exact ackMax_or I.ak hl
  have hset : (hd.counted gz (F.me : Int) F.st stamp acks o c t).settled = anew gz (knownCounts (F.me : Int) hd.log.len (sortA (acksNew acks o c t))) hd.settled := rfl
  have hh := (I.hk _ _ I.at_)
  have hle : (hd.counted gz (F.me : Int) F.st stamp acks o c t).settled ≤ (rows.length : Int) := by
    rw [hset, I.len]
    refine anew_le ?_ (known_le I.hk ak2 (Int.le_refl _))
    have := hh.len
    omega
  have hge : hd.settled ≤ (hd.counted gz (F.me : Int) F.st stamp acks o c t).settled := by
    rw [hset]
    exact anew_ge
  exact {
    hl := by rw [List.length_set, I.hl]
    rs := I.rs
    rl := I.rl
    gb := I.gb
    hk := fun i h hi => by
      rcases get_set I.at_ hi with ⟨rfl, rfl⟩ | ⟨_, h2⟩
      · obtain ⟨cut, long, e, h1, h2, h3, h4, h5⟩ := hh.log
        have hlen := I.len
        rw [e, mkLog_len h1 h2] at hlen
        exact ⟨⟨cut, long, e, h1, h2, Int.le_trans h3 hge, by omega, h5⟩, hh.w, hh.t⟩
      · exact I.hk i h h2
    at_ := set_get I.at_
    wh := I.wh
    tk := I.tk
    ro := rfl
    len := I.len
    al := Nat.le_trans len_acksNew (Nat.succ_le_succ I.al)
    ak := fun a ha => (ak2 a ha).set_me
    sp := I.sp
    one := fun h1 => by
      have := I.one h1
      omega
    st := I.st
    ll := Nat.le_succ_of_le I.ll
    lk := fun l hl => by
      have := I.lk l hl
      cases l with
      | rows w log k t =>
        obtain ⟨h1, h2, h3, h4⟩ := this
        exact ⟨h1, h2, Int.le_trans h3 hge, h4⟩
      | got w o c t => exact ⟨this.1, this.2.set_me⟩ }
theorem Inv.counted_right (I : Inv F m rows hs ls time hd stamp acks gz) (f : FixOk F) (hm : m + 1 < 900) {o c t : Int} (hl : AckOk hs F.me F.own F.lease time (o, c, t)) :
    RightOk F.g rows (hs.set F.me (hd.counted gz (F.me : Int) F.st stamp acks o c t)) hs F.me time F.lease :=
  (I.counted hl).moved_right f hm rfl I.at_ rfl (Int.le_refl _) (by rw [List.length_set]) fun i h o hi h1 h2 => by
    rw [List.getElem?_set_ne hi.symm, h2] at h1
    exact (Option.some.inj h1).symm
/-! ### written -/
theorem HOk.snoc {g : Grp} {own st : Int} {h : House} (k : HOk g rows own st h) (r : Row) : HOk g (rows ++ [r]) own st h := by
  obtain ⟨cut, long, e, h1, h2, h3⟩ := k.log
  exact ⟨⟨cut, long, by rw [mkLog_snoc r h1 h2]; exact e, h1, by rw [List.length_append]; exact Nat.le_trans h2 (Nat.le_add_right _ _), h3⟩, k.w, k.t⟩
theorem Inv.headlog (I : Inv F m rows hs ls time hd stamp acks gz) : ∃ cut : Nat, hd.log = mkLog F.g rows cut rows.length ∧ cut ≤ rows.length ∧ (cut : Int) ≤ hd.settled := by
  obtain ⟨cut, long, e, h1, h2, h3, _⟩ := (I.hk _ _ I.at_).log
  have hl := I.len
  rw [e, mkLog_len h1 h2] at hl
  have hl : long = rows.length := by omega
  subst hl
  exact ⟨cut, e, h1, h3⟩
theorem Inv.written (I : Inv F m rows hs ls time hd stamp acks gz) (f : FixOk F) {r : Row} {g2 : Grp} (hr : RowS F.n r) (hg : groupAfter gz r = some g2) (hlen : rows.length < 60) :
    Inv F m (rows ++ [r]) (hs.set F.me (hd.written g2 (F.me : Int) acks r)) ls time (hd.written g2 (F.me : Int) acks r) stamp acks g2 := by
  obtain ⟨cut, he, hc, hcs⟩ := I.headlog
  have hlog : (hd.written g2 (F.me : Int) acks r).log = mkLog F.g (rows ++ [r]) cut (rows.length + 1) := by
    show hd.log.put r = _
    rw [he, mkLog_put r hc]
  have hrl : (rows ++ [r]).length = rows.length + 1 := by rw [List.length_append]; rfl
  have hll : (hd.written g2 (F.me : Int) acks r).log.len = ((rows ++ [r]).length : Int) := by
    rw [hlog, mkLog_len (Nat.le_succ_of_le hc) (by rw [hrl]; exact Nat.le_refl _), hrl]
  have hset : (hd.written g2 (F.me : Int) acks r).settled = anew g2 (knownCounts (F.me : Int) (hd.written g2 (F.me : Int) acks r).log.len acks) hd.settled := rfl
  have hh := (I.hk _ _ I.at_)
  have hs0 : hd.settled ≤ ((rows ++ [r]).length : Int) := by
    have := hh.len
    rw [hrl]
    omega
  have hkl : ∀ p ∈ knownCounts (F.me : Int) (hd.written g2 (F.me : Int) acks r).log.len acks, p.2 ≤ ((rows ++ [r]).length : Int) := by
    rw [hll]
    exact known_le I.hk I.ak (by rw [hrl]; omega)
  have hle : (hd.written g2 (F.me : Int) acks r).settled ≤ ((rows ++ [r]).length : Int) := by
    rw [hset]
    exact anew_le hs0 hkl
  have hge : hd.settled ≤ (hd.written g2 (F.me : Int) acks r).settled := by
    rw [hset]
    exact anew_ge
  have hrs : ∀ r' ∈ rows ++ [r], RowS F.n r' := fun r' h => by
    rcases List.mem_append.mp h with h | h
    · exact I.rs r' h
    · rcases List.mem_cons.mp h with rfl | h
      · exact hr
      · cases h
  have hgb : groupBehind F.g (rows ++ [r]) = some g2 := by
    rw [gb_append, I.gb]
    show (match groupAfter gz r with | some g3 => groupBehind g3 [] | none => none) = some g2
    rw [hg]
    rfl
  exact {
    hl := by rw [List.length_set, I.hl]
    rs := hrs
    rl := by rw [hrl]; omega
    gb := hgb
    hk := fun i h hi => by
      rcases get_set I.at_ hi with ⟨rfl, rfl⟩ | ⟨_, h2⟩
      · refine ⟨⟨cut, rows.length + 1, hlog, Nat.le_succ_of_le hc, by rw [hrl]; exact Nat.le_refl _, Int.le_trans hcs hge, by rw [hrl] at hle; exact hle, fun z => absurd I.tk z⟩, hh.w, hh.t⟩
      · exact (I.hk i h h2).snoc r
    at_ := set_get I.at_
    wh := I.wh
    tk := I.tk
    ro := I.ro
    len := hll
    al := I.al
    ak := fun a ha => (I.ak a ha).set_me
    sp := I.sp
    one := fun h1 => by
      rw [hset]
      refine anew_all hs0 hkl ⟨_, List.mem_cons_self, hll⟩ (enough_all (gb_sets f.gs hrs hgb) fun x h0 hx => ?_)
      refine mem_atLeast.mpr ⟨_, List.mem_cons_self, by rw [hll]; exact Int.le_refl _, ?_⟩
      show (F.me : Int) = x
      have := f.hm
      omega
    st := by
      have := I.st
      rw [hrl]
      omega
    ll := I.ll
    lk := fun l hl => by
      have := I.lk l hl
      cases l with
      | rows w log k t =>
        obtain ⟨h1, h2, h3, cut, long, e, h4, h5, h6⟩ := this
        exact ⟨h1, h2, Int.le_trans h3 hge, cut, long, by rw [mkLog_snoc r h4 h5]; exact e, h4, by rw [hrl]; exact Nat.le_succ_of_le h5, h6⟩
      | got w o c t => exact ⟨this.1, this.2.set_me⟩ }
theorem Inv.written_right (I : Inv F m rows hs ls time hd stamp acks gz) (f : FixOk F) (hm : m < 900) {r : Row} {g2 : Grp} (hr : RowS F.n r) (hg : groupAfter gz r = some g2) (hlen : rows.length < 60) :
    RightOk F.g (rows ++ [r]) (hs.set F.me (hd.written g2 (F.me : Int) acks r)) hs F.me time F.lease :=
  (I.written f hr hg hlen).moved_right f hm rfl I.at_ rfl (Int.le_refl _) (by rw [List.length_set]) fun i h o hi h1 h2 => by
    rw [List.getElem?_set_ne hi.symm, h2] at h1
    exact (Option.some.inj h1).symm
end
end Oa
/-! The plain law's end: all told, all counted, all settled. -/
namespace Oa
open PySem L2
section
variable {F : Fix} {m : Nat} {rows : List Row} {hs olds : List House} {ls ls' : List Letter} {time : Int} {hd : House} {stamp : Option Int} {acks : List (Int × Int × Int)} {gz : Grp}
theorem Inv.lets (I : Inv F m rows hs ls time hd stamp acks gz) (h : ∀ l ∈ ls', l ∈ ls) (hl : ls'.length ≤ m) : Inv F m rows hs ls' time hd stamp acks gz := { I with
  ll := hl
  lk := fun l hm => I.lk l (h l hm) }
theorem ackMax_top {o L t : Int} : ∀ {l : List (Int × Int × Int)}, (∀ a ∈ l, a.2.1 ≤ L ∧ a.2.2 ≤ t) → ackMax l o L t = (L, t)
  | [], _ => rfl
  | a :: l, h => by
    have h1 := h a List.mem_cons_self
    have ih := ackMax_top (o := o) (L := L) (t := t) (l := l) fun b hb => h b (List.mem_cons_of_mem _ hb)
    unfold ackMax at ih ⊢
    rw [List.foldl_cons]
    have e : (if a.1 = o then (max L a.2.1, max t a.2.2) else (L, t)) = (L, t) := by
      split
      · rw [Int.max_eq_left h1.1, Int.max_eq_left h1.2]
      · rfl
    show List.foldl _ (if a.1 = o then (max L a.2.1, max t a.2.2) else (L, t)) l = _
    rw [e]
    exact ih
/-- the first i houses have told all -/
def Full (F : Fix) (rows : List Row) (time : Int) (acks : List (Int × Int × Int)) (i : Nat) : Prop := ∀ j : Nat, j < i → j ≠ F.me → ((j : Int), (rows.length : Int), time) ∈ acks
def Done (F : Fix) (rows : List Row) (hd : House) (i : Nat) : Prop := (∀ j : Nat, j < F.n → j ≠ F.me → j < i) → hd.settled = (rows.length : Int)
theorem ends_step (I : Inv F m rows hs ls time hd stamp acks gz) (f : FixOk F) {other : Log} {k : Int} (hl : Letter.rows F.own other k time ∈ ls) (hlen : other.len = (rows.length : Int)) {i : Nat} {h : House} (hi : hs[i]? = some h) (hne : i ≠ F.me) (hf : Full F rows time acks i) :
    Inv F (m + 2) rows ((hs.set i (h.told F.own other k time F.lease)).set F.me (hd.counted gz (F.me : Int) F.st stamp acks (i : Int) (h.told F.own other k time F.lease).log.len time)) ls time (hd.counted gz (F.me : Int) F.st stamp acks (i : Int) (h.told F.own other k time F.lease).log.len time) stamp (sortA (acksNew acks (i : Int) (h.told F.own other k time F.lease).log.len time)) gz ∧
    Full F rows time (sortA (acksNew acks (i : Int) (h.told F.own other k time F.lease).log.len time)) (i + 1) ∧
    Done F rows (hd.counted gz (F.me : Int) F.st stamp acks (i : Int) (h.told F.own other k time F.lease).log.len time) (i + 1) := by
  have lok := I.lk _ hl
  obtain ⟨t1, t2, t3, t4, t5⟩ := I.told_hok hi lok
  have I1 := I.told hi hne lok
  have ak1 : AckOk (hs.set i (h.told F.own other k time F.lease)) F.me F.own F.lease time ((i : Int), (h.told F.own other k time F.lease).log.len, time) :=
    (I1.lk _ (List.mem_append_right _ List.mem_cons_self)).2
  have hL : (h.told F.own other k time F.lease).log.len = (rows.length : Int) := by
    have := t1.len.1
    omega
  have I2 := I1.counted ak1
  rw [hL] at ak1 I2 ⊢
  have I3 := I2.lets (ls' := ls) (fun l hm => List.mem_append_left _ hm) (Nat.le_trans I.ll (by omega))
  have top : ackMax acks (i : Int) (rows.length : Int) time = ((rows.length : Int), time) := ackMax_top fun a ha => by
    obtain ⟨j, x, _, _, h2, _, h4, _, h6⟩ := I.ak a ha
    have := (I.hk j x h2).len.1
    exact ⟨by omega, h6⟩
  have full : Full F rows time (sortA (acksNew acks (i : Int) (rows.length : Int) time)) (i + 1) := fun j hj hjm => by
    refine mem_acksNew.mpr ?_
    rw [top]
    by_cases hji : j = i
    · subst hji
      exact .inr rfl
    · refine .inl ⟨hf j (by omega) hjm, ?_⟩
      show ¬ (j : Int) = (i : Int)
      omega
  refine ⟨I3, full, fun hall => ?_⟩
  have hset : (hd.counted gz (F.me : Int) F.st stamp acks (i : Int) (rows.length : Int) time).settled = anew gz (knownCounts (F.me : Int) hd.log.len (sortA (acksNew acks (i : Int) (rows.length : Int) time))) hd.settled := rfl
  have ak2 : ∀ a ∈ sortA (acksNew acks (i : Int) (rows.length : Int) time), AckOk _ F.me F.own F.lease time a := I3.ak
  rw [hset, I.len]
  refine anew_all ?_ (known_le I3.hk ak2 (Int.le_refl _)) ⟨_, List.mem_cons_self, rfl⟩ (enough_all (I.gzs f) fun x h0 hx => ?_)
  · have := (I.hk _ _ I.at_).len
    omega
  · refine mem_atLeast.mpr ?_
    by_cases hxm : x = (F.me : Int)
    · exact ⟨_, List.mem_cons_self, Int.le_refl _, hxm.symm⟩
    · obtain ⟨j, rfl⟩ := Int.eq_ofNat_of_zero_le h0
      have hjm : j ≠ F.me := fun z => hxm (by rw [z])
      have hm := full j (hall j (by omega) hjm) hjm
      refine ⟨((j : Int), (rows.length : Int)), List.mem_cons_of_mem _ (List.mem_map.mpr ⟨_, List.mem_filter.mpr ⟨hm, ?_⟩, rfl⟩), Int.le_refl _, rfl⟩
      simp
      omega
/-- at the end the head may read, where the lease is any -/
theorem ends_read (I : Inv F m rows hs ls time hd (some time) acks gz) (f : FixOk F) (hf : Full F rows time acks F.n) (hs : hd.settled = (rows.length : Int)) : mayRead gz (F.me : Int) time F.lease hd.settled F.st (some time) acks = decide (0 < F.lease) := by
  have hb : bestOf gz (knownTimes (F.me : Int) (some time) acks) = some time := by
    refine best_max (fun p hp => ?_) ⟨((F.me : Int), time), List.mem_append_right _ List.mem_cons_self, rfl⟩ (enough_all (I.gzs f) fun x h0 hx => mem_atLeast.mpr ?_)
    · rcases List.mem_append.mp hp with hp | hp
      · obtain ⟨a, ha, rfl⟩ := List.mem_map.mp hp
        obtain ⟨_, _, _, _, _, _, _, _, h6⟩ := I.ak a ha
        exact h6
      · have hp : p ∈ [((F.me : Int), time)] := hp
        rcases List.mem_cons.mp hp with rfl | hp
        · exact Int.le_refl _
        · cases hp
    · by_cases hxm : x = (F.me : Int)
      · exact ⟨((F.me : Int), time), List.mem_append_right _ List.mem_cons_self, Int.le_refl _, hxm.symm⟩
      · obtain ⟨j, rfl⟩ := Int.eq_ofNat_of_zero_le h0
        have hm := hf j (by omega) fun z => hxm (by rw [z])
        exact ⟨((j : Int), time), List.mem_append_left _ (List.mem_map.mpr ⟨_, hm, rfl⟩), Int.le_refl _, rfl⟩
  unfold mayRead readsUntil
  rw [hb]
  show (decide (time < time + F.lease) && decide (F.st ≤ hd.settled)) = decide (0 < F.lease)
  rw [decide_eq_true (show F.st ≤ hd.settled by rw [hs]; exact I.st), Bool.and_true]
  exact decide_eq_decide.mpr (by omega)
end
end Oa
/-! Where the law's lists lie. -/
namespace Oa
open PySem L2
/-- xs == [] -/
def rEq0 (K : PySem.W.Frag) : R2 := fun x y H Q => ∃ a b xs, x = .ref a ∧ y = .ref b ∧ SqL K H a xs ∧ SqL K H b [] ∧ Q (.bl xs.isEmpty) H
theorem op_eq0 {X : Cx} {K : PySem.W.Frag} (hu : X.A.units + 64 < cLine) (hK : X.K = K := by rfl) : OpR X (compareOp .Eq) (rEq0 K) := by
  subst hK
  intro pins s σ H x y v u Q I rx ry h
  obtain ⟨a, b, xs, rfl, rfl, ha, hb, q⟩ := h
  cases rx
  cases ry
  obtain ⟨its, rv, pl, _⟩ := I.list ha
  obtain ⟨its2, rv2, pl2, _⟩ := I.list hb
  cases rv2
  have hu2 : X.A.units < cLine := by omega
  cases rv with
  | nil =>
    refine (SeqAt.RcAt.lists (e := fun _ => true) pl.isList pl2.isList rfl hu2 (fun j h1 _ => absurd h1 (Nat.not_lt_zero _))) _ _ _ _ ?_
    exact ⟨.bl true, H, I, rfl, q⟩
  | cons r rr =>
    refine (SeqAt.RcAt.lists_lengths pl.isList pl2.isList (by simp) hu2) _ _ _ _ ?_
    exact ⟨.bl false, H, I, rfl, q⟩
theorem rd_eq0 {K : PySem.W.Frag} {ds : List D} : RD (rEq0 K) (.lst ds) (.lst []) (.bl ds.isEmpty) := fun H vx vy rx ry Q q => by
  obtain ⟨a, vs, e1, e2, r⟩ := of_lst rx
  obtain ⟨b, ws, e3, e4, r2⟩ := of_lst ry
  rw [of_nil r2] at e4
  refine ⟨a, b, vs, e1, e3, SqL.of e2, SqL.of e4, ?_⟩
  have e : vs.isEmpty = ds.isEmpty := by
    cases ds with
    | nil =>
      rw [of_nil r]
      rfl
    | cons d ds =>
      obtain ⟨v, r0, rfl, _⟩ := of_cons r
      rfl
  rw [e]
  exact q _ H (Same.refl H) rp_bl
/-- all stands but at some places -/
def MEx (S : List Addr) (H H' : Hp) : Prop := ∀ a o, a ∉ S → H a = some o → H' a = some o
theorem MEx.refl {S : List Addr} {H : Hp} : MEx S H H := fun _ _ _ h => h
theorem MEx.trans {S : List Addr} {H H1 H2 : Hp} (a : MEx S H H1) (b : MEx S H1 H2) : MEx S H H2 := fun c o n h => b c o n (a c o n h)
theorem mex_ex {S : List Addr} {H H' : Hp} (e : Ex H H') : MEx S H H' := fun a o _ h => e a o h
theorem mex_lex {S : List Addr} {p : Addr} {H H' : Hp} (hp : p ∈ S) (e : LEx p H H') : MEx S H H' := fun a o n h => e a o (fun z => n (z ▸ hp)) h
theorem mex_upd {S : List Addr} {p : Addr} {H H' : Hp} {o : HO} (hp : p ∈ S) (e : MEx S H H') : MEx S H (upd H' p o) := fun a u n h => by
  have hne : a ≠ p := fun z => n (by rw [z]; exact hp)
  rw [upd_ne hne]
  exact e a u n h
/-- where the turn's draws, the state, its houses and rows, and the letters lie -/
structure Pl where
  t : Addr
  s : Addr
  h : Addr
  r : Addr
  l : Addr
structure PlOk (p : Pl) : Prop where
  ts : p.t ≠ p.s
  th : p.t ≠ p.h
  tr : p.t ≠ p.r
  tl : p.t ≠ p.l
  sh : p.s ≠ p.h
  sr : p.s ≠ p.r
  sl : p.s ≠ p.l
  hr : p.h ≠ p.r
  hl : p.h ≠ p.l
  rl : p.r ≠ p.l
/-- the houses, the rows and the letters as they stand -/
structure Wd (p : Pl) (me : Nat) (g : Grp) (rows : List Row) (hs : List House) (ls : List Letter) (vg : V) (H : Hp) : Prop where
  s : H p.s = some (.lst [.ref p.h, .int (me : Int), vg, .ref p.r])
  g : Rp H (grpD g) vg
  h : ∃ vs, H p.h = some (.lst vs) ∧ RpS H (hs.map House.d) vs
  r : ∃ vs, H p.r = some (.lst vs) ∧ RpS H (rowsD rows) vs
  l : ∃ vs, H p.l = some (.lst vs) ∧ RpS H (ls.map Letter.d) vs
  t : PotAt H p.t
  hi : immS (hs.map House.d) = true
  li : immS (ls.map Letter.d) = true
theorem immS_mem {α : Type} {f : α → D} : ∀ {l : List α}, (∀ a ∈ l, imm (f a) = true) → immS (l.map f) = true
  | [], _ => rfl
  | a :: l, h => by
    rw [List.map_cons]
    unfold immS
    rw [h a List.mem_cons_self, immS_mem fun b hb => h b (List.mem_cons_of_mem _ hb)]
    rfl
theorem immS_set {d : D} (hd : imm d = true) : ∀ {l : List D} {i : Nat}, immS l = true → immS (l.set i d) = true
  | [], i, h => h
  | a :: l, 0, h => by
    have h : (imm a && immS l) = true := h
    rw [Bool.and_eq_true] at h
    show (imm d && immS l) = true
    rw [hd, h.2]
    rfl
  | a :: l, i + 1, h => by
    have h : (imm a && immS l) = true := h
    rw [Bool.and_eq_true] at h
    show (imm a && immS (l.set i d)) = true
    rw [h.1, immS_set hd h.2]
    rfl
section
variable {p : Pl} {me : Nat} {g : Grp} {rows : List Row} {hs : List House} {ls : List Letter} {vg : V} {H H' : Hp}
theorem Wd.ex (W : Wd p me g rows hs ls vg H) (e : Ex H H') : Wd p me g rows hs ls vg H' := by
  obtain ⟨hv, h1, h2⟩ := W.h
  obtain ⟨rv, h3, h4⟩ := W.r
  obtain ⟨lv, h5, h6⟩ := W.l
  exact ⟨e _ _ W.s, W.g.mono e, ⟨hv, e _ _ h1, h2.mono e⟩, ⟨rv, e _ _ h3, h4.mono e⟩, ⟨lv, e _ _ h5, h6.mono e⟩, W.t.ex e, W.hi, W.li⟩
theorem Wd.lex (W : Wd p me g rows hs ls vg H) (k : PlOk p) (e : LEx p.t H H') (ht : PotAt H' p.t) : Wd p me g rows hs ls vg H' := by
  obtain ⟨hv, h1, h2⟩ := W.h
  obtain ⟨rv, h3, h4⟩ := W.r
  obtain ⟨lv, h5, h6⟩ := W.l
  have te := pot_tex W.t e
  exact ⟨e _ _ k.ts.symm W.s, W.g.keep te imm_grp, ⟨hv, e _ _ k.th.symm h1, h2.keep te W.hi⟩, ⟨rv, e _ _ k.tr.symm h3, h4.keep te (imm_rows rows)⟩, ⟨lv, e _ _ k.tl.symm h5, h6.keep te W.li⟩, ht, W.hi, W.li⟩
/-- a house set -/
theorem Wd.seth (W : Wd p me g rows hs ls vg H) (k : PlOk p) {hv : List V} (h1 : H p.h = some (.lst hv)) {h : House} {v : V} (i : Nat) (hd : Rp H h.d v) (hi : imm h.d = true) : Wd p me g rows (hs.set i h) ls vg (upd H p.h (.lst (hv.set i v))) := by
  obtain ⟨hv', h1', h2⟩ := W.h
  rw [h1] at h1'
  cases h1'
  obtain ⟨rv, h3, h4⟩ := W.r
  obtain ⟨lv, h5, h6⟩ := W.l
  have te : TEx H (upd H p.h (.lst (hv.set i v))) := tex_lst h1
  have him : immS ((hs.set i h).map House.d) = true := by
    rw [List.map_set]
    exact immS_set hi W.hi
  refine ⟨by rw [upd_ne k.sh]; exact W.s, W.g.keep te imm_grp, ⟨_, upd_same, ?_⟩, ⟨rv, by rw [upd_ne k.hr.symm]; exact h3, h4.keep te (imm_rows rows)⟩, ⟨lv, by rw [upd_ne k.hl.symm]; exact h5, h6.keep te W.li⟩, W.t.upd k.th, him, W.li⟩
  refine RpS.keep te him ?_
  rw [List.map_set]
  exact h2.set i hd
/-- a row put behind -/
theorem Wd.addr (W : Wd p me g rows hs ls vg H) (k : PlOk p) {rv : List V} (h3 : H p.r = some (.lst rv)) {r : Row} {v : V} (hd : Rp H r.d v) : Wd p me g (rows ++ [r]) hs ls vg (upd H p.r (.lst (rv ++ [v]))) := by
  obtain ⟨hv, h1, h2⟩ := W.h
  obtain ⟨rv', h3', h4⟩ := W.r
  rw [h3] at h3'
  cases h3'
  obtain ⟨lv, h5, h6⟩ := W.l
  have te : TEx H (upd H p.r (.lst (rv ++ [v]))) := tex_lst h3
  refine ⟨by rw [upd_ne k.sr]; exact W.s, W.g.keep te imm_grp, ⟨hv, by rw [upd_ne k.hr]; exact h1, h2.keep te W.hi⟩, ⟨_, upd_same, ?_⟩, ⟨lv, by rw [upd_ne k.rl.symm]; exact h5, h6.keep te W.li⟩, W.t.upd k.tr, W.hi, W.li⟩
  refine RpS.keep te (imm_rows _) ?_
  unfold rowsD
  rw [List.map_append]
  exact h4.append (rs_cons hd rs_nil)
/-- letters put behind -/
theorem Wd.addl (W : Wd p me g rows hs ls vg H) (k : PlOk p) {lv ws : List V} (h5 : H p.l = some (.lst lv)) {l2 : List Letter} (hd : RpS H (l2.map Letter.d) ws) (hi : immS (l2.map Letter.d) = true) : Wd p me g rows hs (ls ++ l2) vg (upd H p.l (.lst (lv ++ ws))) := by
  obtain ⟨hv, h1, h2⟩ := W.h
  obtain ⟨rv, h3, h4⟩ := W.r
  obtain ⟨lv', h5', h6⟩ := W.l
  rw [h5] at h5'
  cases h5'
  have te : TEx H (upd H p.l (.lst (lv ++ ws))) := tex_lst h5
  have him : immS ((ls ++ l2).map Letter.d) = true := by
    rw [List.map_append, immS_append, W.li, hi]
    rfl
  refine ⟨by rw [upd_ne k.sl]; exact W.s, W.g.keep te imm_grp, ⟨hv, by rw [upd_ne k.hl]; exact h1, h2.keep te W.hi⟩, ⟨rv, by rw [upd_ne k.rl]; exact h3, h4.keep te (imm_rows rows)⟩, ⟨_, upd_same, ?_⟩, W.t.upd k.tl, W.hi, him⟩
  refine RpS.keep te him ?_
  rw [List.map_append]
  exact h6.append hd
end
theorem ixN_nat {n i : Nat} (h : i < n) : ixN n (i : Int) = some i := by
  unfold ixN
  rw [if_pos (by omega)]
  simp
  first | omega | exact h
end Oa
/-! One move. -/
namespace Oa
open PySem L2
/-! ### statements that change lists -/
section
variable {σ σ' : St} {H : Hp} {δ : DE} {d : D} {ds es : List D} {te tv tk : TE} {ta : TA} {ts us : TS} {En : Ends} {i j k n : Nat} {p a : Addr} {K : PySem.W.Frag}
theorem st_oneP {P : D → Prop} (h : EvP te δ p P) (E : Env σ H δ) (hp : PotAt H p) (q : ∀ v d H1, P d → imm d = true → LEx p H H1 → PotAt H1 p → Rp H1 d v → us En (σ.set i (some v)) H1) : tSeq (tAsg te (gName i)) us En σ H := h σ H E hp _ q
theorem st_val (h : te σ H fun v H1 => us En (σ.set i (some v)) H1) : tSeq (tAsg te (gName i)) us En σ H := h
theorem ta_one {Q : List V → Hp → Prop} (h : te σ H fun v H1 => Q [v] H1) : tCons te tNil σ H Q := h
theorem ta_next {tr : TA} {Q : List V → Hp → Prop} (h : te σ H fun v H1 => tr σ H1 fun vs H2 => Q (v :: vs) H2) : tCons te tr σ H Q := h
theorem te_cb {r : List V → Hp → VK → Prop} {Q : VK} (h : ta σ H fun xs H1 => r xs H1 Q) : tCB r ta σ H Q := h
/-- a, b, c, d = l -/
theorem st_unl4 {i1 i2 i3 i4 : Nat} {v1 v2 v3 v4 : V} (hp : σ[i]? = some (some (.ref a))) (h : H a = some (.lst [v1, v2, v3, v4])) (q : us En ((((σ.set i1 (some v1)).set i2 (some v2)).set i3 (some v3)).set i4 (some v4)) H) : tSeq (tAsg (tVar i) (gUnl K 4 (gCons (gName i1) (gCons (gName i2) (gCons (gName i3) (gCons (gName i4) gNil)))))) us En σ H :=
  ⟨.ref a, hp, a, _, rfl, SqL.of h, rfl, _, _, rfl, _, _, rfl, _, _, rfl, _, _, rfl, rfl, q⟩
/-- l[k] = v -/
theorem st_setI {xs : List V} (hp : σ[i]? = some (some (.ref a))) (hk : σ[k]? = some (some (.int (n : Int)))) (hv : EvD tv δ d) (E : Env σ H δ) (h1 : H a = some (.lst xs)) (hn : n < xs.length) (q : ∀ v H1, Ex H H1 → Rp H1 d v → H1 a = some (.lst xs) → En.nx σ (upd H1 a (.lst (xs.set n v)))) : tAsg tv (gSub (tVar i) (tVar k) rSetL) En σ H :=
  hv σ H E _ fun v H1 e1 r1 => ⟨.ref a, hp, .int (n : Int), hk, a, xs, n, n, rfl, rfl, e1 _ _ h1, ixN_nat hn, q v H1 e1 r1 (e1 _ _ h1)⟩
/-- l[k], x = f(..), of a datum and a new list -/
theorem st_pair {R : List D → D → List D → Prop} {E0 : XK} {xs : List V} (hv : EaD ta δ ds) (E : Env σ H δ) (hR : R ds d es) (hp : σ[i]? = some (some (.ref a))) (hk : σ[k]? = some (some (.int (n : Int)))) (h1 : H a = some (.lst xs)) (hn : n < xs.length)
    (q : ∀ v l ws H1, Ex H H1 → H l = none → H1 l = some (.lst ws) → Rp H1 d v → RpS H1 es ws → H1 a = some (.lst xs) → us En (σ.set j (some (.ref l))) (upd H1 a (.lst (xs.set n v)))) :
    tSeq (tAsg (tCall (spL R) [] E0 ta) (gTup K 2 (gCons (gSub (tVar i) (tVar k) rSetL) (gCons (gName j) gNil)))) us En σ H :=
  te_call hv E fun vs H1 e1 r1 => ⟨ds, d, es, r1, hR, fun pt l v ws H2 e2 hl ht hlw rd rs => ⟨pt, _, rfl, SqT.of ht, rfl, v, _, rfl, .ref a, hp, .int (n : Int), hk, a, xs, n, n, rfl, rfl, e2 _ _ (e1 _ _ h1), ixN_nat hn, .ref l, [], rfl, rfl,
    q v l ws H2 (e1.trans e2) (e1.free hl) hlw rd rs (e2 _ _ (e1 _ _ h1))⟩⟩
theorem st_ext {b : Addr} {xs zs : List V} (hx : σ[i]? = some (some (.ref a))) (hy : σ[j]? = some (some (.ref b))) (h1 : H a = some (.lst xs)) (h2 : H b = some (.lst zs)) (hz : xs.length + zs.length < 1000) (q : En.nx σ (upd H a (.lst (xs ++ zs)))) : tDrop (tBM K "list" rExtend (tVar i) (tCons (tVar j) tNil)) En σ H :=
  ⟨.ref a, hx, .inl ⟨rfl, xs, .inl (.inl h1)⟩, .ref b, hy, a, b, xs, zs, rfl, rfl, h1, h2, Nat.le_of_lt (small1000 (Nat.le_of_lt hz)), q⟩
theorem st_app {v : V} {xs : List V} (hx : σ[i]? = some (some (.ref a))) (hy : σ[j]? = some (some v)) (h1 : H a = some (.lst xs)) (hz : xs.length < 1000) (q : En.nx σ (upd H a (.lst (xs ++ [v])))) : tDrop (tBM K "list" rAppend (tVar i) (tCons (tVar j) tNil)) En σ H :=
  ⟨.ref a, hx, .inl ⟨rfl, xs, .inl (.inl h1)⟩, v, hy, a, xs, v, rfl, rfl, h1, small1000 (Nat.le_of_lt hz), q⟩
end
theorem env_nones : ∀ {σ : St} {H : Hp}, Env σ H (List.replicate σ.length none)
  | [], H => env_nil
  | _ :: σ, H => env_skip env_nones
section
variable {F : Fix} {m : Nat} {rows : List Row} {hs olds : List House} {ls ls' : List Letter} {time : Int} {hd : House} {stamp : Option Int} {acks : List (Int × Int × Int)} {gz : Grp} {p : Pl} {me : Nat} {g : Grp} {vg : V} {H : Hp}
theorem envW {n : Int} {σr : St} {δr : DE} {lease : Int} (W : Wd p me g rows hs ls vg H) (E : Env σr H δr) :
    Env (some (.ref p.t) :: some (.ref p.s) :: some (.ref p.l) :: some (.int time) :: some (.int lease) :: some (.ref p.h) :: some (.int (me : Int)) :: some vg :: some (.ref p.r) :: some (.int n) :: σr) H
      (some (.ptr p.t) :: some (.ptr p.s) :: some (.lst (ls.map Letter.d)) :: some (.int time) :: some (.int lease) :: some (housesD hs) :: some (.int (me : Int)) :: some (grpD g) :: some (.lst (rowsD rows)) :: some (.int n) :: δr) := by
  obtain ⟨hv, h1, h2⟩ := W.h
  obtain ⟨rv, h3, h4⟩ := W.r
  obtain ⟨lv, h5, h6⟩ := W.l
  exact env_cons rp_ptr (env_cons rp_ptr (env_cons (rp_lst h5 h6) (env_cons rp_int (env_cons rp_int (env_cons (rp_lst h1 h2) (env_cons rp_int (env_cons W.g (env_cons (rp_lst h3 h4) (env_cons rp_int E)))))))))
theorem Wd.hlen (W : Wd p me g rows hs ls vg H) {xs : List V} (h : H p.h = some (.lst xs)) : xs.length = hs.length := by
  obtain ⟨hv, h1, h2⟩ := W.h
  rw [h] at h1
  cases h1
  rw [h2.length, List.length_map]
theorem Wd.rlen (W : Wd p me g rows hs ls vg H) {xs : List V} (h : H p.r = some (.lst xs)) : xs.length = rows.length := by
  obtain ⟨hv, h1, h2⟩ := W.r
  rw [h] at h1
  cases h1
  rw [h2.length]
  exact List.length_map ..
theorem Wd.llen (W : Wd p me g rows hs ls vg H) {xs : List V} (h : H p.l = some (.lst xs)) : xs.length = ls.length := by
  obtain ⟨hv, h1, h2⟩ := W.l
  rw [h] at h1
  cases h1
  rw [h2.length, List.length_map]
theorem Inv.imm (I : Inv F m rows hs ls time hd stamp acks gz) {i : Nat} {h : House} (hi : hs[i]? = some h) : imm h.d = true := by
  obtain ⟨cut, long, e, _⟩ := (I.hk i h hi).log
  refine imm_house ?_
  rw [e]
  exact imm_ss _
theorem Inv.imml (I : Inv F m rows hs ls time hd stamp acks gz) {l : Letter} (hl : l ∈ ls) : Oa.imm l.d = true := by
  have := I.lk l hl
  cases l with
  | rows w log k t =>
    obtain ⟨_, _, _, cut, long, e, _⟩ := this
    refine imm_letter ?_
    show Oa.imm log.store = true
    rw [e]
    exact imm_ss _
  | got => rfl
end
def spMoved : Sp := fun vs H Q _ => ∃ (F : Fix) (m : Nat) (rows : List Row) (hs : List House) (ls : List Letter) (time : Int) (hd : House) (stamp : Option Int) (acks : List (Int × Int × Int)) (gz : Grp) (p : Pl) (vg : V),
  vs = [.ref p.t, .ref p.s, .ref p.l, .int time, .int F.lease] ∧ FixOk F ∧ Inv F m rows hs ls time hd stamp acks gz ∧ m < 400 ∧ PlOk p ∧ Wd p F.me F.g rows hs ls vg H ∧
  ∀ H' rows' hs' ls' hd' stamp' acks' gz', Inv F (m + 1) rows' hs' ls' time hd' stamp' acks' gz' → RightOk F.g rows' hs' hs F.me time F.lease → Wd p F.me F.g rows' hs' ls' vg H' → MEx [p.t, p.h, p.r, p.l] H H' → Q .non H'
section
variable {P : Program} {w : World} {K : PySem.W.Frag} {mg : Str → Option Value} {base : Heap} (T : Defs K mg)
theorem ok__law_moved : FnOk P w K mg base CX0 6 T._law_moved.f T._law_moved.fd ["_law_turn", "_law_state", "_law_letters", "_law_time", "_law_lease"] spMoved := by
  refine T._law_moved.F.ok sc__law_moved (fun vs H Q E h => by obtain ⟨_, _, _, _, _, _, _, _, _, _, _, _, rfl, _⟩ := h; rfl) (fun cdv A outer s H vs Q E hr h => ?_)
  refine ⟨_,
    (pss_cons (ps_asg (pv 1) (k_pgL (K := K) (n := 4) rfl (by rfl) (pgs_cons (pg_name (i := 5) sc__law_moved.nd rfl (.inl rfl)) (pgs_cons (pg_name (i := 6) sc__law_moved.nd rfl (.inl rfl)) (pgs_cons (pg_name (i := 7) sc__law_moved.nd rfl (.inl rfl)) (pgs_cons (pg_name (i := 8) sc__law_moved.nd rfl (.inl rfl)) pgs_nil))))))
    (pss_cons (ps_set (i := 9) sc__law_moved.nd rfl (.inl rfl) (pe_callB (k_len (K := K) rfl) (by rfl) T.n_len bb_len (pa_cons (pv 5) pa_nil)))
    (pss_cons (ps_set (i := 10) sc__law_moved.nd rfl (.inl rfl) (pe_call (ok__law_take T) (hr.mono (by decide)) (by rfl) T._law_take.g T._law_take.F.kp T._law_take.b .nil pass0 (pa_cons (pv 0) (pa_cons pe_int pa_nil))))
    (pss_one (ps_if (pt_cmpR op_eq (pv 10) pe_int (nomark _))
      (pss_cons (ps_set (i := 11) sc__law_moved.nd rfl (.inl rfl) (pe_call (ok__law_row T) (hr.mono (by decide)) (by rfl) T._law_row.g T._law_row.F.kp T._law_row.b .nil pass0 (pa_cons (pv 0) (pa_cons (pv 9) (pa_cons (pe_call (ok__law_behind T) (hr.mono (by decide)) (by rfl) T._law_behind.g T._law_behind.F.kp T._law_behind.b .nil pass0 (pa_cons (pv 7) (pa_cons (pv 8) pa_nil))) pa_nil)))))
      (pss_one (ps_if (pt_val (pe_call (ok_may_put T) (hr.mono (by decide)) (by rfl) T.may_put.g T.may_put.F.kp T.may_put.b .nil pass0 (pa_cons (pe_ix (k_ixL (K := K) rfl) (pv 5) (pv 6) (fun _ _ => rfl)) (pa_cons (pv 11) pa_nil))))
        (pss_cons (ps_asg (pe_ix (k_ixT (K := K) rfl) (pe_call (ok_written T) (hr.mono (by decide)) (by rfl) T.written.g T.written.F.kp T.written.b .nil pass0 (pa_cons (pe_ix (k_ixL (K := K) rfl) (pv 5) (pv 6) (fun _ _ => rfl)) (pa_cons (pv 6) (pa_cons (pv 11) pa_nil)))) pe_int (fun _ _ => rfl)) (pg_sub (pv 5) (pv 6) set_list))
        (pss_one (ps_expr (pe_bm PySem.F.plainAttrs_list PySem.F.slot_list_append PySem.F.type_list_append mt_append (pv 8) (pa_cons (pv 11) pa_nil))))) pss_nil)))
      (pss_one (ps_if (PW.pt (pw_or (pt_cmpR op_eq (pv 10) pe_int (nomark _)) (pw_or1 (pt_cmpR (op_eq0 hr.units) (pv 2) (pe_lst pa_nil) (nomark _)))))
        (pss_cons (ps_asg (pe_call (ok_sent T) (hr.mono (by decide)) (by rfl) T.sent.g T.sent.F.kp T.sent.b .nil pass0 (pa_cons (pe_ix (k_ixL (K := K) rfl) (pv 5) (pv 6) (fun _ _ => rfl)) (pa_cons (pv 3) (pa_cons (pv 4) pa_nil)))) (k_pgT (K := K) (n := 2) rfl (by rfl) (pgs_cons (pg_sub (pv 5) (pv 6) set_list) (pgs_cons (pg_name (i := 12) sc__law_moved.nd rfl (.inl rfl)) pgs_nil))))
        (pss_one (ps_expr (pe_bm PySem.F.plainAttrs_list PySem.F.slot_list_extend PySem.F.type_list_extend mt_extend (pv 2) (pa_cons (pv 12) pa_nil)))))
        (pss_cons (ps_set (i := 13) sc__law_moved.nd rfl (.inl rfl) (pe_ix (k_ixL (K := K) rfl) (pv 2) (pe_op op_sub (pe_op op_sub (pe_callB (k_len (K := K) rfl) (by rfl) T.n_len bb_len (pa_cons (pv 2) pa_nil)) pe_int) (pe_call (ok__law_take T) (hr.mono (by decide)) (by rfl) T._law_take.g T._law_take.F.kp T._law_take.b .nil pass0 (pa_cons (pv 0) (pa_cons (pe_callB (call_min2 rfl) (by rfl) T.n_min bb_min (pa_cons (pe_callB (k_len (K := K) rfl) (by rfl) T.n_len bb_len (pa_cons (pv 2) pa_nil)) (pa_cons (pe_ix (k_ixL (K := K) rfl) (pe_lst (pa_cons pe_int (pa_cons pe_int (pa_cons pe_int pa_nil)))) (pe_call (ok__law_take T) (hr.mono (by decide)) (by rfl) T._law_take.g T._law_take.F.kp T._law_take.b .nil pass0 (pa_cons (pv 0) (pa_cons pe_int pa_nil))) (fun _ _ => rfl)) pa_nil))) pa_nil)))) (fun _ _ => rfl)))
        (pss_one (ps_if (pt_cmpR op_eq (pe_ix (k_ixT (K := K) rfl) (pv 13) pe_int (fun _ _ => rfl)) pe_str (nomark _))
          (pss_one (ps_asg (pe_ix (k_ixT (K := K) rfl) (pe_call (ok_counted T) (hr.mono (by decide)) (by rfl) T.counted.g T.counted.F.kp T.counted.b .nil pass0 (pa_cons (pe_ix (k_ixL (K := K) rfl) (pv 5) (pv 6) (fun _ _ => rfl)) (pa_cons (pv 6) (pa_cons (pv 13) pa_nil)))) pe_int (fun _ _ => rfl)) (pg_sub (pv 5) (pv 6) set_list)))
          (pss_cons (ps_set (i := 14) sc__law_moved.nd rfl (.inl rfl) (pe_call (ok__law_take T) (hr.mono (by decide)) (by rfl) T._law_take.g T._law_take.F.kp T._law_take.b .nil pass0 (pa_cons (pv 0) (pa_cons (pv 9) pa_nil))))
          (pss_cons (ps_asg (pe_call (ok_told T) (hr.mono (by decide)) (by rfl) T.told.g T.told.F.kp T.told.b .nil pass0 (pa_cons (pe_ix (k_ixL (K := K) rfl) (pv 5) (pv 14) (fun _ _ => rfl)) (pa_cons (pv 14) (pa_cons (pv 9) (pa_cons (pv 13) (pa_cons (pv 4) pa_nil)))))) (k_pgT (K := K) (n := 2) rfl (by rfl) (pgs_cons (pg_sub (pv 5) (pv 14) set_list) (pgs_cons (pg_name (i := 12) sc__law_moved.nd rfl (.inl rfl)) pgs_nil))))
          (pss_one (ps_expr (pe_bm PySem.F.plainAttrs_list PySem.F.slot_list_extend PySem.F.type_list_extend mt_extend (pv 2) (pa_cons (pv 12) pa_nil)))))))))))))))), ?_⟩
  obtain ⟨F, m, rows, hs, ls, time, hd, stamp, acks, gz, p, vg, rfl, f, I, hm, k, W, q⟩ := h
  have hn := I.hl
  have n1 := f.n1
  have n6 := f.n6
  have hme := f.hm
  refine st_unl4 rfl W.s ?_
  obtain ⟨hv, hH, _⟩ := W.h
  refine st_val ⟨.ref p.h, rfl, p.h, hv, rfl, .inl (SqL.of hH), ?_⟩
  have hvl := W.hlen hH
  rw [hvl, hn]
  clear hvl
  refine st_oneP (P := IntP fun a => 0 ≤ a ∧ a < 6) (δ := some (.ptr p.t) :: List.replicate 14 none) (ep_takeC rfl rfl (by decide) (by decide)) (env_cons rp_ptr env_nones) W.t fun v d H1 pd _ e1 hp1 r1 => ?_
  obtain ⟨way, rfl, _⟩ := pd
  rw [of_int r1]
  clear r1
  have W1 := W.lex k e1 hp1
  have x1 : MEx [p.t, p.h, p.r, p.l] H H1 := mex_lex (by simp) e1
  clear e1 hp1
  have E1 := envW (n := (F.n : Int)) (time := time) (lease := F.lease) (σr := [some (.int way), none, none, none, none]) (δr := [some (.int way), none, none, none, none]) W1 (env_cons rp_int (env_skip (env_skip (env_skip (env_skip env_nil)))))
  refine st_if (b := decide (way = 0)) (et_test (ed_op (ed_var rfl) ed_int rd_eqI)) E1 (fun _ H2 e2 => ?_) (fun _ H2 e2 => ?_)
  · -- a row put
    refine st_val ?_
    have W2 := W1.ex e2
    have x2 : MEx [p.t, p.h, p.r, p.l] H H2 := x1.trans (mex_ex e2)
    refine te_call (ea_cons (ed_var (i := 0) (d := .ptr p.t) rfl) (ea_cons (ed_var (i := 9) (d := .int (F.n : Int)) rfl) (ea_cons (ed_call (ea_cons (ed_var (i := 7) (d := grpD F.g) rfl) (ea_cons (ed_var (i := 8) (d := .lst (rowsD rows)) rfl) ea_nil)) (pr_behind I.gb)) ea_nil))) (E1.mono e2) fun us H3 e3 r3 => ?_
    have W3 := W2.ex e3
    have gzs := I.gzs f
    refine ⟨p.t, _, r3, ⟨F.n, gz, rfl, n1, n6, gzs.1⟩, W3.t, fun v d H4 hR hi4 e4 hp4 r4 => ?_⟩
    obtain ⟨n', x, g1, r, g2, eq, rfl, hrow, hga⟩ := hR
    injection eq with _ eq
    injection eq with e5 eq
    injection eq with e6 _
    injection e5 with e5
    have hg1 : g1 = gz := (grpD_inj e6).symm
    have hn' : n' = F.n := by omega
    subst hn' hg1
    have W4 := W3.lex k e4 hp4
    have x4 : MEx [p.t, p.h, p.r, p.l] H H4 := (x2.trans (mex_ex e3)).trans (mex_lex (by simp) e4)
    have E4 := fun (H' : Hp) (W' : Wd p F.me F.g rows hs ls vg H') (hr : Rp H' r.d v) => envW (n := (F.n : Int)) (time := time) (lease := F.lease) (σr := [some (.int way), some v, none, none, none]) (δr := [some (.int way), some r.d, none, none, none]) W' (env_cons rp_int (env_cons hr (env_skip (env_skip (env_skip env_nil)))))
    refine st_if (b := mayPut hd.log hd.settled g1 r) (et_B (ed_call (ea_cons (ed_op (ed_var (i := 5) (d := housesD hs) rfl) (ed_var (i := 6) (d := .int (F.me : Int)) rfl) (rd_ixL rfl (hs_get I.at_))) (ea_cons (ed_var (i := 11) (d := r.d) rfl) ea_nil)) (pr_may_put I.grp))) (E4 H4 W4 r4) (fun hb H5 e5 => ?_) (fun _ H5 e5 => ?_)
    · have hlt : rows.length < 60 := by
        unfold mayPut at hb
        split at hb
        · cases hb
        · rename_i h
          rw [Bool.or_eq_true] at h
          have : ¬ (60 : Int) ≤ hd.log.len := fun z => h (.inl (decide_eq_true z))
          rw [I.len] at this
          omega
      have I' := I.written f hrow hga hlt
      have R' := I.written_right f (by omega) hrow hga hlt
      have W5 := W4.ex e5
      have r5 := r4.mono e5
      obtain ⟨hv, hH, _⟩ := W5.h
      refine st_setI (n := F.me) (d := (hd.written g2 (F.me : Int) acks r).d) rfl rfl (ed_op (ed_call (ea_cons (ed_op (ed_var (i := 5) (d := housesD hs) rfl) (ed_var (i := 6) (d := .int (F.me : Int)) rfl) (rd_ixL rfl (hs_get I.at_))) (ea_cons (ed_var (i := 6) (d := .int (F.me : Int)) rfl) (ea_cons (ed_var (i := 11) (d := r.d) rfl) ea_nil))) (pr_written (h := hd) (start := F.st) (stamp := stamp) (g := g2) ?_ ⟨I.ro, I'.grp, gs_ok n6 (I'.gzs f), by have := I.al; omega⟩)) ed_int (rd_ixT' rfl (by decide))) (E4 H5 W5 r5) hH (by rw [W5.hlen hH, hn]; exact hme) fun v6 H6 e6 r6 hH6 => ?_
      · obtain ⟨cut, he, _⟩ := I.headlog
        rw [he]
        show ((rows.take rows.length).drop cut).length < 1000
        rw [List.length_drop, List.length_take]
        omega
      have W6 := (W5.ex e6).seth k hH6 F.me r6 (I'.imm I'.at_)
      obtain ⟨rv, hR6, _⟩ := W6.r
      refine st_app rfl rfl hR6 (by rw [W6.rlen hR6]; omega) ?_
      have r7 : Rp (upd H6 p.h (.lst (hv.set F.me v6))) r.d v := (r5.mono e6).keep (tex_lst hH6) (imm_row r)
      exact q _ _ _ _ _ _ _ _ (I'.more (Nat.le_succ m)) R' (W6.addr k hR6 r7) (mex_upd (by simp) (mex_upd (by simp) ((x4.trans (mex_ex e5)).trans (mex_ex e6))))
    · exact q _ _ _ _ _ _ _ _ (I.more (Nat.le_succ m)) (I.right0 f (by omega)) (W4.ex e5) (x4.trans (mex_ex e5))
  · refine st_if (b := decide (way = 1) || (ls.map Letter.d).isEmpty) (et_or (et_test (ed_op (ed_var rfl) ed_int rd_eqI)) (fun _ => et_test (ed_op (ed_var (d := .lst (ls.map Letter.d)) rfl) (ed_lst ea_nil (by decide)) rd_eq0))) (E1.mono e2) (fun _ H3 e3 => ?_) (fun hb H3 e3 => ?_)
    · -- the head tells
      have W3 := (W1.ex e2).ex e3
      have x3 : MEx [p.t, p.h, p.r, p.l] H H3 := (x1.trans (mex_ex e2)).trans (mex_ex e3)
      have E3 := (E1.mono e2).mono e3
      obtain ⟨hv, hH, _⟩ := W3.h
      refine st_pair (n := F.me) (ea_cons (ed_op (ed_var (i := 5) (d := housesD hs) rfl) (ed_var (i := 6) (d := .int (F.me : Int)) rfl) (rd_ixL rfl (hs_get I.at_))) (ea_cons (ed_var (i := 3) (d := .int time) rfl) (ea_cons (ed_var (i := 4) (d := .int F.lease) rfl) ea_nil))) E3 ⟨hd, time, F.lease, F.st, stamp, acks, rfl, I.ro, rfl, rfl⟩ rfl rfl hH (by rw [W3.hlen hH, hn]; exact hme) fun v l ws H4 e4 hl4 hl rv rs hH4 => ?_
      have I' := I.sent
      have W4 := (W3.ex e4).seth k hH4 F.me rv (I'.imm I'.at_)
      obtain ⟨lv, hL, _⟩ := W4.l
      have hne : l ≠ p.h := fun z => by
        rw [z, hH] at hl4
        cases hl4
      have hl' : upd H4 p.h (.lst (hv.set F.me v)) l = some (.lst ws) := by rw [upd_ne hne]; exact hl
      have hwl : ws.length = 1 := rs.length
      refine st_ext rfl rfl hL hl' (by rw [W4.llen hL, hwl]; have := I.ll; omega) ?_
      have him : imm (Letter.rows hd.which hd.log hd.settled time).d = true := I'.imml (List.mem_append_right _ List.mem_cons_self)
      have W5 := W4.addl k hL (l2 := [Letter.rows hd.which hd.log hd.settled time]) (rs.keep (tex_lst hH4) (by show (imm _ && true) = true; rw [him]; rfl)) (by show (imm _ && true) = true; rw [him]; rfl)
      exact q _ _ _ _ _ _ _ _ I' (I.sent_right f (by omega)) W5 (mex_upd (by simp) (mex_upd (by simp) (x3.trans (mex_ex e4))))
    · -- a letter comes
      have W3 := (W1.ex e2).ex e3
      have x3 : MEx [p.t, p.h, p.r, p.l] H H3 := (x1.trans (mex_ex e2)).trans (mex_ex e3)
      have E3 := (E1.mono e2).mono e3
      have hne : ls ≠ [] := fun z => by
        rw [z] at hb
        simp at hb
      have hlp : 0 < ls.length := List.length_pos_iff.mpr hne
      have hlm := I.ll
      have EP := fun (H' : Hp) => (env_cons (H := H') (d := .ptr p.t) (v := .ref p.t) (δ := List.replicate 14 none) (σ := [some (.ref p.s), some (.ref p.l), some (.int time), some (.int F.lease), some (.ref p.h), some (.int (F.me : Int)), some vg, some (.ref p.r), some (.int (F.n : Int)), some (.int way), none, none, none, none]) rp_ptr env_nones)
      have hlen : ∀ (δ : DE), δ[2]? = some (some (.lst (ls.map Letter.d))) → EvD (tCB (fun xs H Q => ∃ p ys, xs = [.ref p] ∧ (SqL K H p ys ∨ SqT K H p ys) ∧ Q (.int ys.length) H) (tCons (tVar 2) tNil)) δ (.int (ls.length : Int)) := fun δ h => by
        have := ed_cb (ea_cons (ed_var h) ea_nil) (rc_lenL (K := K))
        rw [List.length_map] at this
        exact this
      refine st_val ⟨.ref p.l, rfl, ?_⟩
      refine (ed_op (hlen _ rfl) ed_int rd_ii) _ H3 E3 _ fun v1 H4 e4 r4 => ?_
      rw [of_int r4]
      clear r4
      have W4 := W3.ex e4
      refine ⟨.ref p.t, rfl, ta_one (te_cb (ta_next ((hlen _ rfl) _ H4 (E3.mono e4) _ fun v2 H5 e5 r5 => ta_one ?_)))⟩
      rw [of_int r5]
      clear r5
      have W5 := W4.ex e5
      refine (ep_pickC (ds := [(2 : Int), 5, 61].map D.int) (δ := some (.ptr p.t) :: List.replicate 14 none) rfl (ea_cons ed_int (ea_cons ed_int (ea_cons ed_int ea_nil))) rfl (by decide) (ep_takeC rfl rfl (by decide) (by decide))) _ H5 (EP H5) W5.t _ fun v3 d3 H6 pd3 _ e6 hp6 r6 => ?_
      obtain ⟨t3, ht3, rfl⟩ := List.mem_map.mp pd3
      rw [of_int r6]
      clear r6 pd3
      have ht0 : 0 < t3 := by
        simp at ht3
        omega
      have W6 := W5.lex k e6 hp6
      have x6 : MEx [p.t, p.h, p.r, p.l] H H6 := ((x3.trans (mex_ex e4)).trans (mex_ex e5)).trans (mex_lex (by simp) e6)
      refine ⟨(ls.length : Int), t3, rfl, ?_⟩
      generalize hcm : (if t3 < (ls.length : Int) then t3 else (ls.length : Int)) = cm
      have hcm0 : 0 < cm ∧ cm ≤ (ls.length : Int) := by
        rw [← hcm]
        split <;> omega
      refine ⟨p.t, [.ptr p.t, .int cm], rs_cons rp_ptr (rs_cons rp_int rs_nil), ⟨cm, rfl, hcm0.1, PySem.Flt.log2_lt_of (by decide) (show cm.natAbs < 2 ^ 9000 by
        have : (400 : Nat) < 2 ^ 9000 := by decide +kernel
        omega)⟩, hp6, fun v7 d7 H7 hR7 _ e7 hp7 r7 => ?_⟩
      obtain ⟨a7, m7, x7, eq7, rfl, h70, h71⟩ := hR7
      injection eq7 with _ eq7
      injection eq7 with eq7 _
      injection eq7 with eq7
      subst eq7
      rw [of_int r7]
      clear r7
      have W7 := W6.lex k e7 hp7
      have x7' : MEx [p.t, p.h, p.r, p.l] H H7 := x6.trans (mex_lex (by simp) e7)
      refine ⟨(ls.length : Int) - 1, a7, rfl, rfl, ?_⟩
      obtain ⟨j, hj⟩ := Int.eq_ofNat_of_zero_le (show 0 ≤ (ls.length : Int) - 1 - a7 by omega)
      have hjl : j < ls.length := by omega
      obtain ⟨lv, hL, rL⟩ := W7.l
      obtain ⟨v8, h8, r8⟩ := rL.get (i := j) (d := ls[j].d) (by rw [List.getElem?_map, List.getElem?_eq_getElem hjl]; rfl)
      refine ⟨p.l, lv, _, v8, rfl, rfl, SqL.of hL, by rw [hj]; exact atI_nat h8, ?_⟩
      have hmem : ls[j] ∈ ls := List.getElem_mem hjl
      have lok := I.lk _ hmem
      have iml := I.imml hmem
      generalize ls[j] = lt at hmem lok iml r8
      have E7 := fun (H' : Hp) (W' : Wd p F.me F.g rows hs ls vg H') (hr : Rp H' lt.d v8) => envW (n := (F.n : Int)) (time := time) (lease := F.lease) (σr := [some (.int way), none, none, some v8, none]) (δr := [some (.int way), none, none, some lt.d, none]) W' (env_cons rp_int (env_skip (env_skip (env_cons hr (env_skip env_nil)))))
      cases lt with
      | got w' o c t =>
        obtain ⟨rfl, ak⟩ := lok
        refine st_if (b := decide (("got" : Str) = "got")) (et_test (ed_op (ed_op (ed_var (i := 13) (d := (Letter.got F.own o c t).d) rfl) ed_int (rd_ixT' rfl (by decide))) ed_str rd_eqS)) (E7 H7 W7 r8) (fun _ H8 e8 => ?_) (fun hb => absurd rfl (of_decide_eq_false hb))
        have W8 := W7.ex e8
        obtain ⟨hv, hH, _⟩ := W8.h
        have I' := I.counted ak
        refine st_setI (n := F.me) (d := (hd.counted gz (F.me : Int) F.st stamp acks o c t).d) rfl rfl (ed_op (ed_call (ea_cons (ed_op (ed_var (i := 5) (d := housesD hs) rfl) (ed_var (i := 6) (d := .int (F.me : Int)) rfl) (rd_ixL rfl (hs_get I.at_))) (ea_cons (ed_var (i := 6) (d := .int (F.me : Int)) rfl) (ea_cons (ed_var (i := 13) (d := (Letter.got hd.which o c t).d) (by rw [I.wh]; rfl)) ea_nil))) (pr_counted (I.head f (by omega)) (by have := I.al; omega))) ed_int (rd_ixT' rfl (by decide))) (E7 H8 W8 (r8.mono e8)) hH (by rw [W8.hlen hH, hn]; exact hme) fun v9 H9 e9 r9 hH9 => ?_
        exact q _ _ _ _ _ _ _ _ I' (I.counted_right f (by omega) ak) ((W8.ex e9).seth k hH9 F.me r9 (I'.imm I'.at_)) (mex_upd (by simp) ((x7'.trans (mex_ex e8)).trans (mex_ex e9)))
      | rows w' other kn t =>
        obtain ⟨rfl, lok⟩ := lok
        have lok : LOk F.g rows hs F.me F.own F.st F.lease time hd.settled (.rows F.own other kn t) := ⟨rfl, lok⟩
        refine st_if (b := decide (("rows" : Str) = "got")) (et_test (ed_op (ed_op (ed_var (i := 13) (d := (Letter.rows F.own other kn t).d) rfl) ed_int (rd_ixT' rfl (by decide))) ed_str rd_eqS)) (E7 H7 W7 r8) (fun hb => absurd (of_decide_eq_true hb) (by decide +kernel)) (fun _ H8 e8 => ?_)
        have W8 := W7.ex e8
        have r9 := r8.mono e8
        refine st_oneP (P := IntP fun a => 0 ≤ a ∧ a < (F.n : Int)) (δ := [some (.ptr p.t), none, none, none, none, none, none, none, none, some (.int (F.n : Int)), none, none, none, none, none]) (EvP.imp (ep_take (Pm := (· = (F.n : Int))) rfl rfl ((ep_of (ed_var (i := 9) (d := .int (F.n : Int)) rfl) rfl).imp fun d e => ⟨_, e, rfl⟩) (by
          rintro m rfl
          refine ⟨by omega, PySem.Flt.log2_lt_of (by decide) ?_⟩
          have : (400 : Nat) < 2 ^ 9000 := by decide +kernel
          omega)) (by
          rintro d ⟨a, rfl, m, rfl, h⟩
          exact ⟨a, rfl, h⟩)) (env_cons rp_ptr (env_skip (env_skip (env_skip (env_skip (env_skip (env_skip (env_skip (env_skip (env_cons rp_int (env_skip (env_skip (env_skip (env_skip (env_skip env_nil))))))))))))))) W8.t fun v10 d10 H10 pd10 _ e10 hp10 r10 => ?_
        obtain ⟨one, rfl, ho0, ho1⟩ := pd10
        obtain ⟨i, rfl⟩ := Int.eq_ofNat_of_zero_le ho0
        rw [of_int r10]
        clear r10
        have hi : i < hs.length := by omega
        obtain ⟨h, hih⟩ : ∃ h, hs[i]? = some h := ⟨_, List.getElem?_eq_getElem hi⟩
        have W10 := W8.lex k e10 hp10
        have x10 : MEx [p.t, p.h, p.r, p.l] H H10 := (x7'.trans (mex_ex e8)).trans (mex_lex (by simp) e10)
        have r11 : Rp H10 (Letter.rows F.own other kn t).d v8 := r9.keep (pot_tex W8.t e10) iml
        have E10 := envW (n := (F.n : Int)) (time := time) (lease := F.lease) (σr := [some (.int way), none, none, some v8, some (.int (i : Int))]) (δr := [some (.int way), none, none, some (Letter.rows F.own other kn t).d, some (.int (i : Int))]) W10 (env_cons rp_int (env_skip (env_skip (env_cons r11 (env_cons rp_int env_nil)))))
        have hE : ∀ δ : DE, δ[5]? = some (some (housesD hs)) → δ[14]? = some (some (.int (i : Int))) → δ[9]? = some (some (.int (F.n : Int))) → δ[13]? = some (some (Letter.rows F.own other kn t).d) → δ[4]? = some (some (.int F.lease)) → EaD (tCons (tOp (rIxL K) (tVar 5) (tVar 14)) (tCons (tVar 14) (tCons (tVar 9) (tCons (tVar 13) (tCons (tVar 4) tNil))))) δ [h.d, .int (i : Int), .int (F.n : Int), (Letter.rows F.own other kn t).d, .int F.lease] := fun δ h5 h14 h9 h13 h4 =>
          ea_cons (ed_op (ed_var h5) (ed_var h14) (rd_ixL rfl (hs_get hih))) (ea_cons (ed_var h14) (ea_cons (ed_var h9) (ea_cons (ed_var h13) (ea_cons (ed_var h4) ea_nil))))
        obtain ⟨hv, hH, _⟩ := W10.h
        have hwle := (I.hk i h hih).w
        by_cases hie : i = F.me
        · -- the head itself
          have hset : hs.set i h = hs := by
            have := List.getElem?_eq_some_iff.mp hih
            obtain ⟨hlt, he⟩ := this
            rw [← he]
            exact List.set_getElem_self hlt
          refine st_pair (n := i) (hE _ rfl rfl rfl rfl rfl) E10 (R := Rp_told) (d := h.d) (es := []) ⟨h, (i : Int), (F.n : Int), F.own, other, kn, t, F.lease, rfl, by omega, .inl ⟨.inr (by rw [f.ow, hie]), rfl, rfl⟩⟩ rfl rfl hH (by rw [W10.hlen hH]; exact hi) fun v l ws H11 e11 hl11 hl rv rs hH11 => ?_
          have W11 := (W10.ex e11).seth k hH11 i rv (I.imm hih)
          rw [hset] at W11
          obtain ⟨lv2, hL2, _⟩ := W11.l
          have hne2 : l ≠ p.h := fun z => by
            rw [z, hH] at hl11
            cases hl11
          have hl' : upd H11 p.h (.lst (hv.set i v)) l = some (.lst ws) := by rw [upd_ne hne2]; exact hl
          have hwl : ws.length = 0 := rs.length
          refine st_ext rfl rfl hL2 hl' (by rw [W11.llen hL2, hwl]; omega) ?_
          have W12 := W11.addl k hL2 (l2 := []) (rs.keep (tex_lst hH11) rfl) rfl
          rw [List.append_nil] at W12
          exact q _ _ _ _ _ _ _ _ (I.more (Nat.le_succ m)) (I.right0 f (by omega)) W12 (mex_upd (by simp) (mex_upd (by simp) (x10.trans (mex_ex e11))))
        · -- a follower
          have I' := I.told hih hie lok
          have hno : ¬ (F.own < h.which ∨ (F.own - 1) % (F.n : Int) = (i : Int)) := by
            rw [f.ow]
            omega
          refine st_pair (n := i) (hE _ rfl rfl rfl rfl rfl) E10 (R := Rp_told) ⟨h, (i : Int), (F.n : Int), F.own, other, kn, t, F.lease, rfl, by omega, .inr ⟨hno, rfl, rfl⟩⟩ rfl rfl hH (by rw [W10.hlen hH]; exact hi) fun v l ws H11 e11 hl11 hl rv rs hH11 => ?_
          have W11 := (W10.ex e11).seth k hH11 i rv (I'.imm (set_get hih))
          obtain ⟨lv2, hL2, _⟩ := W11.l
          have hne2 : l ≠ p.h := fun z => by
            rw [z, hH] at hl11
            cases hl11
          have hl' : upd H11 p.h (.lst (hv.set i v)) l = some (.lst ws) := by rw [upd_ne hne2]; exact hl
          have hwl : ws.length = 1 := rs.length
          refine st_ext rfl rfl hL2 hl' (by rw [W11.llen hL2, hwl]; omega) ?_
          have W12 := W11.addl k hL2 (l2 := [Letter.got F.own (i : Int) (h.told F.own other kn t F.lease).log.len t]) (rs.keep (tex_lst hH11) rfl) rfl
          exact q _ _ _ _ _ _ _ _ I' (I.told_right f (by omega) hih hie lok) W12 (mex_upd (by simp) (mex_upd (by simp) (x10.trans (mex_ex e11))))
end
end Oa
/-! The law's end. -/
namespace Oa
open PySem L2
section
variable {p : Pl} {me : Nat} {g : Grp} {rows : List Row} {hs : List House} {ls : List Letter} {vg : V} {H H' : Hp}
theorem envE {time lease : Int} {σr : St} {δr : DE} (W : Wd p me g rows hs ls vg H) (E : Env σr H δr) :
    Env (some (.ref p.s) :: some (.int time) :: some (.int lease) :: some (.ref p.h) :: some (.int (me : Int)) :: some vg :: some (.ref p.r) :: σr) H
      (some (.ptr p.s) :: some (.int time) :: some (.int lease) :: some (housesD hs) :: some (.int (me : Int)) :: some (grpD g) :: some (.lst (rowsD rows)) :: δr) := by
  obtain ⟨hv, h1, h2⟩ := W.h
  obtain ⟨rv, h3, h4⟩ := W.r
  exact env_cons rp_ptr (env_cons rp_int (env_cons rp_int (env_cons (rp_lst h1 h2) (env_cons rp_int (env_cons W.g (env_cons (rp_lst h3 h4) E))))))
end
def spEnds : Sp := fun vs H Q _ => ∃ (F : Fix) (m : Nat) (rows : List Row) (hs : List House) (ls : List Letter) (time : Int) (hd : House) (stamp : Option Int) (acks : List (Int × Int × Int)) (gz : Grp) (p : Pl) (vg : V),
  vs = [.ref p.s, .int time, .int F.lease] ∧ FixOk F ∧ Inv F m rows hs ls time hd stamp acks gz ∧ m < 400 ∧ PlOk p ∧ Wd p F.me F.g rows hs ls vg H ∧ ∀ H', Q (.bl true) H'
theorem hlen_ed {K : PySem.W.Frag} {δ : DE} {i : Nat} {ds : List D} {n : Nat} (h : δ[i]? = some (some (.lst ds))) (hn : ds.length = n) : EvD (tCB (fun xs H Q => ∃ p ys, xs = [.ref p] ∧ (SqL K H p ys ∨ SqT K H p ys) ∧ Q (.int ys.length) H) (tCons (tVar i) tNil)) δ (.int (n : Int)) := by
  have := ed_cb (ea_cons (ed_var h) ea_nil) (rc_lenL (K := K))
  rw [hn] at this
  exact this
section
variable {P : Program} {w : World} {K : PySem.W.Frag} {mg : Str → Option Value} {base : Heap} (T : Defs K mg)
theorem ok__law_ends : FnOk P w K mg base CX0 6 T._law_ends.f T._law_ends.fd ["_law_state", "_law_time", "_law_lease"] spEnds := by
  refine T._law_ends.F.ok sc__law_ends (fun vs H Q E h => by obtain ⟨_, _, _, _, _, _, _, _, _, _, _, _, rfl, _⟩ := h; rfl) (fun cdv A outer s H vs Q E hr h => ?_)
  refine ⟨_,
    (pss_cons (ps_asg (pv 0) (k_pgL (K := K) (n := 4) rfl (by rfl) (pgs_cons (pg_name (i := 3) sc__law_ends.nd rfl (.inl rfl)) (pgs_cons (pg_name (i := 4) sc__law_ends.nd rfl (.inl rfl)) (pgs_cons (pg_name (i := 5) sc__law_ends.nd rfl (.inl rfl)) (pgs_cons (pg_name (i := 6) sc__law_ends.nd rfl (.inl rfl)) pgs_nil))))))
    (pss_cons (ps_asg (pe_call (ok_sent T) (hr.mono (by decide)) (by rfl) T.sent.g T.sent.F.kp T.sent.b .nil pass0 (pa_cons (pe_ix (k_ixL (K := K) rfl) (pv 3) (pv 4) (fun _ _ => rfl)) (pa_cons (pv 1) (pa_cons (pv 2) pa_nil)))) (k_pgT (K := K) (n := 2) rfl (by rfl) (pgs_cons (pg_sub (pv 3) (pv 4) set_list) (pgs_cons (pg_name (i := 7) sc__law_ends.nd rfl (.inl rfl)) pgs_nil))))
    (pss_cons (ps_for PassesOwn.never rfl (pi_range1 (by rfl) T.n_range (pa_cons (pe_callB (k_len (K := K) rfl) (by rfl) T.n_len bb_len (pa_cons (pv 3) pa_nil)) pa_nil)) (pg_name (i := 8) sc__law_ends.nd rfl (.inl rfl))
      (pss_cons (ps_asg (pe_call (ok_told T) (hr.mono (by decide)) (by rfl) T.told.g T.told.F.kp T.told.b .nil pass0 (pa_cons (pe_ix (k_ixL (K := K) rfl) (pv 3) (pv 8) (fun _ _ => rfl)) (pa_cons (pv 8) (pa_cons (pe_callB (k_len (K := K) rfl) (by rfl) T.n_len bb_len (pa_cons (pv 3) pa_nil)) (pa_cons (pe_ix (k_ixL (K := K) rfl) (pv 7) pe_int (fun _ _ => rfl)) (pa_cons (pv 2) pa_nil)))))) (k_pgT (K := K) (n := 2) rfl (by rfl) (pgs_cons (pg_sub (pv 3) (pv 8) set_list) (pgs_cons (pg_name (i := 9) sc__law_ends.nd rfl (.inl rfl)) pgs_nil))))
      (pss_one (ps_for PassesOwn.never rfl (k_piL (K := K) rfl (pv 9)) (pg_name (i := 10) sc__law_ends.nd rfl (.inl rfl))
        (pss_one (ps_asg (pe_ix (k_ixT (K := K) rfl) (pe_call (ok_counted T) (hr.mono (by decide)) (by rfl) T.counted.g T.counted.F.kp T.counted.b .nil pass0 (pa_cons (pe_ix (k_ixL (K := K) rfl) (pv 3) (pv 4) (fun _ _ => rfl)) (pa_cons (pv 4) (pa_cons (pv 10) pa_nil)))) pe_int (fun _ _ => rfl)) (pg_sub (pv 3) (pv 4) set_list)))))))
    (pss_cons (ps_if (pt_cmpR op_ne (pe_ix (k_ixT (K := K) rfl) (pe_ix (k_ixL (K := K) rfl) (pv 3) (pv 4) (fun _ _ => rfl)) pe_int (fun _ _ => rfl)) (pe_callB (k_len (K := K) rfl) (by rfl) T.n_len bb_len (pa_cons (pv 6) pa_nil)) (nomark _))
      (pss_one (ps_ret pe_bl)) pss_nil)
    (pss_one (ps_ret (pe_cmpR op_eq (pe_call (ok_may_read T) (hr.mono (by decide)) (by rfl) T.may_read.g T.may_read.F.kp T.may_read.b .nil pass0 (pa_cons (pe_ix (k_ixL (K := K) rfl) (pv 3) (pv 4) (fun _ _ => rfl)) (pa_cons (pv 4) (pa_cons (pv 1) (pa_cons (pv 2) pa_nil))))) (pe_cmpR op_gt (pv 2) pe_int (nomark _)) (nomark _)))))))), ?_⟩
  obtain ⟨F, m, rows, hs, ls, time, hd, stamp, acks, gz, p, vg, rfl, f, I, hm, k, W, q⟩ := h
  have hn := I.hl
  have n1 := f.n1
  have n6 := f.n6
  have hme := f.hm
  refine st_unl4 rfl W.s ?_
  have E0 := envE (time := time) (lease := F.lease) (σr := [none, none, none, none]) (δr := [none, none, none, none]) W (env_skip (env_skip (env_skip (env_skip env_nil))))
  obtain ⟨hv0, hH0, _⟩ := W.h
  refine st_pair (n := F.me) (ea_cons (ed_op (ed_var (i := 3) (d := housesD hs) rfl) (ed_var (i := 4) (d := .int (F.me : Int)) rfl) (rd_ixL rfl (hs_get I.at_))) (ea_cons (ed_var (i := 1) (d := .int time) rfl) (ea_cons (ed_var (i := 2) (d := .int F.lease) rfl) ea_nil))) E0 ⟨hd, time, F.lease, F.st, stamp, acks, rfl, I.ro, rfl, rfl⟩ rfl rfl hH0 (by rw [W.hlen hH0, hn]; exact hme) fun v l7 ws7 H4 e4 hl4 hl rv rs hH4 => ?_
  have I1 := I.sent
  have W4 := (W.ex e4).seth k hH4 F.me rv (I1.imm I1.at_)
  have hne7 : l7 ≠ p.h := fun z => by
    rw [z, hH0] at hl4
    cases hl4
  obtain ⟨v7, r0, rfl, r7, r0'⟩ := of_cons rs
  rw [of_nil r0'] at hl
  have him : imm (Letter.rows hd.which hd.log hd.settled time).d = true := I1.imml (List.mem_append_right _ List.mem_cons_self)
  have hl7 : upd H4 p.h (.lst (hv0.set F.me v)) l7 = some (.lst [v7]) := by rw [upd_ne hne7]; exact hl
  have rl7 := r7.keep (tex_lst (o := .lst (hv0.set F.me v)) hH4) him
  have hmem0 : Letter.rows F.own hd.log hd.settled time ∈ ls ++ [Letter.rows hd.which hd.log hd.settled time] := by
    rw [I.wh]
    exact List.mem_append_right _ List.mem_cons_self
  rw [I.wh] at rl7 him I1 hmem0
  have hdlen := I.len
  generalize hd.log = lg at rl7 him I1 hmem0 hdlen
  generalize hd.settled = st0 at rl7 him I1 hmem0
  generalize upd H4 p.h (.lst (hv0.set F.me v)) = H5 at W4 hl7 rl7
  have hdone : Done F rows (hd.sent F.st acks time F.lease) 0 := fun hall => by
    refine I.one ?_
    apply Classical.byContradiction
    intro hne
    by_cases h0 : F.me = 0
    · exact absurd (hall 1 (by omega) (by omega)) (Nat.not_lt_zero _)
    · exact absurd (hall 0 (by omega) (fun z => h0 z.symm)) (Nat.not_lt_zero _)
  generalize hd.sent F.st acks time F.lease = hd1 at W4 I1 hdone
  generalize hs.set F.me hd1 = hs1 at W4 I1
  generalize ls ++ [Letter.rows F.own lg st0 time] = ls1 at I1 hmem0
  obtain ⟨hv5, hH5, _⟩ := W4.h
  have hv5l := W4.hlen hH5
  rw [I1.hl] at hv5l
  refine ⟨.ref p.h, rfl, p.h, hv5, rfl, .inl (SqL.of hH5), (hv5.length : Int), rfl, by omega, by omega, ?_⟩
  refine for_it (walk_range (lo := 0) (n := (hv5.length : Int).toNat)) (fun i σ' H' => ∃ a8 a9 a10 hs' hd' acks', σ' = [some (.ref p.s), some (.int time), some (.int F.lease), some (.ref p.h), some (.int (F.me : Int)), some vg, some (.ref p.r), some (.ref l7), a8, a9, a10] ∧
      Wd p F.me F.g rows hs' ls vg H' ∧ H' l7 = some (.lst [v7]) ∧ Rp H' (Letter.rows F.own lg st0 time).d v7 ∧ l7 ≠ p.h ∧ Inv F (m + 1 + 2 * i) rows hs' ls1 time hd' (some time) acks' gz ∧ Full F rows time acks' i ∧ Done F rows hd' i)
    ⟨none, none, none, hs1, hd1, acks, rfl, W4, hl7, rl7, ?_, I1, fun j hj => absurd hj (Nat.not_lt_zero _), hdone⟩ (fun _ _ _ _ _ => trivial) ?_ ?_
  · intro z
    rw [z, hH5] at hl7
    injection hl7 with hl7
    injection hl7 with hl7
    obtain ⟨vs, h1, h2⟩ := W4.h
    rw [hH5] at h1
    cases h1
    rw [hl7] at h2
    obtain ⟨hx, hh⟩ : ∃ h, hs1[0]? = some h := ⟨_, List.getElem?_eq_getElem (by rw [I1.hl]; omega)⟩
    obtain ⟨w1, hw1, rw1⟩ := h2.get (hs_get hh)
    have hw1 : v7 = w1 := Option.some.inj hw1
    subst hw1
    obtain ⟨a1, xs1, e1, q1, s1⟩ := of_tup rl7
    obtain ⟨a2, xs2, e2, q2, s2⟩ := of_tup rw1
    rw [e1] at e2
    cases e2
    rw [q1] at q2
    cases q2
    have := s1.length
    rw [s2.length] at this
    have this : (7 : Nat) = 5 := this
    omega
  · rintro i x σ' H' H'' hi ⟨a8, a9, a10, hs', hd', acks', rfl, W', hl', rl', hne', I', hf, hdn⟩ ⟨rfl, rfl⟩
    have hi : i < F.n := by omega
    have hih : i < hs'.length := by rw [I'.hl]; exact hi
    obtain ⟨h, hget⟩ : ∃ h, hs'[i]? = some h := ⟨_, List.getElem?_eq_getElem hih⟩
    have e0 : (0 : Int) + (i : Int) = (i : Int) := Int.zero_add _
    show gName 8 (V.int ((0 : Int) + (i : Int))) _ _ _
    rw [e0]
    have tail : Env [a9, a10] H'' [none, none] := env_skip (env_skip env_nil)
    have E' := envE (time := time) (lease := F.lease) (σr := [some (.ref l7), some (.int (i : Int)), a9, a10]) (δr := [some (.lst [(Letter.rows F.own lg st0 time).d]), some (.int (i : Int)), none, none]) W' (env_cons (rp_lst hl' (rs_cons rl' rs_nil)) (env_cons rp_int tail))
    have hE : ∀ δ : DE, δ[3]? = some (some (housesD hs')) → δ[8]? = some (some (.int (i : Int))) → δ[7]? = some (some (.lst [(Letter.rows F.own lg st0 time).d])) → δ[2]? = some (some (.int F.lease)) → EaD (tCons (tOp (rIxL K) (tVar 3) (tVar 8)) (tCons (tVar 8) (tCons (tCB (fun xs H Q => ∃ p ys, xs = [.ref p] ∧ (SqL K H p ys ∨ SqT K H p ys) ∧ Q (.int ys.length) H) (tCons (tVar 3) tNil)) (tCons (tOp (rIxL K) (tVar 7) (tC (.int 0))) (tCons (tVar 2) tNil))))) δ [h.d, .int (i : Int), .int (F.n : Int), (Letter.rows F.own lg st0 time).d, .int F.lease] := fun δ h3 h8 h7 h2 =>
      ea_cons (ed_op (ed_var h3) (ed_var h8) (rd_ixL rfl (hs_get hget))) (ea_cons (ed_var h8) (ea_cons (hlen_ed h3 (by rw [List.length_map, I'.hl])) (ea_cons (ed_op (ed_var h7) ed_int (rd_ixL (j := 0) rfl rfl)) (ea_cons (ed_var h2) ea_nil))))
    obtain ⟨hv, hH, _⟩ := W'.h
    have hwle := (I'.hk i h hget).w
    have lok := I'.lk _ hmem0
    by_cases hie : i = F.me
    · -- the head itself
      have hset : hs'.set i h = hs' := by
        obtain ⟨hlt, he⟩ := List.getElem?_eq_some_iff.mp hget
        rw [← he]
        exact List.set_getElem_self hlt
      refine st_pair (n := i) (hE _ rfl rfl rfl rfl) E' (R := Rp_told) (d := h.d) (es := []) ⟨h, (i : Int), (F.n : Int), F.own, lg, st0, time, F.lease, rfl, by omega, .inl ⟨.inr (by rw [f.ow, hie]), rfl, rfl⟩⟩ rfl rfl hH (by rw [W'.hlen hH]; exact hih) fun v l9 ws H11 e11 hl11 hl9 rv rs hH11 => ?_
      have W11 := (W'.ex e11).seth k hH11 i rv (I'.imm hget)
      rw [hset] at W11
      have hne2 : l9 ≠ p.h := fun z => by
        rw [z, hH] at hl11
        cases hl11
      have hl9' : upd H11 p.h (.lst (hv.set i v)) l9 = some (.lst ws) := by rw [upd_ne hne2]; exact hl9
      have hwl : ws = [] := of_nil rs
      subst hwl
      have hl7' : upd H11 p.h (.lst (hv.set i v)) l7 = some (.lst [v7]) := by rw [upd_ne hne']; exact e11 _ _ hl'
      have rl7' := (rl'.mono e11).keep (tex_lst (o := .lst (hv.set i v)) hH11) him
      refine ⟨.ref l9, rfl, l9, rfl, ⟨[], SqL.of hl9'⟩, for_it (walk_list (K := K) (a := l9) (xs := [])) (fun _ σ2 H2 => σ2 = [some (.ref p.s), some (.int time), some (.int F.lease), some (.ref p.h), some (.int (F.me : Int)), some vg, some (.ref p.r), some (.ref l7), some (.int (i : Int)), some (.ref l9), a10] ∧ H2 = upd H11 p.h (.lst (hv.set i v))) ⟨rfl, rfl⟩ (fun _ _ H2 _ z => by rw [z.2]; exact SqL.of hl9') (fun j _ _ _ _ hj => absurd hj (Nat.not_lt_zero _)) ?_⟩
      rintro σ2 H2 ⟨rfl, rfl⟩
      refine ⟨_, _, _, hs', hd', acks', rfl, W11, hl7', rl7', hne', I'.more (by omega), fun j hj hjm => hf j (by omega) hjm, fun hall => hdn fun j hj hjm => ?_⟩
      have := hall j hj hjm
      omega
    · -- a follower
      have hno : ¬ (F.own < h.which ∨ (F.own - 1) % (F.n : Int) = (i : Int)) := by
        rw [f.ow]
        omega
      obtain ⟨I2, hf2, hd2⟩ := ends_step I' f hmem0 hdlen hget hie hf
      have It := I'.told hget hie lok
      refine st_pair (n := i) (hE _ rfl rfl rfl rfl) E' (R := Rp_told) ⟨h, (i : Int), (F.n : Int), F.own, lg, st0, time, F.lease, rfl, by omega, .inr ⟨hno, rfl, rfl⟩⟩ rfl rfl hH (by rw [W'.hlen hH]; exact hih) fun v l9 ws H11 e11 hl11 hl9 rv rs hH11 => ?_
      have W11 := (W'.ex e11).seth k hH11 i rv (It.imm (set_get hget))
      have hne2 : l9 ≠ p.h := fun z => by
        rw [z, hH] at hl11
        cases hl11
      have hl9' : upd H11 p.h (.lst (hv.set i v)) l9 = some (.lst ws) := by rw [upd_ne hne2]; exact hl9
      have hl7' : upd H11 p.h (.lst (hv.set i v)) l7 = some (.lst [v7]) := by rw [upd_ne hne']; exact e11 _ _ hl'
      have rl7' := (rl'.mono e11).keep (tex_lst (o := .lst (hv.set i v)) hH11) him
      have rs' := rs.keep (tex_lst (o := .lst (hv.set i v)) hH11) rfl
      obtain ⟨v9, r0, rfl, r9, r0'⟩ := of_cons rs'
      rw [of_nil r0'] at hl9'
      clear rs rs' r0'
      generalize upd H11 p.h (.lst (hv.set i v)) = H12 at W11 hl9' hl7' rl7' r9
      refine ⟨.ref l9, rfl, l9, rfl, ⟨[v9], SqL.of hl9'⟩, for_it (walk_list (K := K) (a := l9) (xs := [v9])) (fun j σ2 H2 => ∃ b10, σ2 = [some (.ref p.s), some (.int time), some (.int F.lease), some (.ref p.h), some (.int (F.me : Int)), some vg, some (.ref p.r), some (.ref l7), some (.int (i : Int)), some (.ref l9), b10] ∧ H2 l9 = some (.lst [v9]) ∧
        ((j = 0 ∧ H2 = H12) ∨ (j = 1 ∧ ∃ hs2 hd2 acks2, Wd p F.me F.g rows hs2 ls vg H2 ∧ H2 l7 = some (.lst [v7]) ∧ Rp H2 (Letter.rows F.own lg st0 time).d v7 ∧ Inv F (m + 1 + 2 * i + 2) rows hs2 ls1 time hd2 (some time) acks2 gz ∧ Full F rows time acks2 (i + 1) ∧ Done F rows hd2 (i + 1)))) ⟨_, rfl, hl9', .inl ⟨rfl, rfl⟩⟩ (fun _ _ H2 _ z => by obtain ⟨_, _, z, _⟩ := z; exact SqL.of z) ?_ ?_⟩
      · rintro j x σ2 H2 H3 hj ⟨b10, rfl, hl9j, hcase⟩ ⟨rfl, hx⟩
        have hj : j = 0 := by
          have : j < 1 := hj
          omega
        subst hj
        have hcase : H3 = H12 := by
          rcases hcase with ⟨_, z⟩ | ⟨z, _⟩
          · exact z
          · exact absurd z (by decide)
        subst hcase
        have hx : v9 = x := Option.some.inj hx
        subst hx
        have E12 := envE (time := time) (lease := F.lease) (σr := [some (.ref l7), some (.int (i : Int)), some (.ref l9), some v9]) (δr := [none, none, none, some (Letter.got F.own (i : Int) (h.told F.own lg st0 time F.lease).log.len time).d]) W11 (env_skip (env_skip (env_skip (env_cons r9 env_nil))))
        obtain ⟨hv2, hH2, _⟩ := W11.h
        refine st_setI (n := F.me) (d := (hd'.counted gz (F.me : Int) F.st (some time) acks' (i : Int) (h.told F.own lg st0 time F.lease).log.len time).d) rfl rfl (ed_op (ed_call (ea_cons (ed_op (ed_var (i := 3) (d := housesD (hs'.set i (h.told F.own lg st0 time F.lease))) rfl) (ed_var (i := 4) (d := .int (F.me : Int)) rfl) (rd_ixL rfl (hs_get It.at_))) (ea_cons (ed_var (i := 4) (d := .int (F.me : Int)) rfl) (ea_cons (ed_var (i := 10) (d := (Letter.got hd'.which (i : Int) (h.told F.own lg st0 time F.lease).log.len time).d) (by rw [I'.wh]; rfl)) ea_nil))) (pr_counted (It.head f (by omega)) (by have := I'.al; omega))) ed_int (rd_ixT' rfl (by decide))) E12 hH2 (by rw [W11.hlen hH2, List.length_set, I'.hl]; exact hme) fun v13 H13 e13 r13 hH13 => ?_
        refine ⟨_, rfl, ?_, .inr ⟨rfl, _, _, _, (W11.ex e13).seth k hH13 F.me r13 (I2.imm I2.at_), ?_, ?_, I2, hf2, hd2⟩⟩
        · rw [upd_ne hne2]
          exact e13 _ _ hl9j
        · rw [upd_ne hne']
          exact e13 _ _ hl7'
        · exact (rl7'.mono e13).keep (tex_lst hH13) him
      · rintro σ2 H2 ⟨b10, rfl, _, ⟨z, _⟩ | ⟨_, hs2, hd2', acks2, W2, hl2, rl2, I2', hf2', hd2''⟩⟩
        · exact absurd z (by simp)
        · exact ⟨_, _, _, hs2, hd2', acks2, rfl, W2, hl2, rl2, hne', I2', hf2', hd2''⟩
  · rintro σ' H' ⟨a8, a9, a10, hs', hd', acks', rfl, W', hl', rl', hne', I', hf, hdn⟩
    have hnn : (hv5.length : Int).toNat = F.n := by omega
    rw [hnn] at hf hdn I'
    have hset := hdn fun j hj _ => hj
    have hread := ends_read I' f hf hset
    have E' := envE (time := time) (lease := F.lease) (σr := [some (.ref l7), a8, a9, a10]) (δr := [none, none, none, none]) W' (env_skip (env_skip (env_skip (env_skip env_nil))))
    refine st_when (b := !decide (hd'.settled = (rows.length : Int))) (et_test (ed_op (ed_op (ed_op (ed_var (i := 3) (d := housesD hs') rfl) (ed_var (i := 4) (d := .int (F.me : Int)) rfl) (rd_ixL rfl (hs_get I'.at_))) ed_int (rd_ixT' (d := .int hd'.settled) rfl (by decide))) (hlen_ed (i := 6) (ds := rowsD rows) rfl (List.length_map ..)) rd_neI)) E' (fun hb H2 e2 => ?_) (fun _ H2 e2 => ?_)
    · rw [decide_eq_true hset] at hb
      cases hb
    · refine (ed_op (ed_call (ea_cons (ed_op (ed_var (i := 3) (d := housesD hs') rfl) (ed_var (i := 4) (d := .int (F.me : Int)) rfl) (rd_ixL rfl (hs_get I'.at_))) (ea_cons (ed_var (i := 4) (d := .int (F.me : Int)) rfl) (ea_cons (ed_var (i := 1) (d := .int time) rfl) (ea_cons (ed_var (i := 2) (d := .int F.lease) rfl) ea_nil)))) (pr_may_read (I'.head f (by omega)))) (ed_op (ed_var (i := 2) (d := .int F.lease) rfl) ed_int rd_ib) rd_eqB) _ H2 (E'.mono e2) _ fun v H3 e3 r3 => ?_
      rw [of_bl r3, decide_eq_true hread]
      exact q H3
end
end Oa
/-! How the law begins. -/
namespace Oa
open PySem L2
section
variable {σ : St} {H : Hp} {a : Addr} {K : PySem.W.Frag} {i : Nat} {ns : List Int} {tlo thi : TO}
/-- sum(script[..]) -/
theorem te_sum {Q : VK} (hi : σ[i]? = some (some (.ref a))) (hs : SqL K H a (ns.map V.int)) (hlo : ∀ Q : Option Int → Hp → Prop, (∀ o, Q o H) → tlo σ H Q) (hhi : ∀ Q : Option Int → Hp → Prop, (∀ o, Q o H) → thi σ H Q) (q : ∀ k H1, Ex H H1 → Q (.int k) H1) :
    tCB (rSum K) (tCons (tSl (rSlL K) (tVar i) tlo thi) tNil) σ H Q :=
  ⟨.ref a, hi, hlo _ fun lo => hhi _ fun hi2 => ⟨a, _, rfl, hs, fun p hp => ⟨p, (ns.drop (HT.sIx (ns.map V.int).length 0 lo)).take (HT.sIx (ns.map V.int).length (ns.map V.int).length hi2 - HT.sIx (ns.map V.int).length 0 lo), rfl, SqL.of (by
    rw [upd_same]
    unfold cutV
    rw [List.map_take, List.map_drop]), q _ _ (ex_new hp)⟩⟩⟩
theorem no_part {Q : Option Int → Hp → Prop} (q : ∀ o, Q o H) : tNoPart σ H Q := q none
theorem a_part {n : Int} {Q : Option Int → Hp → Prop} (q : ∀ o, Q o H) : tPart (tC (.int n)) σ H Q := ⟨n, rfl, q _⟩
end
/-- the lists of the beginning as they lie -/
structure Bd (pA rA hA : Addr) (g : Grp) (rows : List Row) (hs : List House) (vg : V) (H : Hp) : Prop where
  t : PotAt H pA
  g : Rp H (grpD g) vg
  r : ∃ vs, H rA = some (.lst vs) ∧ RpS H (rowsD rows) vs
  h : ∃ vs, H hA = some (.lst vs) ∧ RpS H (hs.map House.d) vs
  hi : immS (hs.map House.d) = true
section
variable {pA rA hA : Addr} {g : Grp} {rows : List Row} {hs : List House} {vg : V} {H H' : Hp}
theorem Bd.ex (W : Bd pA rA hA g rows hs vg H) (e : Ex H H') : Bd pA rA hA g rows hs vg H' := by
  obtain ⟨hv, h1, h2⟩ := W.h
  obtain ⟨rv, h3, h4⟩ := W.r
  exact ⟨W.t.ex e, W.g.mono e, ⟨rv, e _ _ h3, h4.mono e⟩, ⟨hv, e _ _ h1, h2.mono e⟩, W.hi⟩
theorem Bd.lex (W : Bd pA rA hA g rows hs vg H) (hr : rA ≠ pA) (hh : hA ≠ pA) (e : LEx pA H H') (ht : PotAt H' pA) : Bd pA rA hA g rows hs vg H' := by
  obtain ⟨hv, h1, h2⟩ := W.h
  obtain ⟨rv, h3, h4⟩ := W.r
  have te := pot_tex W.t e
  exact ⟨ht, W.g.keep te imm_grp, ⟨rv, e _ _ hr h3, h4.keep te (imm_rows rows)⟩, ⟨hv, e _ _ hh h1, h2.keep te W.hi⟩, W.hi⟩
theorem Bd.addh (W : Bd pA rA hA g rows hs vg H) (hh : hA ≠ pA) (hr : rA ≠ hA) {hv : List V} (h1 : H hA = some (.lst hv)) {h : House} {v : V} (hd : Rp H h.d v) (hi : imm h.d = true) : Bd pA rA hA g rows (hs ++ [h]) vg (upd H hA (.lst (hv ++ [v]))) := by
  obtain ⟨hv', h1', h2⟩ := W.h
  rw [h1] at h1'
  cases h1'
  obtain ⟨rv, h3, h4⟩ := W.r
  have te : TEx H (upd H hA (.lst (hv ++ [v]))) := tex_lst h1
  have him : immS ((hs ++ [h]).map House.d) = true := by
    rw [List.map_append, immS_append, W.hi]
    show (true && (imm h.d && true)) = true
    rw [hi]
    rfl
  refine ⟨W.t.upd hh.symm, W.g.keep te imm_grp, ⟨rv, by rw [upd_ne hr]; exact h3, h4.keep te (imm_rows rows)⟩, ⟨_, upd_same, ?_⟩, him⟩
  refine RpS.keep te him ?_
  rw [List.map_append]
  exact h2.append (rs_cons hd rs_nil)
theorem env10 {a pA rA hA : Addr} {n long me own one : Int} {σr : St} {δr : DE} (hg : Rp H (grpD g) vg) (E : Env σr H δr) :
    Env (some (.ref a) :: some (.int n) :: some (.ref pA) :: some vg :: some (.int long) :: some (.ref rA) :: some (.int me) :: some (.int own) :: some (.ref hA) :: some (.int one) :: σr) H
      (none :: some (.int n) :: some (.ptr pA) :: some (grpD g) :: some (.int long) :: none :: some (.int me) :: some (.int own) :: none :: some (.int one) :: δr) :=
  env_skip (env_cons rp_int (env_cons rp_ptr (env_cons hg (env_cons rp_int (env_skip (env_cons rp_int (env_cons rp_int (env_skip (env_cons rp_int E)))))))))
theorem env10r {a pA rA hA : Addr} {n long me own one : Int} {σr : St} {δr : DE} {rv : List V} (hg : Rp H (grpD g) vg) (h3 : H rA = some (.lst rv)) (h4 : RpS H (rowsD rows) rv) (E : Env σr H δr) :
    Env (some (.ref a) :: some (.int n) :: some (.ref pA) :: some vg :: some (.int long) :: some (.ref rA) :: some (.int me) :: some (.int own) :: some (.ref hA) :: some (.int one) :: σr) H
      (none :: some (.int n) :: none :: some (grpD g) :: some (.int long) :: some (.lst (rowsD rows)) :: some (.int me) :: some (.int own) :: none :: some (.int one) :: δr) :=
  env_skip (env_cons rp_int (env_skip (env_cons hg (env_cons rp_int (env_cons (rp_lst h3 h4) (env_cons rp_int (env_cons rp_int (env_skip (env_cons rp_int E)))))))))
theorem imm10 {n long me own one : Int} {pA : Addr} {δr : DE} (h : immE δr = true) : immE (none :: some (.int n) :: some (.ptr pA) :: some (grpD g) :: some (.int long) :: none :: some (.int me) :: some (.int own) :: none :: some (.int one) :: δr) = true := by
  show (true && (true && (true && (imm (grpD g) && (true && (true && (true && (true && (true && (true && immE δr)))))))))) = true
  rw [imm_grp, h]
  rfl
end
/-- a beginning -/
structure Beg (n : Nat) (g : Grp) (me : Nat) (own : Int) (rows : List Row) (hs : List House) : Prop where
  n1 : 1 ≤ n
  n6 : n ≤ 6
  hm : me < n
  gs : GS n g
  ow : (own - 1) % (n : Int) = (me : Int)
  rs : ∀ r ∈ rows, RowS n r
  rl : rows.length ≤ 60
  hl : hs.length = n
  gb : ∃ gz, groupBehind g rows = some gz
  hk : ∀ (i : Nat) h, hs[i]? = some h → HOk g rows own (rows.length : Int) h
  hd : ∃ hd, hs[me]? = some hd ∧ hd.which = own ∧ hd.taken = own ∧ hd.role = .heads (rows.length : Int) none [] ∧ hd.log.len = (rows.length : Int) ∧ (n = 1 → hd.settled = (rows.length : Int))
theorem Beg.fix {n : Nat} {g : Grp} {me : Nat} {own : Int} {rows : List Row} {hs : List House} (b : Beg n g me own rows hs) (lease : Int) : FixOk ⟨g, n, me, own, (rows.length : Int), lease⟩ := ⟨b.n1, b.n6, b.hm, b.gs, b.ow⟩
theorem Beg.inv {n : Nat} {g : Grp} {me : Nat} {own : Int} {rows : List Row} {hs : List House} (b : Beg n g me own rows hs) (lease : Int) : ∃ hd gz, Inv ⟨g, n, me, own, (rows.length : Int), lease⟩ 0 rows hs [] 0 hd none [] gz := by
  obtain ⟨hd, h1, h2, h3, h4, h5, h6⟩ := b.hd
  obtain ⟨gz, hg⟩ := b.gb
  exact ⟨hd, gz, b.hl, b.rs, b.rl, hg, b.hk, h1, h2, h3, h4, h5, Nat.le_refl _, (fun a ha => nomatch ha), (fun t e => nomatch e), h6, Int.le_refl _, Nat.le_refl _, fun l hl => nomatch hl⟩
def spBegun (K : PySem.W.Frag) : Sp := fun vs H Q _ => ∃ (a : Addr) (ns : List Int) (n : Nat), vs = [.ref a, .int (n : Int)] ∧ SqL K H a (ns.map V.int) ∧ 1 ≤ n ∧ n ≤ 6 ∧
  ∀ (sA hA rA : Addr) (vg : V) (hv rv : List V) (g : Grp) (me : Nat) (own : Int) (rows : List Row) (hs : List House) (H' : Hp), Beg n g me own rows hs → Ex H H' → H' sA = some (.lst [.ref hA, .int (me : Int), vg, .ref rA]) → Rp H' (grpD g) vg → H' hA = some (.lst hv) → RpS H' (hs.map House.d) hv →
    H' rA = some (.lst rv) → RpS H' (rowsD rows) rv → sA ≠ hA → sA ≠ rA → hA ≠ rA → immS (hs.map House.d) = true → Q (.ref sA) H'
theorem rc_int1 {b : Bool} : RC (fun xs H Q => (∃ i, xs = [.int i] ∧ Q (.int i) H) ∨ ∃ k, xs = [.bl k] ∧ Q (.int (if k then 1 else 0)) H) [.bl b] (.int (if b then 1 else 0)) := fun H vs r Q q => by
  obtain ⟨v, r0, rfl, h1, h2⟩ := of_cons r
  rw [of_nil h2, of_bl h1]
  exact .inr ⟨b, rfl, q _ H (Same.refl H) rp_int⟩
/-- [x, y][int(b)] -/
theorem ep_two {δ : DE} {p : Addr} {tx ty tb : TE} {K : PySem.W.Frag} {Px Py : Int → Prop} {b : Bool} (hi : immE δ = true) (hx : EvP tx δ p (IntP Px)) (hy : EvP ty δ p (IntP Py)) (hb : EvD tb δ (.bl b)) :
    EvP (tOp (rIxL K) (tLst (tCons tx (tCons ty tNil))) (tCB (fun xs H Q => (∃ i, xs = [.int i] ∧ Q (.int i) H) ∨ ∃ k, xs = [.bl k] ∧ Q (.int (if k then 1 else 0)) H) (tCons tb tNil))) δ p (IntP fun z => (b = false ∧ Px z) ∨ (b = true ∧ Py z)) :=
  ep_pick (Px := (· = .int (if b then 1 else 0))) hi (eap_cons hi hx (eap_cons hi hy eap_nil)) (by
    rintro ds ⟨d, r, rfl, _, d2, r2, rfl, _, rfl⟩
    simp) (ep_of (ed_cb (ea_cons hb ea_nil) rc_int1) rfl) (by
    rintro ds x ⟨d, r, rfl, ⟨u, rfl, h1⟩, d2, r2, rfl, ⟨u2, rfl, h2⟩, rfl⟩ rfl
    cases b with
    | false => exact ⟨0, _, rfl, rfl, u, rfl, .inl ⟨rfl, h1⟩⟩
    | true => exact ⟨1, _, rfl, rfl, u2, rfl, .inr ⟨rfl, h2⟩⟩)
theorem small_log2 {m : Int} (h : m.natAbs < 1000000) : m.natAbs.log2 < 9000 := PySem.Flt.log2_lt_of (by decide) (by
  have : (1000000 : Nat) < 2 ^ 9000 := by decide +kernel
  omega)
end Oa
/-! How the law begins: the walk. -/
namespace Oa
open PySem L2
theorem te_callr {sp : Sp} {E0 : XK} {ta : TA} {σ : St} {H : Hp} {Q : VK} (h : ta σ H fun xs H1 => sp (xs ++ []) H1 Q E0) : tCall sp [] E0 ta σ H Q := h
theorem ex_lexN {H H1 H2 : Hp} {p : Addr} (e : Ex H H1) (hn : H p = none) (l : LEx p H1 H2) : Ex H H2 := fun a u h => l a u (ne_of_none h hn) (e a u h)
abbrev dB (n : Int) (pA : Addr) (g : Grp) (long me own one : Int) (t : DE) : DE := none :: some (.int n) :: some (.ptr pA) :: some (grpD g) :: some (.int long) :: none :: some (.int me) :: some (.int own) :: none :: some (.int one) :: t
section
variable {δ : DE} {p : Addr} {te : TE} {m : Int} {i : Nat}
theorem ep_int (h : EvD te δ (.int m)) : EvP te δ p (IntP (· = m)) := EvP.imp (ep_of h rfl) fun d e => ⟨m, e, rfl⟩
theorem ep_takeE {E0 : XK} (hv : δ[i]? = some (some (.ptr p))) (hi : immE δ = true) (he : EvD te δ (.int m)) (h0 : 0 < m) (h1 : m.natAbs < 1000000) : EvP (tCall (spP Cp_take Rp_take) [] E0 (tCons (tVar i) (tCons te tNil))) δ p (IntP fun a => 0 ≤ a ∧ a < m) :=
  EvP.imp (ep_take (Pm := (· = m)) hv hi (ep_int he) (by rintro _ rfl; exact ⟨h0, small_log2 h1⟩)) (by
    rintro d ⟨a, rfl, m2, rfl, h⟩
    exact ⟨a, rfl, h⟩)
end
section
variable {P : Program} {w : World} {K : PySem.W.Frag} {mg : Str → Option Value} {base : Heap} (T : Defs K mg)
theorem ok__law_begun : FnOk P w K mg base CX0 6 T._law_begun.f T._law_begun.fd ["_law_script", "_law_many"] (spBegun K) := by
  refine T._law_begun.F.ok sc__law_begun (fun vs H Q E h => by obtain ⟨_, _, _, rfl, _⟩ := h; rfl) (fun cdv A outer s H vs Q E hr h => ?_)
  refine ⟨_,
    (pss_cons (ps_set (i := 2) sc__law_begun.nd rfl (.inl rfl) (pe_call (ok__law_pot T) (hr.mono (by decide)) (by rfl) T._law_pot.g T._law_pot.F.kp T._law_pot.b .nil pass0 (pa_cons (pe_callB (k_sum (K := K) rfl rfl) (by rfl) T.n_sum bb_sum (pa_cons (pe_slice (k_slL (K := K) rfl) (pv 0) po_none (po_some pe_int)) pa_nil)) (pa_cons pe_int pa_nil))))
    (pss_cons (ps_set (i := 3) sc__law_begun.nd rfl (.inl rfl) (pe_tup (pa_cons (pe_call (ok__law_set T) (hr.mono (by decide)) (by rfl) T._law_set.g T._law_set.F.kp T._law_set.b .nil pass0 (pa_cons (pv 2) (pa_cons (pv 1) pa_nil))) pa_nil)))
    (pss_cons (ps_set (i := 4) sc__law_begun.nd rfl (.inl rfl) (pe_ix (k_ixL (K := K) rfl) (pe_lst (pa_cons pe_int (pa_cons pe_int (pa_cons (pe_call (ok__law_take T) (hr.mono (by decide)) (by rfl) T._law_take.g T._law_take.F.kp T._law_take.b .nil pass0 (pa_cons (pv 2) (pa_cons pe_int pa_nil))) (pa_cons (pe_call (ok__law_take T) (hr.mono (by decide)) (by rfl) T._law_take.g T._law_take.F.kp T._law_take.b .nil pass0 (pa_cons (pv 2) (pa_cons pe_int pa_nil))) pa_nil))))) (pe_call (ok__law_take T) (hr.mono (by decide)) (by rfl) T._law_take.g T._law_take.F.kp T._law_take.b .nil pass0 (pa_cons (pv 2) (pa_cons pe_int pa_nil))) (fun _ _ => rfl)))
    (pss_cons (ps_set (i := 5) sc__law_begun.nd rfl (.inl rfl) (pe_call (ok__law_rows T) (hr.mono (by decide)) (by rfl) T._law_rows.g T._law_rows.F.kp T._law_rows.b .nil pass0 (pa_cons (pv 2) (pa_cons (pv 1) (pa_cons (pv 3) (pa_cons (pe_lst pa_nil) (pa_cons (pv 4) pa_nil)))))))
    (pss_cons (ps_set (i := 6) sc__law_begun.nd rfl (.inl rfl) (pe_call (ok__law_take T) (hr.mono (by decide)) (by rfl) T._law_take.g T._law_take.F.kp T._law_take.b .nil pass0 (pa_cons (pv 2) (pa_cons (pv 1) pa_nil))))
    (pss_cons (ps_set (i := 7) sc__law_begun.nd rfl (.inl rfl) (pe_op op_add (pe_op op_add pe_int (pv 6)) (pe_op op_mul (pv 1) (pe_op op_add pe_int (pe_call (ok__law_take T) (hr.mono (by decide)) (by rfl) T._law_take.g T._law_take.F.kp T._law_take.b .nil pass0 (pa_cons (pv 2) (pa_cons pe_int pa_nil)))))))
    (pss_cons (ps_set (i := 8) sc__law_begun.nd rfl (.inl rfl) (pe_lst pa_nil))
    (pss_cons (ps_for PassesOwn.never rfl (pi_range1 (by rfl) T.n_range (pa_cons (pv 1) pa_nil)) (pg_name (i := 9) sc__law_begun.nd rfl (.inl rfl))
      (pss_cons (ps_set (i := 10) sc__law_begun.nd rfl (.inl rfl) (pe_ix (k_ixL (K := K) rfl) (pe_lst (pa_cons (pe_call (ok__law_take T) (hr.mono (by decide)) (by rfl) T._law_take.g T._law_take.F.kp T._law_take.b .nil pass0 (pa_cons (pv 2) (pa_cons (pe_op op_add (pv 4) pe_int) pa_nil))) (pa_cons (pv 4) pa_nil))) (pe_callTy call_int1 (by rfl) T.n_int bb_int (pa_cons (pe_cmpR op_eq (pv 9) (pv 6) (nomark _)) pa_nil)) (fun _ _ => rfl)))
      (pss_cons (ps_set (i := 11) sc__law_begun.nd rfl (.inl rfl) (pe_call (ok__law_take T) (hr.mono (by decide)) (by rfl) T._law_take.g T._law_take.F.kp T._law_take.b .nil pass0 (pa_cons (pv 2) (pa_cons (pe_op op_add (pv 10) pe_int) pa_nil))))
      (pss_cons (ps_set (i := 12) sc__law_begun.nd rfl (.inl rfl) (pe_call (ok__law_log T) (hr.mono (by decide)) (by rfl) T._law_log.g T._law_log.F.kp T._law_log.b .nil pass0 (pa_cons (pv 3) (pa_cons (pv 5) (pa_cons (pe_call (ok__law_take T) (hr.mono (by decide)) (by rfl) T._law_take.g T._law_take.F.kp T._law_take.b .nil pass0 (pa_cons (pv 2) (pa_cons (pe_op op_add (pv 11) pe_int) pa_nil))) (pa_cons (pv 10) pa_nil))))))
      (pss_cons (ps_set (i := 13) sc__law_begun.nd rfl (.inl rfl) (pe_ix (k_ixL (K := K) rfl) (pe_lst (pa_cons pe_int (pa_cons (pe_op op_add pe_int (pe_call (ok__law_take T) (hr.mono (by decide)) (by rfl) T._law_take.g T._law_take.F.kp T._law_take.b .nil pass0 (pa_cons (pv 2) (pa_cons (pe_op op_sub (pv 7) pe_int) pa_nil)))) pa_nil))) (pe_callTy call_int1 (by rfl) T.n_int bb_int (pa_cons (pe_cmpR op_gt (pv 10) pe_int (nomark _)) pa_nil)) (fun _ _ => rfl)))
      (pss_cons (ps_set (i := 14) sc__law_begun.nd rfl (.inl rfl) (pe_tup (pa_cons (pe_callB (call_max2 rfl) (by rfl) T.n_max bb_max (pa_cons (pv 13) (pa_cons (pe_call (ok__law_take T) (hr.mono (by decide)) (by rfl) T._law_take.g T._law_take.F.kp T._law_take.b .nil pass0 (pa_cons (pv 2) (pa_cons (pe_op op_add (pv 7) pe_int) pa_nil))) pa_nil))) (pa_cons (pv 13) (pa_cons (pv 12) (pa_cons (pv 11) (pa_cons (pe_call (ok__law_take T) (hr.mono (by decide)) (by rfl) T._law_take.g T._law_take.F.kp T._law_take.b .nil pass0 (pa_cons (pv 2) (pa_cons pe_int pa_nil))) (pa_cons pe_bl (pa_cons pe_non pa_nil)))))))))
      (pss_cons (ps_if (PW.pt (pw_and (pt_cmpR op_eq (pv 9) (pv 6) (nomark _)) (pw_and1 (pt_val (pe_call (ok__law_enough T) (hr.mono (by decide)) (by rfl) T._law_enough.g T._law_enough.F.kp T._law_enough.b .nil pass0 (pa_cons (pe_call (ok__law_behind T) (hr.mono (by decide)) (by rfl) T._law_behind.g T._law_behind.F.kp T._law_behind.b .nil pass0 (pa_cons (pv 3) (pa_cons (pv 5) pa_nil))) (pa_cons (pe_lst (pa_cons (pv 6) pa_nil)) pa_nil)))))))
        (pss_one (ps_set (i := 11) sc__law_begun.nd rfl (.inl rfl) (pv 10))) pss_nil)
      (pss_cons (ps_if (pt_cmpR op_eq (pv 9) (pv 6) (nomark _))
        (pss_one (ps_set (i := 14) sc__law_begun.nd rfl (.inl rfl) (pe_tup (pa_cons (pv 7) (pa_cons (pv 7) (pa_cons (pv 12) (pa_cons (pv 11) (pa_cons (pe_ix (k_ixT (K := K) rfl) (pv 14) pe_int (fun _ _ => rfl)) (pa_cons pe_bl (pa_cons (pe_tup (pa_cons pe_str (pa_cons (pv 10) (pa_cons pe_non (pa_cons (pe_tup pa_nil) pa_nil))))) pa_nil)))))))))) pss_nil)
      (pss_one (ps_expr (pe_bm PySem.F.plainAttrs_list PySem.F.slot_list_append PySem.F.type_list_append mt_append (pv 8) (pa_cons (pv 14) pa_nil))))))))))))
    (pss_one (ps_ret (pe_lst (pa_cons (pv 8) (pa_cons (pv 6) (pa_cons (pv 3) (pa_cons (pv 5) pa_nil))))))))))))))), ?_⟩
  obtain ⟨a, ns, n, rfl, hs, n1, n6, q⟩ := h
  refine st_val (te_callr (ta_next (te_sum rfl hs (fun Q q => no_part q) (fun Q q => a_part q) fun k0 H1 e1 => ⟨k0, 41, rfl, fun pA H2 e2 hn2 hp2 => ?_⟩)))
  have hnP : H pA = none := e1.free hn2
  have x2 : Ex H H2 := e1.trans e2
  clear hn2 e1 e2
  refine st_oneP (P := fun d => ∃ s0, d = grpD [s0] ∧ SetOk n s0) (δ := none :: some (.int (n : Int)) :: some (.ptr pA) :: List.replicate 12 none) (EvP.imp (ep_tup (eap_cons rfl (ep_call (C := Cp_set) (R := Rp_set) (eap_cons rfl (ep_of (ed_var rfl) rfl) (eap_cons rfl (ep_of (ed_var rfl) rfl) eap_nil)) ?_) eap_nil) ?_) ?_) (env_skip (env_cons rp_int (env_cons rp_ptr env_nones))) hp2 fun vg d H3 pd _ e3 hp3 r3 => ?_
  · rintro ds ⟨d, r, rfl, rfl, d2, r2, rfl, rfl, rfl⟩
    exact ⟨n, rfl, n1, n6⟩
  · rintro ds ⟨d, r, rfl, _, rfl⟩
    simp
  · rintro d ⟨ds, rfl, d, r, rfl, ⟨ds2, ⟨d1, r3, rfl, rfl, d2, r4, rfl, rfl, rfl⟩, n2, x, s0, eq, rfl, hs0⟩, rfl⟩
    injection eq with _ eq
    injection eq with eq _
    injection eq with eq
    have hn2 : n2 = n := by omega
    subst hn2
    exact ⟨s0, rfl, hs0⟩
  obtain ⟨s0, rfl, hs0⟩ := pd
  have x3 : Ex H H3 := ex_lexN x2 hnP e3
  clear e3 hp2 x2
  refine st_oneP (P := IntP fun z => 0 ≤ z ∧ z ≤ 50) (δ := none :: some (.int (n : Int)) :: some (.ptr pA) :: List.replicate 12 none) (ep_pick (PA := fun ds => ∃ u v : Int, ds = [.int 0, .int 0, .int u, .int v] ∧ 0 ≤ u ∧ u ≤ 50 ∧ 0 ≤ v ∧ v ≤ 50) rfl (EaP.imp (eap_cons rfl (ep_of ed_int rfl) (eap_cons rfl (ep_of ed_int rfl) (eap_cons rfl (ep_takeC rfl rfl (by decide) (by decide)) (eap_cons rfl (ep_takeC rfl rfl (by decide) (by decide)) eap_nil)))) ?_) ?_ (ep_takeC rfl rfl (by decide) (by decide)) ?_) (env_skip (env_cons rp_int (env_cons rp_ptr env_nones))) hp3 fun v d H4 pd _ e4 hp4 r4 => ?_
  · rintro ds ⟨d, r, rfl, rfl, d2, r2, rfl, rfl, d3, r3, rfl, ⟨u, rfl, hu⟩, d4, r4, rfl, ⟨v, rfl, hv⟩, rfl⟩
    exact ⟨u, v, rfl, by omega, by omega, by omega, by omega⟩
  · rintro ds ⟨u, v, rfl, _⟩
    simp
  · rintro ds x ⟨u, v, rfl, hu⟩ ⟨z, rfl, hz⟩
    have hz : z = 0 ∨ z = 1 ∨ z = 2 ∨ z = 3 := by omega
    rcases hz with rfl | rfl | rfl | rfl
    · exact ⟨0, _, rfl, rfl, 0, rfl, by omega, by omega⟩
    · exact ⟨1, _, rfl, rfl, 0, rfl, by omega, by omega⟩
    · exact ⟨2, _, rfl, rfl, u, rfl, by omega, by omega⟩
    · exact ⟨3, _, rfl, rfl, v, rfl, by omega, by omega⟩
  obtain ⟨long, rfl, hl0, hl50⟩ := pd
  obtain ⟨L, rfl⟩ := Int.eq_ofNat_of_zero_le hl0
  rw [of_int r4]
  clear r4
  have rg4 : Rp H4 (grpD [s0]) vg := r3.keep (pot_tex hp3 e4) imm_grp
  have x4 : Ex H H4 := ex_lexN x3 hnP e4
  clear r3 e4 hp3 x3
  refine st_val (te_call (ds := [.ptr pA, .int (n : Int), grpD [s0], .lst [], .int (L : Int)]) (δ := none :: some (.int (n : Int)) :: some (.ptr pA) :: some (grpD [s0]) :: some (.int (L : Int)) :: List.replicate 10 none) (ea_cons (ed_var (i := 2) rfl) (ea_cons (ed_var (i := 1) rfl) (ea_cons (ed_var (i := 3) rfl) (ea_cons (ed_lst ea_nil (by decide)) (ea_cons (ed_var (i := 4) rfl) ea_nil))))) (env_skip (env_cons rp_int (env_cons rp_ptr (env_cons rg4 (env_cons rp_int env_nones))))) fun us H5 e5 r5 => ⟨pA, n, [s0], L, r5, n1, n6, .inl rfl, by omega, hp4.ex e5, fun rA rv rows gz H6 e6 hp6 hnR hR6 rr6 hrl hrs hgb => ?_⟩)
  have rg6 : Rp H6 (grpD [s0]) vg := (rg4.mono e5).keep (pot_tex (hp4.ex e5) e6) imm_grp
  have hnR0 : H rA = none := x4.free (e5.free hnR)
  have hRP : rA ≠ pA := fun z => by
    obtain ⟨u, v, hu⟩ := hp4.ex e5
    rw [z, hu] at hnR
    cases hnR
  have x6 : Ex H H6 := ex_lexN (x4.trans e5) hnP e6
  clear e5 e6 r5 rg4 hp4 x4 hnR
  refine st_oneP (P := IntP fun z => 0 ≤ z ∧ z < (n : Int)) (δ := none :: some (.int (n : Int)) :: some (.ptr pA) :: List.replicate 12 none) (EvP.imp (ep_take (Pm := (· = (n : Int))) rfl rfl ((ep_of (ed_var (i := 1) (d := .int (n : Int)) rfl) rfl).imp fun d e => ⟨_, e, rfl⟩) (by
    rintro m rfl
    exact ⟨by omega, small_log2 (by omega)⟩)) (by
    rintro d ⟨z, rfl, m, rfl, h⟩
    exact ⟨z, rfl, h⟩)) (env_skip (env_cons rp_int (env_cons rp_ptr env_nones))) hp6 fun v d H7 pd _ e7 hp7 r7 => ?_
  obtain ⟨me', rfl, hm0, hm1⟩ := pd
  obtain ⟨me, rfl⟩ := Int.eq_ofNat_of_zero_le hm0
  rw [of_int r7]
  clear r7
  have rg7 : Rp H7 (grpD [s0]) vg := rg6.keep (pot_tex hp6 e7) imm_grp
  have rr7 : RpS H7 (rowsD rows) rv := rr6.keep (pot_tex hp6 e7) (imm_rows rows)
  have hR7 : H7 rA = some (.lst rv) := e7 _ _ hRP hR6
  have x7 : Ex H H7 := ex_lexN x6 hnP e7
  clear rg6 rr6 hR6 x6 e7 hp6
  refine st_oneP (P := IntP fun z => ∃ t : Int, 0 ≤ t ∧ t < 5 ∧ z = 1 + (me : Int) + (n : Int) * (1 + t)) (δ := none :: some (.int (n : Int)) :: some (.ptr pA) :: none :: none :: none :: some (.int (me : Int)) :: List.replicate 8 none)
    (ep_op (Px := (· = .int (1 + (me : Int)))) (Py := IntP fun z => ∃ t : Int, 0 ≤ t ∧ t < 5 ∧ z = (n : Int) * (1 + t)) rfl (ep_of (ed_op ed_int (ed_var (i := 6) (d := .int (me : Int)) rfl) rd_ii) rfl) (ep_op (Px := (· = .int (n : Int))) (Py := IntP fun z => ∃ t : Int, 0 ≤ t ∧ t < 5 ∧ z = 1 + t) rfl (ep_of (ed_var (i := 1) rfl) rfl) (ep_op (Px := (· = .int 1)) (Py := IntP fun z => 0 ≤ z ∧ z < 5) rfl (ep_of ed_int rfl) (ep_takeC rfl rfl (by decide) (by decide)) ?_) ?_) ?_)
    (env_skip (env_cons rp_int (env_cons rp_ptr (env_skip (env_skip (env_skip (env_cons rp_int env_nones))))))) hp7 fun v d H8 pd _ e8 hp8 r8 => ?_
  · rintro x y rfl ⟨t, rfl, h⟩
    exact ⟨_, rd_ii, rfl, _, rfl, t, h.1, h.2, rfl⟩
  · rintro x y rfl ⟨z, rfl, t, h0, h5, rfl⟩
    exact ⟨_, rd_mul (Or.inl ⟨by omega, by omega⟩), rfl, _, rfl, t, h0, h5, rfl⟩
  · rintro x y rfl ⟨z, rfl, t, h0, h5, rfl⟩
    exact ⟨_, rd_ii, rfl, _, rfl, t, h0, h5, rfl⟩
  obtain ⟨own, rfl, t, ht0, ht5, hown⟩ := pd
  rw [of_int r8]
  clear r8
  have rg8 : Rp H8 (grpD [s0]) vg := rg7.keep (pot_tex hp7 e8) imm_grp
  have rr8 : RpS H8 (rowsD rows) rv := rr7.keep (pot_tex hp7 e8) (imm_rows rows)
  have hR8 : H8 rA = some (.lst rv) := e8 _ _ hRP hR7
  have x8 : Ex H H8 := ex_lexN x7 hnP e8
  clear rg7 rr7 hR7 x7 e8 hp7
  have hown2 : (own - 1) % (n : Int) = (me : Int) := by
    have e : own - 1 = (me : Int) + (n : Int) * (1 + t) := by omega
    rw [e, Int.add_mul_emod_self_left]
    exact Int.emod_eq_of_lt (by omega) hm1
  have hnt : (n : Int) * (1 + t) ≤ 30 ∧ 1 ≤ (n : Int) * (1 + t) := by
    have h1 : (n : Int) * (1 + t) ≤ 6 * (1 + t) := Int.mul_le_mul_of_nonneg_right (by omega) (by omega)
    have h2 : 1 * (1 + t) ≤ (n : Int) * (1 + t) := Int.mul_le_mul_of_nonneg_right (by omega) (by omega)
    omega
  have hown3 : 2 ≤ own ∧ own ≤ 36 := by omega
  refine st_val ⟨by show 0 ≤ sizeLine; omega, fun hA hnA => ?_⟩
  have hnA0 : H hA = none := x8.free hnA
  have hAP : hA ≠ pA := fun z => by
    obtain ⟨u, v, hu⟩ := hp8
    rw [z, hu] at hnA
    cases hnA
  have hRA : rA ≠ hA := fun z => by
    rw [← z, hR8] at hnA
    cases hnA
  have B0 : Bd pA rA hA [s0] rows [] vg (upd H8 hA (.lst [])) := ⟨hp8.ex (ex_new hnA), rg8.mono (ex_new hnA), ⟨rv, (ex_new hnA) _ _ hR8, rr8.mono (ex_new hnA)⟩, ⟨[], upd_same, rs_nil⟩, rfl⟩
  have x9 : Ex H (upd H8 hA (.lst [])) := x8.trans (ex_new hnA)
  generalize upd H8 hA (.lst []) = H9 at B0 x9
  refine ⟨.int (n : Int), rfl, (n : Int), rfl, by omega, by omega, ?_⟩
  refine for_it (walk_range (lo := 0) (n := (n : Int).toNat)) (fun i σ' H' => ∃ a9 a10 a11 a12 a13 a14 hs', σ' = [some (.ref a), some (.int (n : Int)), some (.ref pA), some vg, some (.int (L : Int)), some (.ref rA), some (.int (me : Int)), some (.int own), some (.ref hA), a9, a10, a11, a12, a13, a14] ∧
      Bd pA rA hA [s0] rows hs' vg H' ∧ Ex H H' ∧ hs'.length = i ∧ (∀ (j : Nat) h, hs'[j]? = some h → HOk [s0] rows own (rows.length : Int) h) ∧
      (me < i → ∃ hd, hs'[me]? = some hd ∧ hd.which = own ∧ hd.taken = own ∧ hd.role = .heads (rows.length : Int) none [] ∧ hd.log.len = (rows.length : Int) ∧ (n = 1 → hd.settled = (rows.length : Int))))
    ⟨none, none, none, none, none, none, [], rfl, B0, x9, rfl, (fun j h hj => by simp at hj), fun hlt => absurd hlt (Nat.not_lt_zero _)⟩ (fun _ _ _ _ _ => trivial) ?_ ?_
  · rintro i x σ' H' H'' hi ⟨a9, a10, a11, a12, a13, a14, hs', rfl, B, xx, hlen, hok, hhd⟩ ⟨rfl, rfl⟩
    have hi : i < n := by omega
    have e0 : (0 : Int) + (i : Int) = (i : Int) := Int.zero_add _
    show gName 9 (V.int ((0 : Int) + (i : Int))) _ _ _
    rw [e0]
    have tailN : ∀ (k : Nat) (H : Hp) (τ : St), τ.length = k → Env τ H (List.replicate k none) := fun k H τ h => by
      rw [← h]
      exact env_nones
    refine st_oneP (δ := dB n pA [s0] L me own i [none, none, none, none, none]) (ep_two (imm10 rfl) (ep_takeE (m := (L : Int) + 1) rfl (imm10 rfl) (ed_op (ed_var rfl) ed_int rd_ii) (by omega) (by omega)) (ep_int (ed_var (d := .int (L : Int)) rfl)) (ed_op (ed_var (d := .int (i : Int)) rfl) (ed_var (d := .int (me : Int)) rfl) rd_eqI)) (env10 B.g (env_skip (env_skip (env_skip (env_skip (env_skip env_nil)))))) B.t fun v d J1 pd _ e1 hp1 r1 => ?_
    obtain ⟨S', rfl, hS⟩ := pd
    have hS : 0 ≤ S' ∧ S' ≤ (L : Int) ∧ (i = me → S' = (L : Int)) := by
      rcases hS with ⟨hb, h⟩ | ⟨hb, h⟩
      · have hb := of_decide_eq_false hb
        exact ⟨h.1, by omega, fun z => absurd (by rw [z]) hb⟩
      · exact ⟨by omega, by omega, fun _ => h⟩
    obtain ⟨S, rfl⟩ := Int.eq_ofNat_of_zero_le hS.1
    rw [of_int r1]
    clear r1
    have B1 := B.lex hRP hAP e1 hp1
    have x1 := ex_lexN xx hnP e1
    clear e1 hp1
    refine st_oneP (δ := dB n pA [s0] L me own i [some (.int (S : Int)), none, none, none, none]) (ep_takeE (m := (S : Int) + 1) rfl (imm10 rfl) (ed_op (ed_var rfl) ed_int rd_ii) (by omega) (by omega)) (env10 B1.g (env_cons rp_int (env_skip (env_skip (env_skip (env_skip env_nil)))))) B1.t fun v d J2 pd _ e2 hp2 r2 => ?_
    obtain ⟨k', rfl, hk0, hk1⟩ := pd
    obtain ⟨kn, rfl⟩ := Int.eq_ofNat_of_zero_le hk0
    rw [of_int r2]
    clear r2
    have B2 := B1.lex hRP hAP e2 hp2
    have x2 := ex_lexN x1 hnP e2
    clear e2 hp2
    refine st_val (te_callr ⟨vg, rfl, .ref rA, rfl, ta_next ((ep_takeE (δ := dB n pA [s0] L me own i [some (.int (S : Int)), some (.int (kn : Int)), none, none, none]) (m := (kn : Int) + 1) rfl (imm10 rfl) (ed_op (ed_var rfl) ed_int rd_ii) (by omega) (by omega)) _ _ (env10 B2.g (env_cons rp_int (env_cons rp_int (env_skip (env_skip (env_skip env_nil)))))) B2.t _ fun v d J3 pd _ e3 hp3 r3 => ⟨.int (S : Int), rfl, ?_⟩)⟩)
    obtain ⟨c', rfl, hc0, hc1⟩ := pd
    obtain ⟨cut, rfl⟩ := Int.eq_ofNat_of_zero_le hc0
    rw [of_int r3]
    clear r3
    have B3 := B2.lex hRP hAP e3 hp3
    have x3 := ex_lexN x2 hnP e3
    clear e3 hp3
    obtain ⟨rv3, hR3, rr3⟩ := B3.r
    obtain ⟨g3, hg3⟩ := gb_take hgb cut
    refine ⟨[grpD [s0], .lst (rowsD rows), .int (cut : Int), .int (S : Int)], _, rs_cons B3.g (rs_cons (rp_lst hR3 rr3) (rs_cons rp_int (rs_cons rp_int rs_nil))), ⟨[s0], rows, cut, S, g3, rfl, by omega, hg3, rfl⟩, fun vl J4 e4 rl => ?_⟩
    have B4 := B3.ex e4
    have x4 := x3.trans e4
    have imL : imm (mkLog [s0] rows cut S).d = true := imm_log (imm_ss _)
    have hlog : (mkLog [s0] rows cut S).len = (S : Int) := mkLog_len (by omega) (by omega)
    have immT : ∀ (t : DE), immE t = true → immE (dB n pA [s0] L me own i (some (.int (S : Int)) :: some (.int (kn : Int)) :: some (mkLog [s0] rows cut S).d :: t)) = true := fun t ht => imm10 (by
      show (true && (true && (imm (mkLog [s0] rows cut S).d && immE t))) = true
      rw [imL, ht]
      rfl)
    clear e4 hR3 rr3 rv3
    refine st_oneP (P := IntP fun z => 0 ≤ z ∧ z < own) (δ := dB n pA [s0] L me own i [some (.int (S : Int)), some (.int (kn : Int)), some (mkLog [s0] rows cut S).d, none, none]) (EvP.imp (ep_two (Px := (· = 0)) (Py := fun z => 1 ≤ z ∧ z < own) (immT _ rfl) (ep_int ed_int) (ep_op (Px := (· = .int 1)) (Py := IntP fun z => 0 ≤ z ∧ z < own - 1) (immT _ rfl) (ep_of ed_int rfl) (ep_takeE rfl (immT _ rfl) (ed_op (ed_var (d := .int own) rfl) ed_int rd_ii) (by omega) (by omega)) ?_) (ed_op (ed_var (d := .int (S : Int)) rfl) ed_int rd_ib)) ?_) (env10 B4.g (env_cons rp_int (env_cons rp_int (env_cons rl (env_skip (env_skip env_nil)))))) B4.t fun v d J5 pd _ e5 hp5 r5 => ?_
    · rintro x y rfl ⟨z, rfl, hz⟩
      exact ⟨_, rd_ii, rfl, _, rfl, by omega, by omega⟩
    · rintro d ⟨z, rfl, ⟨_, h⟩ | ⟨_, h⟩⟩
      · exact ⟨z, rfl, by omega, by omega⟩
      · exact ⟨z, rfl, by omega, by omega⟩
    obtain ⟨tk, rfl, htk0, htk1⟩ := pd
    rw [of_int r5]
    clear r5
    have B5 := B4.lex hRP hAP e5 hp5
    have x5 := ex_lexN x4 hnP e5
    have rl5 := rl.keep (pot_tex B4.t e5) imL
    clear e5 hp5 rl
    refine st_oneP (P := fun d => ∃ wh u : Int, d = House.d ⟨wh, tk, mkLog [s0] rows cut S, (kn : Int), u, .rests⟩ ∧ wh ≤ own) (δ := dB n pA [s0] L me own i [some (.int (S : Int)), some (.int (kn : Int)), some (mkLog [s0] rows cut S).d, some (.int tk), none]) (EvP.imp (ep_tup (eap_cons (immT _ rfl) (ep_cb (P := IntP fun z => z ≤ own) (eap_cons (immT _ rfl) (ep_int (ed_var (d := .int tk) rfl)) (eap_cons (immT _ rfl) (ep_takeE rfl (immT _ rfl) (ed_op (ed_var (d := .int own) rfl) ed_int rd_ii) (by omega) (by omega)) eap_nil)) ?_) (eap_cons (immT _ rfl) (ep_of (ed_var rfl) rfl) (eap_cons (immT _ rfl) (ep_of (ed_var rfl) imL) (eap_cons (immT _ rfl) (ep_of (ed_var rfl) rfl) (eap_cons (immT _ rfl) (ep_takeC rfl (immT _ rfl) (by decide) (by decide)) (eap_cons (immT _ rfl) (ep_of ed_bl rfl) (eap_cons (immT _ rfl) (ep_of ed_non rfl) eap_nil))))))) ?_) ?_) (env10 B5.g (env_cons rp_int (env_cons rp_int (env_cons rl5 (env_cons rp_int (env_skip env_nil)))))) B5.t fun v14 d J6 pd him6 e6 hp6 r6 => ?_
    · rintro ds ⟨d, r, rfl, ⟨z, rfl, rfl⟩, d2, r2, rfl, ⟨z2, rfl, h2⟩, rfl⟩
      exact ⟨_, rc_max, rfl, _, rfl, by omega⟩
    · rintro ds ⟨d1, r1, rfl, _, d2, r2, rfl, _, d3, r3, rfl, _, d4, r4, rfl, _, d5, r5, rfl, _, d6, r6, rfl, _, d7, r7, rfl, _, rfl⟩
      simp
    · rintro d ⟨ds, rfl, d1, r1, rfl, ⟨wh, rfl, hw⟩, d2, r2, rfl, rfl, d3, r3, rfl, rfl, d4, r4, rfl, rfl, d5, r5, rfl, ⟨u, rfl, _⟩, d6, r6, rfl, rfl, d7, r7, rfl, rfl, rfl⟩
      exact ⟨wh, u, rfl, hw⟩
    obtain ⟨wh, u, rfl, hwh⟩ := pd
    have B6 := B5.lex hRP hAP e6 hp6
    have x6 := ex_lexN x5 hnP e6
    have rl6 := rl5.keep (pot_tex B5.t e6) imL
    clear e6 hp6 rl5
    have hSr : S ≤ rows.length := by omega
    have fin : ∀ (En : Ends) (J7 : Hp) (kn2 : Nat), Bd pA rA hA [s0] rows hs' vg J7 → Ex H J7 → Rp J7 (House.d ⟨wh, tk, mkLog [s0] rows cut S, (kn : Int), u, .rests⟩) v14 → Rp J7 (mkLog [s0] rows cut S).d vl → kn ≤ kn2 → kn2 ≤ S → (i = me → n = 1 → kn2 = S) →
        (∀ σ' H', (∃ a9 a10 a11 a12 a13 a14 hs', σ' = [some (.ref a), some (.int (n : Int)), some (.ref pA), some vg, some (.int (L : Int)), some (.ref rA), some (.int (me : Int)), some (.int own), some (.ref hA), a9, a10, a11, a12, a13, a14] ∧
          Bd pA rA hA [s0] rows hs' vg H' ∧ Ex H H' ∧ hs'.length = i + 1 ∧ (∀ (j : Nat) h, hs'[j]? = some h → HOk [s0] rows own (rows.length : Int) h) ∧
          (me < i + 1 → ∃ hd, hs'[me]? = some hd ∧ hd.which = own ∧ hd.taken = own ∧ hd.role = .heads (rows.length : Int) none [] ∧ hd.log.len = (rows.length : Int) ∧ (n = 1 → hd.settled = (rows.length : Int)))) → En.nx σ' H') →
        tSeq (tIfS (tTest (tOp rEq (tVar 9) (tVar 6))) (tAsg (tTup (tCons (tVar 7) (tCons (tVar 7) (tCons (tVar 12) (tCons (tVar 11) (tCons (tOp (rIxT K) (tVar 14) (tC (.int 4))) (tCons (tC (.bl true)) (tCons (tTup (tCons (tC (.str "heads")) (tCons (tVar 10) (tCons (tC .non) (tCons (tTup tNil) tNil))))) tNil)))))))) (gName 14)) tNext)
          (tDrop (tBM K "list" rAppend (tVar 8) (tCons (tVar 14) tNil))) En [some (.ref a), some (.int (n : Int)), some (.ref pA), some vg, some (.int (L : Int)), some (.ref rA), some (.int (me : Int)), some (.int own), some (.ref hA), some (.int (i : Int)), some (.int (S : Int)), some (.int (kn2 : Int)), some vl, some (.int tk), some v14] J7 := fun En J7 kn2 B7 x7 r14 rl7 hkk hkS hone hq => by
      have E7 := env10 (a := a) (pA := pA) (rA := rA) (hA := hA) (n := n) (long := L) (me := me) (own := own) (one := i) (σr := [some (.int (S : Int)), some (.int (kn2 : Int)), some vl, some (.int tk), some v14]) (δr := [some (.int (S : Int)), some (.int (kn2 : Int)), some (mkLog [s0] rows cut S).d, some (.int tk), some (House.d ⟨wh, tk, mkLog [s0] rows cut S, (kn : Int), u, .rests⟩)]) B7.g (env_cons rp_int (env_cons rp_int (env_cons rl7 (env_cons rp_int (env_cons r14 env_nil)))))
      have put : ∀ (J8 : Hp) (v : V) (h : House) (τ : St), τ = [some (.ref a), some (.int (n : Int)), some (.ref pA), some vg, some (.int (L : Int)), some (.ref rA), some (.int (me : Int)), some (.int own), some (.ref hA), some (.int (i : Int)), some (.int (S : Int)), some (.int (kn2 : Int)), some vl, some (.int tk), some v] → Ex J7 J8 → Rp J8 h.d v → imm h.d = true → HOk [s0] rows own (rows.length : Int) h →
          (me < i + 1 → ∃ hd, (hs' ++ [h])[me]? = some hd ∧ hd.which = own ∧ hd.taken = own ∧ hd.role = .heads (rows.length : Int) none [] ∧ hd.log.len = (rows.length : Int) ∧ (n = 1 → hd.settled = (rows.length : Int))) → tDrop (tBM K "list" rAppend (tVar 8) (tCons (tVar 14) tNil)) En τ J8 := fun J8 v h τ hτ e8 rh him hk hm => by
        subst hτ
        have B8 := B7.ex e8
        obtain ⟨hv, hH, hrr⟩ := B8.h
        have hvl : hv.length = i := by rw [hrr.length, List.length_map, hlen]
        refine st_app rfl rfl hH (by omega) (hq _ _ ⟨_, _, _, _, _, _, hs' ++ [h], rfl, B8.addh hAP hRA hH rh him, ?_, by rw [List.length_append, hlen]; rfl, fun j x hj => ?_, hm⟩)
        · exact ex_mut (x7.trans e8) hnA0
        · by_cases hjl : j < hs'.length
          · rw [List.getElem?_append_left hjl] at hj
            exact hok j x hj
          · rw [List.getElem?_append_right (by omega)] at hj
            cases hjz : j - hs'.length with
            | zero =>
              rw [hjz] at hj
              have hj : h = x := Option.some.inj hj
              rw [← hj]
              exact hk
            | succ z =>
              rw [hjz] at hj
              cases hj
      by_cases him : i = me
      · have hSL : S = rows.length := by
          have := hS.2.2 him
          omega
        refine st_when (b := decide ((i : Int) = (me : Int))) (et_test (ed_op (ed_var (d := .int (i : Int)) rfl) (ed_var (d := .int (me : Int)) rfl) rd_eqI)) E7 (fun _ J8 e8 => ?_) (fun hb _ _ => absurd (by rw [him]) (of_decide_eq_false hb))
        refine (ed_tup (ds := [.int own, .int own, (mkLog [s0] rows cut S).d, .int (kn2 : Int), .int u, .bl true, .tup [.str "heads", .int (S : Int), .non, .tup []]]) (ea_cons (ed_var (i := 7) rfl) (ea_cons (ed_var (i := 7) rfl) (ea_cons (ed_var (i := 12) rfl) (ea_cons (ed_var (i := 11) rfl) (ea_cons (ed_op (ed_var (i := 14) (d := House.d ⟨wh, tk, mkLog [s0] rows cut S, (kn : Int), u, .rests⟩) rfl) ed_int (rd_ixT' rfl (by decide))) (ea_cons ed_bl (ea_cons (ed_tup (ea_cons ed_str (ea_cons (ed_var (i := 10) rfl) (ea_cons ed_non (ea_cons (ed_tup ea_nil (by simp)) ea_nil)))) (by simp)) ea_nil))))))) (by simp)) _ J8 (E7.mono e8) _ fun v J9 e9 rh => ?_
        refine put J9 v ⟨own, own, mkLog [s0] rows cut S, (kn2 : Int), u, .heads (S : Int) none []⟩ _ rfl (e8.trans e9) rh (imm_house (imm_ss _)) ⟨⟨cut, S, rfl, by omega, hSr, ?_, ?_, fun z => absurd rfl z⟩, Int.le_refl _, Int.le_refl _⟩ fun _ => ⟨_, by rw [← him, ← hlen]; exact List.getElem?_concat_length, rfl, rfl, ?_, ?_, ?_⟩
        · show (cut : Int) ≤ (kn2 : Int)
          omega
        · show (kn2 : Int) ≤ (S : Int)
          omega
        · show Role.heads (S : Int) none [] = _
          rw [hSL]
        · show (mkLog [s0] rows cut S).len = _
          rw [hlog, hSL]
        · intro h1
          show (kn2 : Int) = _
          have := hone him h1
          omega
      · refine st_when (b := decide ((i : Int) = (me : Int))) (et_test (ed_op (ed_var (d := .int (i : Int)) rfl) (ed_var (d := .int (me : Int)) rfl) rd_eqI)) E7 (fun hb _ _ => absurd (of_decide_eq_true hb) (by omega)) (fun _ J8 e8 => ?_)
        refine put J8 v14 ⟨wh, tk, mkLog [s0] rows cut S, (kn : Int), u, .rests⟩ _ rfl e8 (r14.mono e8) him6 ⟨⟨cut, S, rfl, by omega, hSr, ?_, ?_, fun _ => ?_⟩, hwh, ?_⟩ fun hlt => ?_
        · show (cut : Int) ≤ (kn : Int)
          omega
        · show (kn : Int) ≤ (S : Int)
          omega
        · omega
        · show tk ≤ own
          omega
        · obtain ⟨hd, h1, h2⟩ := hhd (by omega)
          exact ⟨hd, by rw [List.getElem?_append_left (by omega)]; exact h1, h2⟩
    have gzs : GS n gz := gb_sets ⟨.inl rfl, fun s hs => by
      rcases List.mem_cons.mp hs with rfl | hs
      · exact hs0
      · cases hs⟩ hrs hgb
    obtain ⟨rv6, hR6, rr6⟩ := B6.r
    have E6 := env10r (a := a) (pA := pA) (rA := rA) (hA := hA) (n := n) (long := L) (me := me) (own := own) (one := i) (σr := [some (.int (S : Int)), some (.int (kn : Int)), some vl, some (.int tk), some v14]) (δr := [some (.int (S : Int)), none, none, none, none]) B6.g hR6 rr6 (env_cons rp_int (env_skip (env_skip (env_skip (env_skip env_nil)))))
    refine st_when (b := decide ((i : Int) = (me : Int)) && isEnough gz [(me : Int)]) (et_and (et_test (ed_op (ed_var (d := .int (i : Int)) rfl) (ed_var (d := .int (me : Int)) rfl) rd_eqI)) (fun _ => et_B (ed_call (ea_cons (ed_call (ea_cons (ed_var (i := 3) (d := grpD [s0]) rfl) (ea_cons (ed_var (i := 5) (d := .lst (rowsD rows)) rfl) ea_nil)) (pr_behind hgb)) (ea_cons (ed_lst (ea_cons (ed_var (i := 6) (d := .int (me : Int)) rfl) ea_nil) (by simp)) ea_nil)) (pr_enough (hs := [(me : Int)]) (gs_ok n6 gzs))))) E6 (fun hb J7 e7 => ?_) (fun hb J7 e7 => ?_)
    · refine ⟨.int (S : Int), rfl, ?_⟩
      exact fin _ J7 S (B6.ex e7) (x6.trans e7) (r6.mono e7) (rl6.mono e7) (by omega) (Nat.le_refl _) (fun _ _ => rfl) fun σ' H' h => h
    · refine fin _ J7 kn (B6.ex e7) (x6.trans e7) (r6.mono e7) (rl6.mono e7) (Nat.le_refl _) (by omega) (fun him h1 => ?_) fun σ' H' h => h
      have hen : isEnough gz [(me : Int)] = true := enough_all gzs fun x h0 hx => by
        have : x = (me : Int) := by omega
        rw [this]
        exact List.mem_cons_self
      rw [hen, Bool.and_true] at hb
      exact absurd (by rw [him]) (of_decide_eq_false hb)
  · rintro σ' H' ⟨a9, a10, a11, a12, a13, a14, hs', rfl, B, xx, hlen, hok, hhd⟩
    rw [Int.toNat_natCast] at hlen hhd
    have hmn : me < n := by omega
    obtain ⟨hd, k1, k2, k3, k4, k5, k6⟩ := hhd hmn
    obtain ⟨hv, b1, b2⟩ := B.h
    obtain ⟨rv', b3, b4⟩ := B.r
    refine ⟨.ref hA, rfl, .int (me : Int), rfl, vg, rfl, .ref rA, rfl, by show 4 ≤ sizeLine; decide, fun sA hnS => ?_⟩
    have ne : ∀ b o, H' b = some o → sA ≠ b := fun b o h z => by
      rw [z, h] at hnS
      cases hnS
    have ex := ex_new (o := .lst [.ref hA, .int (me : Int), vg, .ref rA]) hnS
    exact q sA hA rA vg hv rv' [s0] me own rows hs' _ ⟨n1, n6, hmn, ⟨.inl rfl, fun s hs => by
      rcases List.mem_cons.mp hs with rfl | hs
      · exact hs0
      · cases hs⟩, hown2, hrs, by omega, hlen, ⟨gz, hgb⟩, hok, hd, k1, k2, k3, k4, k5, k6⟩ (xx.trans ex) upd_same (B.g.mono ex) (ex _ _ b1) (b2.mono ex) (ex _ _ b3) (b4.mono ex) (ne _ _ b1) (ne _ _ b3) hRA.symm B.hi
end
end Oa
/-! The law. -/
namespace Oa
open PySem L2
section
variable {σ : St} {H H' : Hp} {δ : DE} {te tb : TE} {ts us : TS} {En : Ends} {p : Addr} {r : R2} {x : V} {S : List Addr}
theorem te_opC {Q : VK} (h : tb σ H fun y H2 => r x y H2 Q) : tOp r (tC x) tb σ H Q := h
theorem st_ifP {P : Int → Prop} {k : Int} (h : EvP te δ p (IntP P)) (E : Env σ H δ) (hp : PotAt H p) (h1 : ∀ H1, LEx p H H1 → PotAt H1 p → ts { En with nx := us En } σ H1) (h2 : ∀ H1, LEx p H H1 → PotAt H1 p → us En σ H1) : tSeq (tIfS (tTest (tOp rEq te (tC (.int k)))) ts tNext) us En σ H :=
  h σ H E hp _ fun v d H1 pd _ e1 hp1 r1 => by
    obtain ⟨z, rfl, _⟩ := pd
    rw [of_int r1]
    refine ⟨rfl, _, rfl, ?_⟩
    show if decide (V.int z = V.int k) = true then ts { En with nx := us En } σ H1 else us En σ H1
    split
    · exact h1 H1 e1 hp1
    · exact h2 H1 e1 hp1
theorem st_drop (h : te σ H fun _ H1 => us En σ H1) : tSeq (tDrop te) us En σ H := h
theorem tex_mex (hS : ∀ a ∈ S, ∃ vs, H a = some (.lst vs)) (e : MEx S H H') : TEx H H' := fun a xs ha => e a _ (fun hm => by
  obtain ⟨vs, h⟩ := hS a hm
  rw [ha] at h
  cases h) ha
theorem Wd.state {p : Pl} {me : Nat} {g : Grp} {rows : List Row} {hs : List House} {ls : List Letter} {vg : V} (W : Wd p me g rows hs ls vg H) : Rp H (stateD hs me g rows) (.ref p.s) := by
  obtain ⟨hv, h1, h2⟩ := W.h
  obtain ⟨rv, h3, h4⟩ := W.r
  exact rp_lst W.s (rs_cons (rp_lst h1 h2) (rs_cons rp_int (rs_cons W.g (rs_cons (rp_lst h3 h4) rs_nil))))
end
def spLaw (K : PySem.W.Frag) : Sp := fun vs H Q _ => ∃ (a : Addr) (ns : List Int), vs = [.ref a] ∧ SqL K H a (ns.map V.int) ∧ ns.length ≤ 63 ∧ ∀ H', Q (.bl true) H'
theorem take_of {E0 : XK} {H1 : Hp} {p : Addr} {Q : VK} {m : Int} (h0 : 0 < m) (h1 : m.natAbs < 1000000) (hp : PotAt H1 p) (q : ∀ z H2, 0 ≤ z → z < m → LEx p H1 H2 → PotAt H2 p → Q (.int z) H2) : spP Cp_take Rp_take ([.ref p, .int m] ++ []) H1 Q E0 :=
  ⟨p, [.ptr p, .int m], rs_cons rp_ptr (rs_cons rp_int rs_nil), ⟨m, rfl, h0, small_log2 h1⟩, hp, fun v d H2 hR _ e2 hp2 r2 => by
    obtain ⟨a, m2, x, eq, rfl, h3, h4⟩ := hR
    injection eq with _ eq
    injection eq with eq _
    injection eq with eq
    subst eq
    rw [of_int r2]
    exact q a H2 h3 h4 e2 hp2⟩
section
variable {P : Program} {w : World} {K : PySem.W.Frag} {mg : Str → Option Value} {base : Heap} (T : Defs K mg)
theorem ok_law : FnOk P w K mg base CX0 7 T.law.f T.law.fd ["_law_script"] (spLaw K) := by
  refine T.law.F.ok sc_law (fun vs H Q E h => by obtain ⟨_, _, rfl, _⟩ := h; rfl) (fun cdv A outer s H vs Q E hr h => ?_)
  refine ⟨_,
    (pss_cons (ps_set (i := 1) sc_law.nd rfl (.inl rfl) (pe_op op_add pe_int (pe_call (ok__law_take T) (hr.mono (by decide)) (by rfl) T._law_take.g T._law_take.F.kp T._law_take.b .nil pass0 (pa_cons (pe_call (ok__law_pot T) (hr.mono (by decide)) (by rfl) T._law_pot.g T._law_pot.F.kp T._law_pot.b .nil pass0 (pa_cons (pe_callB (k_sum (K := K) rfl rfl) (by rfl) T.n_sum bb_sum (pa_cons (pe_slice (k_slL (K := K) rfl) (pv 0) po_none (po_some pe_int)) pa_nil)) (pa_cons pe_int pa_nil))) (pa_cons pe_int pa_nil)))))
    (pss_cons (ps_set (i := 2) sc_law.nd rfl (.inl rfl) (pe_call (ok__law_begun T) (hr.mono (by decide)) (by rfl) T._law_begun.g T._law_begun.F.kp T._law_begun.b .nil pass0 (pa_cons (pv 0) (pa_cons (pv 1) pa_nil))))
    (pss_cons (ps_set (i := 3) sc_law.nd rfl (.inl rfl) (pe_call (ok__law_take T) (hr.mono (by decide)) (by rfl) T._law_take.g T._law_take.F.kp T._law_take.b .nil pass0 (pa_cons (pe_call (ok__law_pot T) (hr.mono (by decide)) (by rfl) T._law_pot.g T._law_pot.F.kp T._law_pot.b .nil pass0 (pa_cons (pe_callB (k_sum (K := K) rfl rfl) (by rfl) T.n_sum bb_sum (pa_cons (pe_slice (k_slL (K := K) rfl) (pv 0) (po_some pe_int) (po_some pe_int)) pa_nil)) (pa_cons pe_int pa_nil))) (pa_cons pe_int pa_nil))))
    (pss_cons (ps_set (i := 4) sc_law.nd rfl (.inl rfl) pe_int)
    (pss_cons (ps_set (i := 5) sc_law.nd rfl (.inl rfl) (pe_lst pa_nil))
    (pss_cons (ps_for PassesOwn.never rfl (k_pienum (K := K) rfl (by rfl) T.n_enumerate (pa_cons (pe_op op_cat (pe_slice (k_slL (K := K) rfl) (pv 0) (po_some pe_int) (po_some pe_int)) (pe_lst (pa_cons (pe_callB (k_len (K := K) rfl) (by rfl) T.n_len bb_len (pa_cons (pv 0) pa_nil)) pa_nil))) pa_nil)) (k_pgT (K := K) (n := 2) rfl (by rfl) (pgs_cons (pg_name (i := 6) sc_law.nd rfl (.inl rfl)) (pgs_cons (pg_name (i := 7) sc_law.nd rfl (.inl rfl)) pgs_nil)))
      (pss_cons (ps_set (i := 8) sc_law.nd rfl (.inl rfl) (pe_call (ok__law_pot T) (hr.mono (by decide)) (by rfl) T._law_pot.g T._law_pot.F.kp T._law_pot.b .nil pass0 (pa_cons (pv 7) (pa_cons (pe_op op_add (pe_op op_mul pe_int (pv 6)) pe_int) pa_nil))))
      (pss_cons (ps_set (i := 9) sc_law.nd rfl (.inl rfl) (pe_callTy (k_list (K := K) rfl) (by rfl) T.n_list bb_list (pa_cons (pe_ix (k_ixL (K := K) rfl) (pv 2) pe_int (fun _ _ => rfl)) pa_nil)))
      (pss_cons (ps_if (pt_cmpR op_eq (pe_call (ok__law_take T) (hr.mono (by decide)) (by rfl) T._law_take.g T._law_take.F.kp T._law_take.b .nil pass0 (pa_cons (pv 8) (pa_cons pe_int pa_nil))) pe_int (nomark _))
        (pss_one (ps_set (i := 4) sc_law.nd rfl (.inl rfl) (pe_op op_add (pe_op op_add (pv 4) pe_int) (pe_call (ok__law_take T) (hr.mono (by decide)) (by rfl) T._law_take.g T._law_take.F.kp T._law_take.b .nil pass0 (pa_cons (pv 8) (pa_cons pe_int pa_nil)))))) pss_nil)
      (pss_cons (ps_expr (pe_call (ok__law_moved T) (hr.mono (by decide)) (by rfl) T._law_moved.g T._law_moved.F.kp T._law_moved.b .nil pass0 (pa_cons (pv 8) (pa_cons (pv 2) (pa_cons (pv 5) (pa_cons (pv 4) (pa_cons (pv 3) pa_nil)))))))
      (pss_one (ps_if (pt_not (pt_val (pe_call (ok__law_right T) (hr.mono (by decide)) (by rfl) T._law_right.g T._law_right.F.kp T._law_right.b .nil pass0 (pa_cons (pv 2) (pa_cons (pv 9) (pa_cons (pv 4) (pa_cons (pv 3) pa_nil)))))))
        (pss_one (ps_ret pe_bl)) pss_nil)))))))
    (pss_one (ps_ret (pe_call (ok__law_ends T) (hr.mono (by decide)) (by rfl) T._law_ends.g T._law_ends.F.kp T._law_ends.b .nil pass0 (pa_cons (pv 2) (pa_cons (pv 4) (pa_cons (pv 3) pa_nil)))))))))))), ?_⟩
  obtain ⟨a, ns, rfl, hs, hns, q⟩ := h
  refine st_val (te_opC (te_callr (ta_next (te_callr (ta_next (te_sum rfl hs (fun Q q => no_part q) (fun Q q => a_part q) fun k0 H1 e1 => ⟨k0, 40, rfl, fun pA H2 e2 hn2 hp2 => take_of (E0 := L2.E0) (by decide) (by decide) hp2 fun z H3 hz0 hz1 e3 hp3 => ⟨1, z, rfl, rfl, ?_⟩⟩))))))
  obtain ⟨n0, rfl⟩ := Int.eq_ofNat_of_zero_le hz0
  have x3 : Ex H H3 := ex_lexN (e1.trans e2) (e1.free hn2) e3
  have hen : (1 : Int) + (n0 : Int) = ((n0 + 1 : Nat) : Int) := by omega
  clear e1 e2 hn2 hp2 e3 hp3
  refine st_val (te_callr ⟨.ref a, rfl, .int (1 + (n0 : Int)), rfl, a, ns, n0 + 1, by rw [hen]; rfl, x3.seq hs, by omega, by omega, fun sA hA rA vg hv rv g me own rows hs0 H4 beg x4 hS rg hH rH hR rR nSH nSR nHR himm => ?_⟩)
  have x4 := x3.trans x4
  refine st_val (te_callr (ta_next (te_callr (ta_next (te_sum rfl (x4.seq hs) (fun Q q => a_part q) (fun Q q => a_part q) fun k0 H5 e5 => ⟨k0, 42, rfl, fun pL H6 e6 hn6 hp6 => take_of (E0 := L2.E0) (by decide) (by decide) hp6 fun lease H7 hl0 hl1 e7 hp7 => ?_⟩)))))
  have x46 : Ex H4 H6 := e5.trans e6
  have hnL : H4 pL = none := e5.free hn6
  have x47 : Ex H4 H7 := ex_lexN x46 hnL e7
  have neL : ∀ b o, H4 b = some o → pL ≠ b := fun b o h z => by
    rw [z, h] at hnL
    cases hnL
  refine st_val (st_val ⟨by show 0 ≤ sizeLine; omega, fun lA hnl => ?_⟩)
  have x8 := x47.trans (ex_new (o := .lst []) hnl)
  have nel : ∀ b o, H7 b = some o → lA ≠ b := fun b o h z => by
    rw [z, h] at hnl
    cases hnl
  have hpl := hp7
  obtain ⟨pu, pv, hpuv⟩ := hp7
  have k : PlOk ⟨pL, sA, hA, rA, lA⟩ := ⟨neL _ _ hS, neL _ _ hH, neL _ _ hR, (nel _ _ hpuv).symm, nSH, nSR, (nel _ _ (x47 _ _ hS)).symm, nHR, (nel _ _ (x47 _ _ hH)).symm, (nel _ _ (x47 _ _ hR)).symm⟩
  have W8 : Wd ⟨pL, sA, hA, rA, lA⟩ me g rows hs0 [] vg (upd H7 lA (.lst [])) := ⟨x8 _ _ hS, rg.mono x8, ⟨hv, x8 _ _ hH, rH.mono x8⟩, ⟨rv, x8 _ _ hR, rR.mono x8⟩, ⟨[], upd_same, rs_nil⟩, hpl.ex (ex_new hnl), himm, rfl⟩
  have hs8 : SqL K (upd H7 lA (.lst [])) a (ns.map V.int) := (x4.trans x8).seq hs
  generalize upd H7 lA (.lst []) = H8 at W8 hs8
  obtain ⟨hd0, gz0, I0⟩ := beg.inv lease
  have f := beg.fix lease
  generalize hF : (⟨g, n0 + 1, me, own, (rows.length : Int), lease⟩ : Fix) = F at I0 f
  have hFg : F.g = g := by rw [← hF]
  have hFm : F.me = me := by rw [← hF]
  have hFl : F.lease = lease := by rw [← hF]
  subst hFg hFm hFl
  clear hF beg rg rH rR himm x8 x46 x47 x4 hS hH hR
  have hsig : ([some (.ref a), some (.int (1 + (n0 : Int))), some (.ref sA), some (.int F.lease), some (.int 0), some (.ref lA), none, none, none, none] : St) = [some (.ref a), some (.int (1 + (n0 : Int))), some (.ref (⟨pL, sA, hA, rA, lA⟩ : Pl).s), some (.int F.lease), some (.int 0), some (.ref (⟨pL, sA, hA, rA, lA⟩ : Pl).l), none, none, none, none] := rfl
  generalize (⟨pL, sA, hA, rA, lA⟩ : Pl) = p at k W8 hsig
  have hcut : cutV (ns.map V.int) (some 2) (some 63) = ((ns.drop (HT.sIx (ns.map V.int).length 0 (some 2))).take (HT.sIx (ns.map V.int).length (ns.map V.int).length (some 63) - HT.sIx (ns.map V.int).length 0 (some 2))).map V.int := by
    unfold cutV
    rw [List.map_take, List.map_drop]
  refine ⟨.ref a, rfl, 2, rfl, 63, rfl, a, _, rfl, hs8, fun c1 hc1 => ?_⟩
  rw [hcut]
  generalize hcs : (ns.drop (HT.sIx (ns.map V.int).length 0 (some 2))).take (HT.sIx (ns.map V.int).length (ns.map V.int).length (some 63) - HT.sIx (ns.map V.int).length 0 (some 2)) = cs
  have hcl : cs.length ≤ 63 := by
    rw [← hcs, List.length_take, List.length_drop]
    omega
  clear hcs hcut
  have W9 := W8.ex (ex_new (o := .lst (cs.map V.int)) hc1)
  have hs9 := (ex_new (o := .lst (cs.map V.int)) hc1).seq hs8
  have hc9 : upd H8 c1 (.lst (cs.map V.int)) c1 = some (.lst (cs.map V.int)) := upd_same
  generalize upd H8 c1 (.lst (cs.map V.int)) = H9 at W9 hs9 hc9
  refine ⟨.ref a, rfl, a, ns.map V.int, rfl, .inl hs9, by show 1 ≤ sizeLine; decide, fun c2 hc2 => ?_⟩
  have hc10 := (ex_new (o := .lst [.int ((ns.map V.int).length : Int)]) hc2) _ _ hc9
  have W10 := W9.ex (ex_new (o := .lst [.int ((ns.map V.int).length : Int)]) hc2)
  have hd10 : upd H9 c2 (.lst [.int ((ns.map V.int).length : Int)]) c2 = some (.lst [.int ((ns.map V.int).length : Int)]) := upd_same
  generalize upd H9 c2 (.lst [.int ((ns.map V.int).length : Int)]) = H10 at W10 hc10 hd10
  refine ⟨c1, c2, cs.map V.int, _, rfl, rfl, hc10, hd10, sz1000 (by
    rw [List.length_map]
    show cs.length + 1 ≤ 1000
    omega), fun eA heA => ?_⟩
  have hxs : cs.map V.int ++ [.int ((ns.map V.int).length : Int)] = (cs ++ [((ns.map V.int).length : Int)]).map V.int := by
    rw [List.map_append]
    rfl
  rw [hxs]
  have hxl : (cs ++ [((ns.map V.int).length : Int)]).length ≤ 64 := by
    rw [List.length_append]
    show cs.length + 1 ≤ 64
    omega
  generalize cs ++ [((ns.map V.int).length : Int)] = xs at hxl
  have neE : ∀ b o, H10 b = some o → eA ≠ b := fun b o h z => by
    rw [z, h] at heA
    cases heA
  obtain ⟨hv10, hh10, _⟩ := W10.h
  obtain ⟨rv10, hr10, _⟩ := W10.r
  obtain ⟨lv10, hl10, _⟩ := W10.l
  have nEh := neE _ _ hh10
  have nEr := neE _ _ hr10
  have nEl := neE _ _ hl10
  have W11 := W10.ex (ex_new (o := .lst (xs.map V.int)) heA)
  have hE11 : upd H10 eA (.lst (xs.map V.int)) eA = some (.lst (xs.map V.int)) := upd_same
  generalize upd H10 eA (.lst (xs.map V.int)) = H11 at W11 hE11
  clear hh10 hr10 hl10 hc10 hd10 hc9 hs9 hs8 hc1 hc2 heA neE
  refine ⟨eA, xs.map V.int, rfl, SqL.of hE11, for_it (walk_enum (K := K) (a := eA) (xs := xs.map V.int)) (fun i σ' H' => ∃ time a6 a7 a8 a9 rows hs ls hd stamp acks gz, σ' = [some (.ref a), some (.int (1 + (n0 : Int))), some (.ref p.s), some (.int F.lease), some (.int time), some (.ref p.l), a6, a7, a8, a9] ∧ Inv F i rows hs ls time hd stamp acks gz ∧ Wd p F.me F.g rows hs ls vg H' ∧ H' eA = some (.lst (xs.map V.int)))
    ⟨0, none, none, none, none, rows, hs0, [], hd0, none, [], gz0, hsig, I0, W11, hE11⟩ (fun _ _ _ _ z => by
      obtain ⟨_, _, _, _, _, _, _, _, _, _, _, _, _, _, _, z⟩ := z
      exact SqL.of z) ?_ ?_⟩
  · rintro i x σ' H' H'' hi ⟨time, a6, a7, a8, a9, rows, hs, ls, hd, stamp, acks, gz, rfl, I, W, hE⟩ ⟨tp, x', y', rfl, htp, rfl, hx, hy⟩
    have hi64 : i < 64 := by
      rw [List.length_map] at hi
      omega
    cases hx
    have hy : (xs.map V.int)[i]? = some y' := hy
    rw [List.getElem?_map] at hy
    obtain ⟨c, hc⟩ : ∃ c, xs[i]? = some c := ⟨_, List.getElem?_eq_getElem (by rw [List.length_map] at hi; exact hi)⟩
    rw [hc] at hy
    cases hy
    have ht1 : upd H' tp (.tup [.int (i : Int), .int c]) tp = some (.tup [.int (i : Int), .int c]) := upd_same
    have W1 := W.ex (ex_new (o := .tup [.int (i : Int), .int c]) htp)
    have hE1 := (ex_new (o := .tup [.int (i : Int), .int c]) htp) _ _ hE
    generalize upd H' tp (.tup [.int (i : Int), .int c]) = J1 at ht1 W1 hE1
    refine ⟨tp, _, rfl, SqT.of ht1, rfl, _, _, rfl, _, _, rfl, rfl, ?_⟩
    refine st_val (te_call (ds := [.int c, .int (43 * (i : Int) + 44)]) (δ := [none, none, none, none, none, none, some (.int (i : Int)), some (.int c), none, none]) (ea_cons (ed_var (i := 7) rfl) (ea_cons (ed_op (ed_op ed_int (ed_var (i := 6) (d := .int (i : Int)) rfl) (rd_mul (i := 43) (Or.inl (by decide)))) ed_int rd_ii) ea_nil)) (env_skip (env_skip (env_skip (env_skip (env_skip (env_skip (env_cons rp_int (env_cons rp_int (env_skip (env_skip env_nil)))))))))) fun us J2 e2 r2 => ?_)
    obtain ⟨u1, r0, rfl, ru1, r2⟩ := of_cons r2
    obtain ⟨u2, r0, rfl, ru2, r2⟩ := of_cons r2
    rw [of_nil r2, of_int ru1, of_int ru2]
    refine ⟨_, _, rfl, fun tN J3 e3 hnN hpN => ?_⟩
    have W3 := (W1.ex e2).ex e3
    have hE3 := e3 _ _ (e2 _ _ hE1)
    have neN : ∀ b o, J2 b = some o → tN ≠ b := fun b o h z => by
      rw [z, h] at hnN
      cases hnN
    have W2 := W1.ex e2
    have kN : PlOk { p with t := tN } := by
      obtain ⟨v1, h1, _⟩ := W2.h
      obtain ⟨v2, h2, _⟩ := W2.r
      obtain ⟨v3, h3, _⟩ := W2.l
      exact ⟨neN _ _ W2.s, neN _ _ h1, neN _ _ h2, neN _ _ h3, k.sh, k.sr, k.sl, k.hr, k.hl, k.rl⟩
    have nNE : tN ≠ eA := neN _ _ (e2 _ _ hE1)
    have nNt : tN ≠ p.t := by
      obtain ⟨u, v, h⟩ := W2.t
      exact neN _ _ h
    clear neN hnN e2 e3 ru1 ru2 r2 hE1 ht1
    obtain ⟨hv3, hh3, rh3⟩ := W3.h
    refine st_val ⟨.ref p.s, rfl, p.s, _, 0, .ref p.h, rfl, rfl, SqL.of W3.s, rfl, p.h, hv3, rfl, .inl (SqL.of hh3), fun bA hbA => ?_⟩
    have neB : ∀ b o, J3 b = some o → bA ≠ b := fun b o h z => by
      rw [z, h] at hbA
      cases hbA
    have nBt : bA ≠ tN := by
      obtain ⟨u, v, h⟩ := hpN
      exact neB _ _ h
    have nBh := neB _ _ hh3
    have nBr : bA ≠ p.r := by
      obtain ⟨u, h, _⟩ := W3.r
      exact neB _ _ h
    have nBl : bA ≠ p.l := by
      obtain ⟨u, h, _⟩ := W3.l
      exact neB _ _ h
    have ex4 := ex_new (o := .lst hv3) hbA
    have W4 := W3.ex ex4
    have hE4 := ex4 _ _ hE3
    have hB4 : upd J3 bA (.lst hv3) bA = some (.lst hv3) := upd_same
    have rh4 := rh3.mono ex4
    have hp4 := hpN.ex ex4
    generalize upd J3 bA (.lst hv3) = J4 at W4 hE4 hB4 rh4 hp4
    clear neB ex4 hbA hpN rh3 hh3 hE3
    have fin : ∀ (En : Ends) (J5 : Hp) (t2 : Int), time ≤ t2 → LEx tN J4 J5 → PotAt J5 tN → (∀ σ2 H2, (∃ time a6 a7 a8 a9 rows hs ls hd stamp acks gz, σ2 = [some (.ref a), some (.int (1 + (n0 : Int))), some (.ref p.s), some (.int F.lease), some (.int time), some (.ref p.l), a6, a7, a8, a9] ∧ Inv F (i + 1) rows hs ls time hd stamp acks gz ∧ Wd p F.me F.g rows hs ls vg H2 ∧ H2 eA = some (.lst (xs.map V.int))) → En.nx σ2 H2) →
        tSeq (tDrop (tCall spMoved [] L2.E0 (tCons (tVar 8) (tCons (tVar 2) (tCons (tVar 5) (tCons (tVar 4) (tCons (tVar 3) tNil)))))))
          (tIfS (tNot (tB (tCall (spR Rp_right) [] L2.E0 (tCons (tVar 2) (tCons (tVar 9) (tCons (tVar 4) (tCons (tVar 3) tNil))))))) (tRet (tC (.bl false))) tNext) En
          [some (.ref a), some (.int (1 + (n0 : Int))), some (.ref p.s), some (.int F.lease), some (.int t2), some (.ref p.l), some (.int (i : Int)), some (.int c), some (.ref tN), some (.ref bA)] J5 := fun En J5 t2 ht2 e5 hp5 hq => by
      have W5 : Wd { p with t := tN } F.me F.g rows hs ls vg J5 := (show Wd { p with t := tN } F.me F.g rows hs ls vg J4 from ⟨W4.s, W4.g, W4.h, W4.r, W4.l, hp4, W4.hi, W4.li⟩).lex kN e5 hp5
      have hE5 := e5 _ _ nNE.symm hE4
      have hB5 := e5 _ _ nBt hB4
      have rh5 := rh4.keep (pot_tex hp4 e5) W4.hi
      have ht5 : PotAt J5 p.t := by
        obtain ⟨u, v, h⟩ := W4.t
        exact ⟨u, v, e5 _ _ nNt.symm h⟩
      refine st_drop ⟨.ref tN, rfl, .ref p.s, rfl, .ref p.l, rfl, .int t2, rfl, .int F.lease, rfl, ?_⟩
      refine ⟨F, i, rows, hs, ls, t2, hd, stamp, acks, gz, { p with t := tN }, vg, rfl, f, I.later ht2, by omega, kN, W5, fun J6 rows' hs' ls' hd' stamp' acks' gz' I' R' W' x6 => ?_⟩
      have te6 : TEx J5 J6 := tex_mex (S := [tN, p.h, p.r, p.l]) (fun b hb => by
        obtain ⟨v1, h1, _⟩ := W5.h
        obtain ⟨v2, h2, _⟩ := W5.r
        obtain ⟨v3, h3, _⟩ := W5.l
        obtain ⟨u, v, h4⟩ := hp5
        simp at hb
        rcases hb with rfl | rfl | rfl | rfl
        · exact ⟨_, h4⟩
        · exact ⟨_, h1⟩
        · exact ⟨_, h2⟩
        · exact ⟨_, h3⟩) x6
      have hE6 : J6 eA = some (.lst (xs.map V.int)) := x6 _ _ (by simp; exact ⟨nNE.symm, nEh, nEr, nEl⟩) hE5
      have hB6 : J6 bA = some (.lst hv3) := x6 _ _ (by simp; exact ⟨nBt, nBh, nBr, nBl⟩) hB5
      have rh6 := rh5.keep te6 W4.hi
      have ht6 : PotAt J6 p.t := by
        obtain ⟨u, v, h⟩ := ht5
        exact ⟨u, v, x6 _ _ (by simp; exact ⟨nNt.symm, k.th, k.tr, k.tl⟩) h⟩
      have W6 : Wd p F.me F.g rows' hs' ls' vg J6 := ⟨W'.s, W'.g, W'.h, W'.r, W'.l, ht6, W'.hi, W'.li⟩
      refine st_if (δ := [none, none, some (stateD hs' F.me F.g rows'), some (.int F.lease), some (.int t2), none, none, none, none, some (housesD hs)]) (b := !true) (et_not (et_B (ed_call (ea_cons (ed_var (i := 2) rfl) (ea_cons (ed_var (i := 9) rfl) (ea_cons (ed_var (i := 4) rfl) (ea_cons (ed_var (i := 3) rfl) ea_nil)))) (pr_right R')))) (env_skip (env_skip (env_cons W6.state (env_cons rp_int (env_cons rp_int (env_skip (env_skip (env_skip (env_skip (env_cons (rp_lst hB6 rh6) env_nil)))))))))) (fun z => nomatch z) (fun _ J7 e7 => ?_)
      exact hq _ _ ⟨_, _, _, _, _, rows', hs', ls', hd', stamp', acks', gz', rfl, I', W6.ex e7, e7 _ _ hE6⟩
    have EP : ∀ J : Hp, Env [some (.ref a), some (.int (1 + (n0 : Int))), some (.ref p.s), some (.int F.lease), some (.int time), some (.ref p.l), some (.int (i : Int)), some (.int c), some (.ref tN), some (.ref bA)] J [none, none, none, none, some (.int time), none, none, none, some (.ptr tN), none] := fun J =>
      env_skip (env_skip (env_skip (env_skip (env_cons rp_int (env_skip (env_skip (env_skip (env_cons rp_ptr (env_skip env_nil)))))))))
    refine st_ifP (ep_takeC (m := 5) rfl rfl (by decide) (by decide)) (EP J4) hp4 (fun J5 e5 hp5 => ?_) (fun J5 e5 hp5 => ?_)
    · refine (ep_op (P := IntP fun z => time ≤ z) (Px := (· = .int (time + 1))) (Py := IntP fun z => 0 ≤ z ∧ z < 4) rfl (ep_of (ed_op (ed_var (i := 4) (d := .int time) rfl) ed_int rd_ii) rfl) (ep_takeC rfl rfl (by decide) (by decide)) ?_) _ J5 (EP J5) hp5 _ fun v d J6 pd _ e6 hp6 r6 => ?_
      · rintro x y rfl ⟨z, rfl, hz⟩
        exact ⟨_, rd_ii, rfl, _, rfl, by omega⟩
      · obtain ⟨t2, rfl, ht2⟩ := pd
        rw [of_int r6]
        exact fin _ J6 t2 ht2 (e5.trans e6) hp6 fun σ2 H2 h => h
    · exact fin _ J5 time (Int.le_refl _) e5 hp5 fun σ2 H2 h => h
  · rintro σ' H' ⟨time, a6, a7, a8, a9, rows, hs, ls, hd, stamp, acks, gz, rfl, I, W, hE⟩
    refine ⟨.ref p.s, rfl, .int time, rfl, .int F.lease, rfl, F, _, rows, hs, ls, time, hd, stamp, acks, gz, p, vg, rfl, f, I, by rw [List.length_map]; omega, k, W, fun H2 => q H2⟩
end
end Oa
/-! The end. -/
namespace Oa
open PySem L2
def def_mk {K : PySem.W.Frag} {h : Heap} {mg : Str → Option Value} {x : Str} {st : Stmt} {ps : List Str} {f : Addr} {oc : Value} {od an : Option Addr} {osl : Array (Option Value)} {kV doc pm cdv ct : Value} (X : K.In h) (G : h.Ns mainGlobals mg)
    (hb : ∀ (kV doc pm : Value) (an : Option Addr) (cdv ct : Value) (us : List Value), us.length = ps.length → bindArgs (PySem.W.fnOf x x (defArgs st) (defBody st) (defScope st) .none kV doc pm an cdv ct) ⟨us, []⟩ = pure (ps.zip us))
    (a : PySem.W.nsIn K mainGlobals x = some (some (.ref f))) (l : K.lookup f = some ⟨oc, od, .func (PySem.W.fnOf x x (defArgs st) (defBody st) (defScope st) .none kV doc pm an cdv ct), osl⟩)
    (c : PySem.W.codeIn K cdv x = true) (k : PySem.W.keepIn K (.ref f) = true) : DefAt K mg x st ps := ⟨f, _, fun_mk l c k, (fun_mk l c k).binds hb, PySem.W.mg_of X G a⟩
theorem with_def {K : PySem.W.Frag} {h : Heap} {mg : Str → Option Value} {goal : Prop} (x : Str) (st : Stmt) (ps : List Str) {f : Addr} {oc : Value} {od an : Option Addr} {osl : Array (Option Value)} {kV doc pm cdv ct : Value} (X : K.In h) (G : h.Ns mainGlobals mg)
    (hb : ∀ (kV doc pm : Value) (an : Option Addr) (cdv ct : Value) (us : List Value), us.length = ps.length → bindArgs (PySem.W.fnOf x x (defArgs st) (defBody st) (defScope st) .none kV doc pm an cdv ct) ⟨us, []⟩ = pure (ps.zip us))
    (a : PySem.W.nsIn K mainGlobals x = some (some (.ref f))) (l : K.lookup f = some ⟨oc, od, .func (PySem.W.fnOf x x (defArgs st) (defBody st) (defScope st) .none kV doc pm an cdv ct), osl⟩)
    (c : PySem.W.codeIn K cdv x = true) (k : PySem.W.keepIn K (.ref f) = true) (rest : DefAt K mg x st ps → goal) : goal := rest (def_mk X G hb a l c k)
theorem with_none {K : PySem.W.Frag} {h : Heap} {mg : Str → Option Value} {goal : Prop} (x : Str) (X : K.In h) (G : h.Ns mainGlobals mg) (a : PySem.W.nsIn K mainGlobals x = some none) (rest : mg x = none → goal) : goal := rest (PySem.W.mg_none_of X G a)
theorem with_int {K : PySem.W.Frag} {h : Heap} {mg : Str → Option Value} {goal : Prop} (x : Str) {i : Int} {t : Tok} (X : K.In h) (G : h.Ns mainGlobals mg) (a : PySem.W.nsIn K mainGlobals x = some (some (.int i t))) (rest : (∃ t, mg x = some (.int i t)) → goal) : goal := rest ⟨t, PySem.W.mg_of X G a⟩
theorem end_mk {l : PySem.W.OpenLaw} {w : World} {K : PySem.W.Frag} {mg : Str → Option Value} {fa : Addr} (T : Defs K mg) (hfa : mg "law" = some (.ref fa)) :
    ∃ fd : FuncData, (∀ (s : Shared) (v : Value), BindsTo s fd ⟨[v], []⟩ [("_law_script", v)]) ∧ ∀ base : Heap, K.In base → base.Ns mainGlobals mg → FnOk l.prog w K mg base CX0 7 fa fd ["_law_script"] (spLaw K) := by
  have e := hfa.symm.trans T.law.g
  cases e
  refine ⟨T.law.fd, fun s v => ?_, fun base _ _ => ok_law T⟩
  obtain ⟨oc, od, kV, doc, pm, an, cdv, ct, osl, e, lk, hcd⟩ := T.law.F.ex
  rw [e]
  exact .of_eq rfl
theorem walk {l : PySem.W.OpenLaw} {q : Program} {loose : List Str} {XP : (Str → Option Value) → Heap → Prop} {YP : World → Heap → Prop} {d : DefRec} {K : Params → PySem.W.Frag} (hn : l.most = some 63) (hdf : d.params.defaults = [])
    (hY : ∀ (w : World) (h : Heap), YP w h → (K w.params).In h)
    (F : ∀ (w : World) (mg : Str → Option Value) (fa : Addr) (h : Heap), (K w.params).In h → h.Ns mainGlobals mg → mg d.name = some (.ref fa) →
      ∃ fd : FuncData, (∀ (s : Shared) (u : Value), BindsTo s fd ⟨[u], []⟩ [("_law_script", u)]) ∧ ∀ base : Heap, (K w.params).In base → base.Ns mainGlobals mg → FnOk l.prog w (K w.params) mg base CX0 7 fa fd ["_law_script"] (spLaw (K w.params))) :
    PySem.W.WalkO q loose XP YP l.row.toRowW d [] (fun f vs => PySem.call f vs) :=
  L2.walk_of (n := 63) (k := 7) (x := "_law_script") (CX := fun _ => CX0) (sp := fun w => spLaw (K w.params)) hn (by decide) hdf ⟨rfl, by decide, by decide⟩ hY F (fun _ _ a ns hl _ hS => ⟨a, ns, rfl, hS, hl, fun _ => rfl⟩) fun _ _ _ _ _ z => z
end Oa
open PySem PySem.W PyProof.Rows
set_option maxRecDepth 100000 in
set_option maxHeartbeats 0 in
theorem PySem.Challenge.cw_oathlog_k92_whole_held_and_leased_holds : PySem.Challenge.rw_oathlog_k92_whole_held_and_leased.Holds := by
  w_on; o_law; k_head; (case hw => w_witness2)
  k_fill
  refine Oa.walk (l := PySem.Challenge.rw_oathlog_k92_whole_held_and_leased) rfl rfl (fun w h Y => PySem.W.kIn_of Y) ?F
  case F =>
    intro w mg fa h KX G hmg
    refine' Oa.with_def "is_enough" Oa.s_is_enough ["group", "houses"] KX G (fun _ _ _ _ _ _ us hl => match us, hl with | [_, _], _ => rfl) ?a0 ?l0 ?c0 ?k0 ?rest0
    (case a0 => k_is)
    (case l0 => k_is)
    (case c0 => k_is)
    (case k0 => k_is)
    case' rest0 => intro d0
    refine' Oa.with_def "group_after" Oa.s_group_after ["group", "row"] KX G (fun _ _ _ _ _ _ us hl => match us, hl with | [_, _], _ => rfl) ?a1 ?l1 ?c1 ?k1 ?rest1
    (case a1 => k_is)
    (case l1 => k_is)
    (case c1 => k_is)
    (case k1 => k_is)
    case' rest1 => intro d1
    refine' Oa.with_def "group_behind" Oa.s_group_behind ["group", "rows"] KX G (fun _ _ _ _ _ _ us hl => match us, hl with | [_, _], _ => rfl) ?a2 ?l2 ?c2 ?k2 ?rest2
    (case a2 => k_is)
    (case l2 => k_is)
    (case c2 => k_is)
    (case k2 => k_is)
    case' rest2 => intro d2
    refine' Oa.with_def "mark" Oa.s_mark ["rows"] KX G (fun _ _ _ _ _ _ us hl => match us, hl with | [_], _ => rfl) ?a3 ?l3 ?c3 ?k3 ?rest3
    (case a3 => k_is)
    (case l3 => k_is)
    (case c3 => k_is)
    (case k3 => k_is)
    case' rest3 => intro d3
    refine' Oa.with_def "length" Oa.s_length ["log"] KX G (fun _ _ _ _ _ _ us hl => match us, hl with | [_], _ => rfl) ?a4 ?l4 ?c4 ?k4 ?rest4
    (case a4 => k_is)
    (case l4 => k_is)
    (case c4 => k_is)
    (case k4 => k_is)
    case' rest4 => intro d4
    refine' Oa.with_def "log_group" Oa.s_log_group ["log"] KX G (fun _ _ _ _ _ _ us hl => match us, hl with | [_], _ => rfl) ?a5 ?l5 ?c5 ?k5 ?rest5
    (case a5 => k_is)
    (case l5 => k_is)
    (case c5 => k_is)
    (case k5 => k_is)
    case' rest5 => intro d5
    refine' Oa.with_def "log_mark" Oa.s_log_mark ["log"] KX G (fun _ _ _ _ _ _ us hl => match us, hl with | [_], _ => rfl) ?a6 ?l6 ?c6 ?k6 ?rest6
    (case a6 => k_is)
    (case l6 => k_is)
    (case c6 => k_is)
    (case k6 => k_is)
    case' rest6 => intro d6
    refine' Oa.with_def "put" Oa.s_put ["log", "row"] KX G (fun _ _ _ _ _ _ us hl => match us, hl with | [_, _], _ => rfl) ?a7 ?l7 ?c7 ?k7 ?rest7
    (case a7 => k_is)
    (case l7 => k_is)
    (case c7 => k_is)
    (case k7 => k_is)
    case' rest7 => intro d7
    refine' Oa.with_def "reads_until" Oa.s_reads_until ["house", "me", "lease"] KX G (fun _ _ _ _ _ _ us hl => match us, hl with | [_, _, _], _ => rfl) ?a8 ?l8 ?c8 ?k8 ?rest8
    (case a8 => k_is)
    (case l8 => k_is)
    (case c8 => k_is)
    (case k8 => k_is)
    case' rest8 => intro d8
    refine' Oa.with_def "may_read" Oa.s_may_read ["house", "me", "time", "lease"] KX G (fun _ _ _ _ _ _ us hl => match us, hl with | [_, _, _, _], _ => rfl) ?a9 ?l9 ?c9 ?k9 ?rest9
    (case a9 => k_is)
    (case l9 => k_is)
    (case c9 => k_is)
    (case k9 => k_is)
    case' rest9 => intro d9
    refine' Oa.with_def "may_put" Oa.s_may_put ["house", "row"] KX G (fun _ _ _ _ _ _ us hl => match us, hl with | [_, _], _ => rfl) ?a10 ?l10 ?c10 ?k10 ?rest10
    (case a10 => k_is)
    (case l10 => k_is)
    (case c10 => k_is)
    (case k10 => k_is)
    case' rest10 => intro d10
    refine' Oa.with_def "owner" Oa.s_owner ["which", "many"] KX G (fun _ _ _ _ _ _ us hl => match us, hl with | [_, _], _ => rfl) ?a11 ?l11 ?c11 ?k11 ?rest11
    (case a11 => k_is)
    (case l11 => k_is)
    (case c11 => k_is)
    (case k11 => k_is)
    case' rest11 => intro d11
    refine' Oa.with_def "settled_anew" Oa.s_settled_anew ["house", "me"] KX G (fun _ _ _ _ _ _ us hl => match us, hl with | [_, _], _ => rfl) ?a12 ?l12 ?c12 ?k12 ?rest12
    (case a12 => k_is)
    (case l12 => k_is)
    (case c12 => k_is)
    (case k12 => k_is)
    case' rest12 => intro d12
    refine' Oa.with_def "sent" Oa.s_sent ["house", "time", "lease"] KX G (fun _ _ _ _ _ _ us hl => match us, hl with | [_, _, _], _ => rfl) ?a13 ?l13 ?c13 ?k13 ?rest13
    (case a13 => k_is)
    (case l13 => k_is)
    (case c13 => k_is)
    (case k13 => k_is)
    case' rest13 => intro d13
    refine' Oa.with_def "told" Oa.s_told ["house", "me", "many", "letter", "lease"] KX G (fun _ _ _ _ _ _ us hl => match us, hl with | [_, _, _, _, _], _ => rfl) ?a14 ?l14 ?c14 ?k14 ?rest14
    (case a14 => k_is)
    (case l14 => k_is)
    (case c14 => k_is)
    (case k14 => k_is)
    case' rest14 => intro d14
    refine' Oa.with_def "acks_with" Oa.s_acks_with ["acks", "one", "count", "time"] KX G (fun _ _ _ _ _ _ us hl => match us, hl with | [_, _, _, _], _ => rfl) ?a15 ?l15 ?c15 ?k15 ?rest15
    (case a15 => k_is)
    (case l15 => k_is)
    (case c15 => k_is)
    (case k15 => k_is)
    case' rest15 => intro d15
    refine' Oa.with_def "counted" Oa.s_counted ["house", "me", "letter"] KX G (fun _ _ _ _ _ _ us hl => match us, hl with | [_, _, _], _ => rfl) ?a16 ?l16 ?c16 ?k16 ?rest16
    (case a16 => k_is)
    (case l16 => k_is)
    (case c16 => k_is)
    (case k16 => k_is)
    case' rest16 => intro d16
    refine' Oa.with_def "written" Oa.s_written ["house", "me", "row"] KX G (fun _ _ _ _ _ _ us hl => match us, hl with | [_, _, _], _ => rfl) ?a17 ?l17 ?c17 ?k17 ?rest17
    (case a17 => k_is)
    (case l17 => k_is)
    (case c17 => k_is)
    (case k17 => k_is)
    case' rest17 => intro d17
    refine' Oa.with_def "_law_pot" Oa.s__law_pot ["_law_cell", "_law_salt"] KX G (fun _ _ _ _ _ _ us hl => match us, hl with | [_, _], _ => rfl) ?a18 ?l18 ?c18 ?k18 ?rest18
    (case a18 => k_is)
    (case l18 => k_is)
    (case c18 => k_is)
    (case k18 => k_is)
    case' rest18 => intro d18
    refine' Oa.with_def "_law_take" Oa.s__law_take ["_law_pot_here", "_law_many"] KX G (fun _ _ _ _ _ _ us hl => match us, hl with | [_, _], _ => rfl) ?a19 ?l19 ?c19 ?k19 ?rest19
    (case a19 => k_is)
    (case l19 => k_is)
    (case c19 => k_is)
    (case k19 => k_is)
    case' rest19 => intro d19
    refine' Oa.with_def "_law_number" Oa.s__law_number ["_law_pot_here"] KX G (fun _ _ _ _ _ _ us hl => match us, hl with | [_], _ => rfl) ?a20 ?l20 ?c20 ?k20 ?rest20
    (case a20 => k_is)
    (case l20 => k_is)
    (case c20 => k_is)
    (case k20 => k_is)
    case' rest20 => intro d20
    refine' Oa.with_def "_law_same" Oa.s__law_same ["_law_found", "_law_due"] KX G (fun _ _ _ _ _ _ us hl => match us, hl with | [_, _], _ => rfl) ?a21 ?l21 ?c21 ?k21 ?rest21
    (case a21 => k_is)
    (case l21 => k_is)
    (case c21 => k_is)
    (case k21 => k_is)
    case' rest21 => intro d21
    refine' Oa.with_def "_law_set" Oa.s__law_set ["_law_pot_here", "_law_many"] KX G (fun _ _ _ _ _ _ us hl => match us, hl with | [_, _], _ => rfl) ?a22 ?l22 ?c22 ?k22 ?rest22
    (case a22 => k_is)
    (case l22 => k_is)
    (case c22 => k_is)
    (case k22 => k_is)
    case' rest22 => intro d22
    refine' Oa.with_def "_law_deed" Oa.s__law_deed ["_law_pot_here"] KX G (fun _ _ _ _ _ _ us hl => match us, hl with | [_], _ => rfl) ?a23 ?l23 ?c23 ?k23 ?rest23
    (case a23 => k_is)
    (case l23 => k_is)
    (case c23 => k_is)
    (case k23 => k_is)
    case' rest23 => intro d23
    refine' Oa.with_def "_law_row" Oa.s__law_row ["_law_pot_here", "_law_many", "_law_group"] KX G (fun _ _ _ _ _ _ us hl => match us, hl with | [_, _, _], _ => rfl) ?a24 ?l24 ?c24 ?k24 ?rest24
    (case a24 => k_is)
    (case l24 => k_is)
    (case c24 => k_is)
    (case k24 => k_is)
    case' rest24 => intro d24
    refine' Oa.with_def "_law_behind" Oa.s__law_behind ["_law_group", "_law_rows_here"] KX G (fun _ _ _ _ _ _ us hl => match us, hl with | [_, _], _ => rfl) ?a25 ?l25 ?c25 ?k25 ?rest25
    (case a25 => k_is)
    (case l25 => k_is)
    (case c25 => k_is)
    (case k25 => k_is)
    case' rest25 => intro d25
    refine' Oa.with_def "_law_rows" Oa.s__law_rows ["_law_pot_here", "_law_many", "_law_group", "_law_rows_here", "_law_more"] KX G (fun _ _ _ _ _ _ us hl => match us, hl with | [_, _, _, _, _], _ => rfl) ?a26 ?l26 ?c26 ?k26 ?rest26
    (case a26 => k_is)
    (case l26 => k_is)
    (case c26 => k_is)
    (case k26 => k_is)
    case' rest26 => intro d26
    refine' Oa.with_def "_law_log" Oa.s__law_log ["_law_group", "_law_rows_here", "_law_cut", "_law_long_here"] KX G (fun _ _ _ _ _ _ us hl => match us, hl with | [_, _, _, _], _ => rfl) ?a27 ?l27 ?c27 ?k27 ?rest27
    (case a27 => k_is)
    (case l27 => k_is)
    (case c27 => k_is)
    (case k27 => k_is)
    case' rest27 => intro d27
    refine' Oa.with_def "_law_enough" Oa.s__law_enough ["_law_group", "_law_houses"] KX G (fun _ _ _ _ _ _ us hl => match us, hl with | [_, _], _ => rfl) ?a28 ?l28 ?c28 ?k28 ?rest28
    (case a28 => k_is)
    (case l28 => k_is)
    (case c28 => k_is)
    (case k28 => k_is)
    case' rest28 => intro d28
    refine' Oa.with_def "_law_begun" Oa.s__law_begun ["_law_script", "_law_many"] KX G (fun _ _ _ _ _ _ us hl => match us, hl with | [_, _], _ => rfl) ?a29 ?l29 ?c29 ?k29 ?rest29
    (case a29 => k_is)
    (case l29 => k_is)
    (case c29 => k_is)
    (case k29 => k_is)
    case' rest29 => intro d29
    refine' Oa.with_def "_law_moved" Oa.s__law_moved ["_law_turn", "_law_state", "_law_letters", "_law_time", "_law_lease"] KX G (fun _ _ _ _ _ _ us hl => match us, hl with | [_, _, _, _, _], _ => rfl) ?a30 ?l30 ?c30 ?k30 ?rest30
    (case a30 => k_is)
    (case l30 => k_is)
    (case c30 => k_is)
    (case k30 => k_is)
    case' rest30 => intro d30
    refine' Oa.with_def "_law_long" Oa.s__law_long ["_law_house"] KX G (fun _ _ _ _ _ _ us hl => match us, hl with | [_], _ => rfl) ?a31 ?l31 ?c31 ?k31 ?rest31
    (case a31 => k_is)
    (case l31 => k_is)
    (case c31 => k_is)
    (case k31 => k_is)
    case' rest31 => intro d31
    refine' Oa.with_def "_law_right" Oa.s__law_right ["_law_state", "_law_before", "_law_time", "_law_lease"] KX G (fun _ _ _ _ _ _ us hl => match us, hl with | [_, _, _, _], _ => rfl) ?a32 ?l32 ?c32 ?k32 ?rest32
    (case a32 => k_is)
    (case l32 => k_is)
    (case c32 => k_is)
    (case k32 => k_is)
    case' rest32 => intro d32
    refine' Oa.with_def "_law_ends" Oa.s__law_ends ["_law_state", "_law_time", "_law_lease"] KX G (fun _ _ _ _ _ _ us hl => match us, hl with | [_, _, _], _ => rfl) ?a33 ?l33 ?c33 ?k33 ?rest33
    (case a33 => k_is)
    (case l33 => k_is)
    (case c33 => k_is)
    (case k33 => k_is)
    case' rest33 => intro d33
    refine' Oa.with_def "law" Oa.s_law ["_law_script"] KX G (fun _ _ _ _ _ _ us hl => match us, hl with | [_], _ => rfl) ?a34 ?l34 ?c34 ?k34 ?rest34
    (case a34 => k_is)
    (case l34 => k_is)
    (case c34 => k_is)
    (case k34 => k_is)
    case' rest34 => intro d34
    refine' Oa.with_none "len" KX G ?a_len ?rest_len
    (case a_len => k_is)
    case' rest_len => intro n_len
    refine' Oa.with_none "all" KX G ?a_all ?rest_all
    (case a_all => k_is)
    case' rest_all => intro n_all
    refine' Oa.with_none "max" KX G ?a_max ?rest_max
    (case a_max => k_is)
    case' rest_max => intro n_max
    refine' Oa.with_none "min" KX G ?a_min ?rest_min
    (case a_min => k_is)
    case' rest_min => intro n_min
    refine' Oa.with_none "sorted" KX G ?a_sorted ?rest_sorted
    (case a_sorted => k_is)
    case' rest_sorted => intro n_sorted
    refine' Oa.with_none "tuple" KX G ?a_tuple ?rest_tuple
    (case a_tuple => k_is)
    case' rest_tuple => intro n_tuple
    refine' Oa.with_none "list" KX G ?a_list ?rest_list
    (case a_list => k_is)
    case' rest_list => intro n_list
    refine' Oa.with_none "sum" KX G ?a_sum ?rest_sum
    (case a_sum => k_is)
    case' rest_sum => intro n_sum
    refine' Oa.with_none "abs" KX G ?a_abs ?rest_abs
    (case a_abs => k_is)
    case' rest_abs => intro n_abs
    refine' Oa.with_none "int" KX G ?a_int ?rest_int
    (case a_int => k_is)
    case' rest_int => intro n_int
    refine' Oa.with_none "isinstance" KX G ?a_isinstance ?rest_isinstance
    (case a_isinstance => k_is)
    case' rest_isinstance => intro n_isinstance
    refine' Oa.with_none "range" KX G ?a_range ?rest_range
    (case a_range => k_is)
    case' rest_range => intro n_range
    refine' Oa.with_none "enumerate" KX G ?a_enumerate ?rest_enumerate
    (case a_enumerate => k_is)
    case' rest_enumerate => intro n_enumerate
    refine' Oa.with_none "zip" KX G ?a_zip ?rest_zip
    (case a_zip => k_is)
    case' rest_zip => intro n_zip
    refine' Oa.with_none "bool" KX G ?a_bool ?rest_bool
    (case a_bool => k_is)
    case' rest_bool => intro n_bool
    refine' Oa.with_none "str" KX G ?a_str ?rest_str
    (case a_str => k_is)
    case' rest_str => intro n_str
    refine' Oa.with_int "MOST_ROWS" KX G ?a_m ?rest_m
    (case a_m => k_is)
    case' rest_m => intro most
    exact Oa.end_mk ⟨d0, d1, d2, d3, d4, d5, d6, d7, d8, d9, d10, d11, d12, d13, d14, d15, d16, d17, d18, d19, d20, d21, d22, d23, d24, d25, d26, d27, d28, d29, d30, d31, d32, d33, d34, n_len, n_all, n_max, n_min, n_sorted, n_tuple, n_list, n_sum, n_abs, n_int, n_isinstance, n_range, n_enumerate, n_zip, n_bool, n_str, most⟩ hmg
