import PyProof.Rows.All
import Wide.All
import OpenK.AllK
import Wide.FinOn
import HandS.ForMost
import HandS.ForExc
import HandS.ExcCtx
import HandS.Lambda
import HandS.TupAny
import HandS.IsInst
import HandS.TupMul
import HandS.Style
import HandS.SortInts
import PyProof.WalksMore
import HandS.Walk
import HandS.Defaults
import HandS.Zip
import KE.GoesEnum
import HandS.CallLocal
import HandS.HeadHook2
import HandS.Text
import HandS.HotCalls
import HandS.ExcIs
import HandS.HeadHook4
import HandS.HeadWalk
import HandS.HeadEnd
import HandS.Head2
import HandS.NestedK
import HandS.SetFor
import HandS.More
import HandS.ListItems
import HandS.Dict
import HandS.Star
import PySem.Challenge.RW_sharedsteps_k12_what_is_refused
set_option Elab.async false
set_option linter.all false
set_option maxRecDepth 100000
set_option autoImplicit false
set_option maxHeartbeats 1000000
/-! Ly: a small language of pure data over HandS: what a def computes, told without a heap. -/
namespace Ly
open PySem PySem.Spec PyProof.Rows L2

abbrev St := L2.St
/-! ### data -/
inductive Dt where
  | at (v : V)
  | lst (xs : List Dt)
  | tup (xs : List Dt)
  | dic (kvs : List (Key × V))
  | scr (ns : List Int)
  deriving Inhabited

@[reducible] def Dt.int (i : Int) : Dt := .at (.int i)
@[reducible] def Dt.bl (b : Bool) : Dt := .at (.bl b)
@[reducible] def Dt.str (x : Str) : Dt := .at (.str x)
@[reducible] def Dt.non : Dt := .at .non

mutual
def Rep (K : PySem.W.Frag) (F : Hp) : Dt → V → Prop
  | .at v, u => u = v
  | .lst xs, u => ∃ a vs, u = .ref a ∧ F a = some (.lst vs) ∧ Reps K F xs vs ∧ vs.length ≤ sizeLine
  | .tup xs, u => ∃ a vs, u = .ref a ∧ SqT K F a vs ∧ Reps K F xs vs ∧ vs.length ≤ sizeLine
  | .dic kvs, u => ∃ a, u = .ref a ∧ F a = some (.dK kvs) ∧ kvs.length ≤ sizeLine
  | .scr ns, u => ∃ a, u = .ref a ∧ SqL K F a (ns.map V.int) ∧ ns.length ≤ sizeLine
def Reps (K : PySem.W.Frag) (F : Hp) : List Dt → List V → Prop
  | [], vs => vs = []
  | d :: ds, vs => ∃ v r, vs = v :: r ∧ Rep K F d v ∧ Reps K F ds r
end

section
variable {K : PySem.W.Frag} {F F' : Hp}
theorem rd_mono (s : Same F F') {a : Addr} {u : HO} (h : Rd F a u) : Rd F' a u := by
  rcases h with h | ⟨o, h⟩
  · exact .inl (s _ _ h)
  · exact .inr ⟨o, s _ _ h⟩
theorem sqt_mono (s : Same F F') {a : Addr} {xs : List V} (h : SqT K F a xs) : SqT K F' a xs := by
  rcases h with h | h
  · exact .inl (rd_mono s h)
  · exact .inr h
theorem sql_mono (s : Same F F') {a : Addr} {xs : List V} (h : SqL K F a xs) : SqL K F' a xs := by
  rcases h with h | h
  · exact .inl (rd_mono s h)
  · exact .inr h
mutual
theorem Rep.mono (s : Same F F') : ∀ (d : Dt) (u : V), Rep K F d u → Rep K F' d u
  | .at v, u, h => by simp only [Rep] at h ⊢; exact h
  | .lst xs, u, h => by
    simp only [Rep] at h ⊢
    obtain ⟨a, vs, e, f, r, l⟩ := h
    exact ⟨a, vs, e, s _ _ f, Reps.mono s xs vs r, l⟩
  | .tup xs, u, h => by
    simp only [Rep] at h ⊢
    obtain ⟨a, vs, e, f, r, l⟩ := h
    exact ⟨a, vs, e, sqt_mono s f, Reps.mono s xs vs r, l⟩
  | .dic kvs, u, h => by
    simp only [Rep] at h ⊢
    obtain ⟨a, e, f, l⟩ := h
    exact ⟨a, e, s _ _ f, l⟩
  | .scr ns, u, h => by
    simp only [Rep] at h ⊢
    obtain ⟨a, e, f, l⟩ := h
    exact ⟨a, e, sql_mono s f, l⟩
theorem Reps.mono (s : Same F F') : ∀ (ds : List Dt) (vs : List V), Reps K F ds vs → Reps K F' ds vs
  | [], vs, h => by simp only [Reps] at h ⊢; exact h
  | d :: ds, vs, h => by
    simp only [Reps] at h ⊢
    obtain ⟨v, r, e, f, g⟩ := h
    exact ⟨v, r, e, Rep.mono s d v f, Reps.mono s ds r g⟩
end
theorem rep_at {v u : V} : Rep K F (.at v) u ↔ u = v := by simp only [Rep]
theorem rep_lst {xs : List Dt} {u : V} : Rep K F (.lst xs) u ↔ ∃ a vs, u = .ref a ∧ F a = some (.lst vs) ∧ Reps K F xs vs ∧ vs.length ≤ sizeLine := by simp only [Rep]
theorem rep_tup {xs : List Dt} {u : V} : Rep K F (.tup xs) u ↔ ∃ a vs, u = .ref a ∧ SqT K F a vs ∧ Reps K F xs vs ∧ vs.length ≤ sizeLine := by simp only [Rep]
theorem rep_dic {kvs : List (Key × V)} {u : V} : Rep K F (.dic kvs) u ↔ ∃ a, u = .ref a ∧ F a = some (.dK kvs) ∧ kvs.length ≤ sizeLine := by simp only [Rep]
theorem rep_scr {ns : List Int} {u : V} : Rep K F (.scr ns) u ↔ ∃ a, u = .ref a ∧ SqL K F a (ns.map V.int) ∧ ns.length ≤ sizeLine := by simp only [Rep]
theorem reps_nil {vs : List V} : Reps K F [] vs ↔ vs = [] := by simp only [Reps]
theorem reps_cons {d : Dt} {ds : List Dt} {vs : List V} : Reps K F (d :: ds) vs ↔ ∃ v r, vs = v :: r ∧ Rep K F d v ∧ Reps K F ds r := by simp only [Reps]
theorem Reps.len : ∀ {ds : List Dt} {vs : List V}, Reps K F ds vs → ds.length = vs.length
  | [], vs, h => by rw [reps_nil] at h; subst h; rfl
  | d :: ds, vs, h => by
    rw [reps_cons] at h
    obtain ⟨v, r, rfl, _, g⟩ := h
    simp [Reps.len g]
theorem Reps.get : ∀ {ds : List Dt} {vs : List V} {i : Nat} {d : Dt}, Reps K F ds vs → ds[i]? = some d → ∃ v, vs[i]? = some v ∧ Rep K F d v
  | [], _, _, _, _, e => by simp at e
  | d :: ds, vs, 0, x, h, e => by
    rw [reps_cons] at h
    obtain ⟨v, r, rfl, f, _⟩ := h
    simp at e; subst e
    exact ⟨v, rfl, f⟩
  | d :: ds, vs, i + 1, x, h, e => by
    rw [reps_cons] at h
    obtain ⟨v, r, rfl, _, g⟩ := h
    simp at e
    obtain ⟨u, h1, h2⟩ := Reps.get g e
    exact ⟨u, by simpa using h1, h2⟩
theorem Reps.getV {ds : List Dt} {vs : List V} {i : Nat} {v : V} (h : Reps K F ds vs) (e : vs[i]? = some v) : ∃ d, ds[i]? = some d ∧ Rep K F d v := by
  have hl := h.len
  have hi : i < vs.length := (List.getElem?_eq_some_iff.mp e).1
  have hd : ds[i]? = some ds[i] := List.getElem?_eq_getElem (by omega)
  obtain ⟨u, h1, h2⟩ := Reps.get h hd
  rw [e] at h1; cases h1
  exact ⟨_, hd, h2⟩
theorem Reps.app : ∀ {ds es : List Dt} {vs us : List V}, Reps K F ds vs → Reps K F es us → Reps K F (ds ++ es) (vs ++ us)
  | [], es, vs, us, h, g => by rw [reps_nil] at h; subst h; exact g
  | d :: ds, es, vs, us, h, g => by
    rw [reps_cons] at h
    obtain ⟨v, r, rfl, f, k⟩ := h
    show Reps K F (d :: (ds ++ es)) (v :: (r ++ us))
    rw [reps_cons]
    exact ⟨v, _, rfl, f, Reps.app k g⟩
theorem Reps.take : ∀ {ds : List Dt} {vs : List V} (n : Nat), Reps K F ds vs → Reps K F (ds.take n) (vs.take n)
  | _, _, 0, _ => by rw [List.take_zero, List.take_zero, reps_nil]
  | [], vs, n + 1, h => by rw [reps_nil] at h; subst h; rw [List.take_nil, List.take_nil, reps_nil]
  | d :: ds, vs, n + 1, h => by
    rw [reps_cons] at h
    obtain ⟨v, r, rfl, f, k⟩ := h
    rw [List.take_succ_cons, List.take_succ_cons, reps_cons]
    exact ⟨v, _, rfl, f, Reps.take n k⟩
theorem Reps.drop : ∀ {ds : List Dt} {vs : List V} (n : Nat), Reps K F ds vs → Reps K F (ds.drop n) (vs.drop n)
  | _, _, 0, h => h
  | [], vs, n + 1, h => by rw [reps_nil] at h; subst h; rw [List.drop_nil, List.drop_nil, reps_nil]
  | d :: ds, vs, n + 1, h => by
    rw [reps_cons] at h
    obtain ⟨v, r, rfl, f, k⟩ := h
    rw [List.drop_succ_cons, List.drop_succ_cons]
    exact Reps.drop n k
theorem Reps.set : ∀ {ds : List Dt} {vs : List V} (i : Nat) {d : Dt} {v : V}, Rep K F d v → Reps K F ds vs → Reps K F (ds.set i d) (vs.set i v)
  | [], vs, i, d, v, _, h => by rw [reps_nil] at h; subst h; simp [reps_nil]
  | x :: ds, vs, 0, d, v, f, h => by
    rw [reps_cons] at h
    obtain ⟨u, r, rfl, _, k⟩ := h
    rw [List.set_cons_zero, List.set_cons_zero, reps_cons]
    exact ⟨v, r, rfl, f, k⟩
  | x :: ds, vs, i + 1, d, v, f, h => by
    rw [reps_cons] at h
    obtain ⟨u, r, rfl, g, k⟩ := h
    rw [List.set_cons_succ, List.set_cons_succ, reps_cons]
    exact ⟨u, _, rfl, g, Reps.set i f k⟩
theorem Reps.rev {ds : List Dt} {vs : List V} (h : Reps K F ds vs) : Reps K F ds.reverse vs.reverse := by
  induction ds generalizing vs with
  | nil => rw [reps_nil] at h; subst h; rw [List.reverse_nil, List.reverse_nil, reps_nil]
  | cons d ds ih =>
    rw [reps_cons] at h
    obtain ⟨v, r, rfl, f, k⟩ := h
    rw [List.reverse_cons, List.reverse_cons]
    exact Reps.app (ih k) (reps_cons.mpr ⟨v, [], rfl, f, reps_nil.mpr rfl⟩)
theorem Reps.rep {ds : List Dt} {vs : List V} (h : Reps K F ds vs) : ∀ n : Nat, Reps K F (List.replicate n ds).flatten (List.replicate n vs).flatten
  | 0 => by simp [reps_nil]
  | n + 1 => by
    rw [List.replicate_succ, List.replicate_succ, List.flatten_cons, List.flatten_cons]
    exact Reps.app h (Reps.rep h n)
theorem reps_ints : ∀ {ns : List Int} {vs : List V}, Reps K F (ns.map Dt.int) vs ↔ vs = ns.map V.int
  | [], vs => by rw [List.map_nil, List.map_nil, reps_nil]
  | n :: ns, vs => by
    rw [List.map_cons, List.map_cons, reps_cons]
    constructor
    · rintro ⟨v, r, rfl, f, g⟩
      rw [rep_at] at f; rw [reps_ints] at g
      rw [f, g]
    · intro e
      exact ⟨_, _, e, rep_at.mpr rfl, reps_ints.mpr rfl⟩
/-- atoms only -/
theorem reps_ats : ∀ {as : List V} {vs : List V}, Reps K F (as.map Dt.at) vs ↔ vs = as
  | [], vs => by rw [List.map_nil, reps_nil]
  | n :: ns, vs => by
    rw [List.map_cons, reps_cons]
    constructor
    · rintro ⟨v, r, rfl, f, g⟩
      rw [rep_at] at f; rw [reps_ats] at g
      rw [f, g]
    · intro e
      exact ⟨_, _, e, rep_at.mpr rfl, reps_ats.mpr rfl⟩
end

/-! ### slots and states -/
inductive Sl where
  | v (d : Dt)
  | m (xs : List Dt)
  | k (kvs : List (Key × V))
@[reducible] def Sl.own : Sl → Prop
  | .v _ => False
  | .m _ => True
  | .k _ => True
abbrev En := List (Option Sl)
def gt : En → Nat → Option Sl
  | [], _ => none
  | x :: _, 0 => x
  | _ :: r, n + 1 => gt r n
def st : En → Nat → Option Sl → En
  | [], _, _ => []
  | _ :: r, 0, s => s :: r
  | x :: r, n + 1, s => x :: st r n s
theorem st_len : ∀ (e : En) (i : Nat) (s : Option Sl), (st e i s).length = e.length
  | [], _, _ => rfl
  | _ :: _, 0, _ => rfl
  | x :: r, n + 1, s => by show (st r n s).length + 1 = r.length + 1; rw [st_len r n s]
theorem gt_st_same : ∀ (e : En) (i : Nat) (s : Option Sl), i < e.length → gt (st e i s) i = s
  | [], _, _, h => absurd h (Nat.not_lt_zero _)
  | _ :: _, 0, _, _ => rfl
  | x :: r, n + 1, s, h => gt_st_same r n s (Nat.lt_of_succ_lt_succ h)
theorem gt_st_ne : ∀ (e : En) (i j : Nat) (s : Option Sl), i ≠ j → gt (st e i s) j = gt e j
  | [], _, _, _, _ => rfl
  | _ :: _, 0, 0, _, h => absurd rfl h
  | _ :: _, 0, _ + 1, _, _ => rfl
  | _ :: _, _ + 1, 0, _, _ => rfl
  | x :: r, i + 1, j + 1, s, h => gt_st_ne r i j s (fun e => h (by rw [e]))
theorem gt_lt : ∀ (e : En) (i : Nat) (s : Sl), gt e i = some s → i < e.length
  | [], _, _, h => by cases h
  | _ :: _, 0, _, _ => Nat.succ_pos _
  | x :: r, i + 1, s, h => Nat.succ_lt_succ (gt_lt r i s h)
/-- where a def begins: its frozen heap, its heap, the address of the list that it borrows (slot 0), the tables of code objects -/
structure Bs where
  F : Hp
  H : Hp
  S : Option Addr
  T : List (Addr × Str)
  n : Nat
def Mn (B : Bs) (p : Addr) : Prop := B.S = some p ∨ B.H p = none
def SlR (K : PySem.W.Frag) (B : Bs) (F H : Hp) : Sl → V → Prop
  | .v d, v => Rep K F d v
  | .m xs, v => ∃ p vs, v = .ref p ∧ F p = none ∧ H p = some (.lst vs) ∧ Reps K F xs vs ∧ vs.length ≤ sizeLine ∧ Mn B p
  | .k kvs, v => ∃ p, v = .ref p ∧ F p = none ∧ H p = some (.dK kvs) ∧ kvs.length ≤ sizeLine ∧ Mn B p
def NoT (F : Hp) : Prop := ∀ b ps, F b ≠ some (.tbl ps)
structure Rl (K : PySem.W.Frag) (B : Bs) (F H : Hp) (σ : St) (e : En) : Prop where
  fh : Same F H
  f0 : Same B.F F
  h0 : ∀ b o, B.H b = some o → B.S ≠ some b → (∀ q, (b, q) ∉ B.T) → H b = some o
  th : ∀ b o, B.H b = some o → ∃ o', H b = some o'
  nf : ∀ b o, B.H b = some o → B.F b = none → F b = none
  tbs : LamX.Tabs B.T H
  tF : NoT F
  len : σ.length = e.length
  ln : e.length = B.n
  sl : ∀ i s, gt e i = some s → ∃ v, σ[i]? = some (some v) ∧ SlR K B F H s v
  own : ∀ i j s s' p, gt e i = some s → gt e j = some s' → s.own → s'.own → σ[i]? = some (some (.ref p)) → σ[j]? = some (some (.ref p)) → i = j
  pin : ∀ p, B.S = some p → ∀ i s, gt e i = some s → s.own → σ[i]? = some (some (.ref p)) → i = 0
  pin0 : ∀ p, B.S = some p → ∃ xs, gt e 0 = some (.m xs) ∧ σ[0]? = some (some (.ref p))

section
variable {K : PySem.W.Frag} {B : Bs} {F F' H H' : Hp} {σ : St} {e : En}
theorem same_new {p : Addr} {o : HO} (h : H p = none) : Same H (upd H p o) := fun b x e => by
  rw [upd_ne (ne_of_none e h)]
  exact e
theorem same_upd2 (s : Same F H) {p : Addr} {o : HO} : Same (upd F p o) (upd H p o) := fun b x h => by
  by_cases z : b = p
  · subst z; rw [upd_same] at h ⊢; exact h
  · rw [upd_ne z] at h ⊢; exact s _ _ h
theorem same_mut (s : Same F H) {p : Addr} {o : HO} (h : F p = none) : Same F (upd H p o) := fun b x e => by
  rw [upd_ne (ne_of_none e h)]
  exact s _ _ e
theorem same_none (s : Same F H) {p : Addr} (h : H p = none) : F p = none := s.free h
theorem SlR.mono {s : Sl} {v : V} (h : SlR K B F H s v) (sF : Same F F') (hk : ∀ p, v = .ref p → s.own → F' p = none ∧ H' p = H p) : SlR K B F' H' s v := by
  cases s with
  | v d => exact Rep.mono sF _ _ h
  | m xs =>
    obtain ⟨p, vs, rfl, h1, h2, h3, h4, h5⟩ := h
    obtain ⟨k1, k2⟩ := hk p rfl trivial
    exact ⟨p, vs, rfl, k1, k2 ▸ h2, Reps.mono sF _ _ h3, h4, h5⟩
  | k kvs =>
    obtain ⟨p, rfl, h1, h2, h4, h5⟩ := h
    obtain ⟨k1, k2⟩ := hk p rfl trivial
    exact ⟨p, rfl, k1, k2 ▸ h2, h4, h5⟩
theorem SlR.at {s : Sl} {p : Addr} (h : SlR K B F H s (.ref p)) (o : s.own) : F p = none ∧ (∃ ob, H p = some ob ∧ ∀ q, ob ≠ .tbl q) ∧ Mn B p := by
  cases s with
  | v d => exact o.elim
  | m xs =>
    obtain ⟨q, vs, e, h1, h2, h3, h4, h5⟩ := h
    cases e
    exact ⟨h1, ⟨_, h2, fun q z => by cases z⟩, h5⟩
  | k kvs =>
    obtain ⟨q, e, h1, h2, h4, h5⟩ := h
    cases e
    exact ⟨h1, ⟨_, h2, fun q z => by cases z⟩, h5⟩
theorem Rl.tab (R : Rl K B F H σ e) {p : Addr × Str} (h : p ∈ B.T) : ∃ ps, H p.1 = some (.tbl ps) := by
  obtain ⟨ps, h1, _⟩ := R.tbs p h
  exact ⟨ps, h1⟩
theorem NoT.upd (t : NoT F) {p : Addr} {o : HO} (ho : ∀ q, o ≠ .tbl q) : NoT (upd F p o) := fun b ps z => by
  by_cases y : b = p
  · rw [y, upd_same] at z; exact ho ps (Option.some.inj z)
  · rw [upd_ne y] at z; exact t b ps z
theorem Rl.tFn (R : Rl K B F H σ e) {p : Addr × Str} (h : p ∈ B.T) : F p.1 = none := by
  cases hf : F p.1 with
  | none => rfl
  | some o =>
    obtain ⟨ps, hp⟩ := R.tab h
    have := R.fh _ _ hf
    rw [hp] at this
    cases this
    exact absurd hf (R.tF _ _)
/-- a new frozen object -/
theorem Rl.new (R : Rl K B F H σ e) {p : Addr} {o : HO} (h : H p = none) (ho : ∀ q, o ≠ .tbl q := by intro q z; cases z) : Rl K B (upd F p o) (upd H p o) σ e := by
  have fp := same_none R.fh h
  have sF : Same F (upd F p o) := same_new fp
  refine ⟨same_upd2 R.fh, R.f0.trans sF, fun b x hb hs ht => ?_, fun b x hb => ?_, fun b x hb hf => ?_, ?_, R.tF.upd ho, R.len, R.ln, fun i s hi => ?_, R.own, R.pin, R.pin0⟩
  · exact same_new h _ _ (R.h0 b x hb hs ht)
  · obtain ⟨o', ho'⟩ := R.th b x hb
    exact ⟨o', same_new h _ _ ho'⟩
  · obtain ⟨o', ho'⟩ := R.th b x hb
    rw [upd_ne (ne_of_none ho' h)]
    exact R.nf b x hb hf
  · exact R.tbs.ext (same_new h)
  · obtain ⟨v, h1, h2⟩ := R.sl i s hi
    refine ⟨v, h1, h2.mono sF fun q hq ho => ?_⟩
    subst hq
    obtain ⟨a1, ⟨ob, a2, _⟩, _⟩ := h2.at ho
    have ne := ne_of_none a2 h
    exact ⟨by rw [upd_ne ne]; exact a1, upd_ne ne⟩
theorem get_set {i j : Nat} {v : Option V} (h : i < σ.length) : (σ.set i v)[j]? = if i = j then some v else σ[j]? := by
  by_cases z : i = j
  · subst z; rw [if_pos rfl, List.getElem?_set_self h]
  · rw [if_neg z, List.getElem?_set_ne z]
/-- a value is stored -/
theorem Rl.setV (R : Rl K B F H σ e) {i : Nat} {d : Dt} {v : V} (hi : i < e.length) (hp : B.S ≠ none → i ≠ 0) (h : Rep K F d v) : Rl K B F H (σ.set i (some v)) (st e i (some (.v d))) := by
  have hσ : i < σ.length := by rw [R.len]; exact hi
  refine ⟨R.fh, R.f0, R.h0, R.th, R.nf, R.tbs, R.tF, by rw [List.length_set, st_len]; exact R.len, by rw [st_len]; exact R.ln, fun j s hj => ?_, fun j k s s' p h1 h2 o1 o2 q1 q2 => ?_, fun p hS j s hj ho hv => ?_, fun p hS => ?_⟩
  · by_cases z : i = j
    · subst z
      rw [gt_st_same _ _ _ hi] at hj; cases hj
      exact ⟨v, by rw [get_set hσ, if_pos rfl], h⟩
    · rw [gt_st_ne _ _ _ _ z] at hj
      obtain ⟨u, a, b⟩ := R.sl j s hj
      exact ⟨u, by rw [get_set hσ, if_neg z]; exact a, b⟩
  · by_cases z : i = j
    · subst z; rw [gt_st_same _ _ _ hi] at h1; cases h1; exact o1.elim
    · by_cases z2 : i = k
      · subst z2; rw [gt_st_same _ _ _ hi] at h2; cases h2; exact o2.elim
      · rw [gt_st_ne _ _ _ _ z] at h1; rw [gt_st_ne _ _ _ _ z2] at h2
        rw [get_set hσ, if_neg z] at q1; rw [get_set hσ, if_neg z2] at q2
        exact R.own j k s s' p h1 h2 o1 o2 q1 q2
  · by_cases z : i = j
    · subst z; rw [gt_st_same _ _ _ hi] at hj; cases hj; exact ho.elim
    · rw [gt_st_ne _ _ _ _ z] at hj; rw [get_set hσ, if_neg z] at hv
      exact R.pin p hS j s hj ho hv
  · have z := hp (by rw [hS]; exact fun z => by cases z)
    obtain ⟨xs, a, b⟩ := R.pin0 p hS
    exact ⟨xs, by rw [gt_st_ne _ _ _ _ z]; exact a, by rw [get_set hσ, if_neg z]; exact b⟩
/-- a slot is forgotten -/
theorem Rl.wipe1 (R : Rl K B F H σ e) {i : Nat} (hp : B.S ≠ none → i ≠ 0) (hi : i < e.length) (u : Option V) : Rl K B F H (σ.set i u) (st e i none) := by
  have hσ : i < σ.length := by rw [R.len]; exact hi
  refine ⟨R.fh, R.f0, R.h0, R.th, R.nf, R.tbs, R.tF, by rw [List.length_set, st_len]; exact R.len, by rw [st_len]; exact R.ln, fun j s hj => ?_, fun j k s s' p h1 h2 o1 o2 q1 q2 => ?_, fun p hS j s hj ho hv => ?_, fun p hS => ?_⟩
  · by_cases z : i = j
    · subst z
      rw [gt_st_same _ _ _ hi] at hj; cases hj
    · rw [gt_st_ne _ _ _ _ z] at hj
      obtain ⟨u, a, b⟩ := R.sl j s hj
      exact ⟨u, by rw [get_set hσ, if_neg z]; exact a, b⟩
  · by_cases z : i = j
    · subst z; rw [gt_st_same _ _ _ hi] at h1; cases h1
    · by_cases z2 : i = k
      · subst z2; rw [gt_st_same _ _ _ hi] at h2; cases h2
      · rw [gt_st_ne _ _ _ _ z] at h1; rw [gt_st_ne _ _ _ _ z2] at h2
        rw [get_set hσ, if_neg z] at q1; rw [get_set hσ, if_neg z2] at q2
        exact R.own j k s s' p h1 h2 o1 o2 q1 q2
  · by_cases z : i = j
    · subst z; rw [gt_st_same _ _ _ hi] at hj; cases hj
    · rw [gt_st_ne _ _ _ _ z] at hj; rw [get_set hσ, if_neg z] at hv
      exact R.pin p hS j s hj ho hv
  · have z := hp (by rw [hS]; exact fun z => by cases z)
    obtain ⟨xs, a, b⟩ := R.pin0 p hS
    exact ⟨xs, by rw [gt_st_ne _ _ _ _ z]; exact a, by rw [get_set hσ, if_neg z]; exact b⟩
/-- a fresh own object is stored: it was laid at p, where the heap knew nothing -/
theorem Rl.setO (R : Rl K B F H σ e) {i : Nat} {s : Sl} {p : Addr} {o : HO} (hi : i < e.length) (hp : B.S ≠ none → i ≠ 0) (h : H p = none) (hs : SlR K B F (upd H p o) s (.ref p)) (ho : s.own) :
    Rl K B F (upd H p o) (σ.set i (some (.ref p))) (st e i (some s)) := by
  have hσ : i < σ.length := by rw [R.len]; exact hi
  have fp := same_none R.fh h
  have ne : ∀ j t, gt e j = some t → t.own → ∀ q, σ[j]? = some (some (.ref q)) → q ≠ p := fun j t hj ht q hq => by
    obtain ⟨v, a, b⟩ := R.sl j t hj
    rw [hq] at a; cases a
    obtain ⟨_, ⟨ob, a2, _⟩, _⟩ := b.at ht
    exact ne_of_none a2 h
  refine ⟨same_mut R.fh fp, R.f0, fun b x hb h1 h2 => same_new h _ _ (R.h0 b x hb h1 h2), fun b x hb => ?_, R.nf, R.tbs.ext (same_new h), R.tF, by rw [List.length_set, st_len]; exact R.len, by rw [st_len]; exact R.ln, fun j t hj => ?_, fun j k t t' q h1 h2 o1 o2 q1 q2 => ?_, fun q hS j t hj ht hv => ?_, fun q hS => ?_⟩
  · obtain ⟨o', ho'⟩ := R.th b x hb
    exact ⟨o', same_new h _ _ ho'⟩
  · by_cases z : i = j
    · subst z
      rw [gt_st_same _ _ _ hi] at hj; cases hj
      exact ⟨.ref p, by rw [get_set hσ, if_pos rfl], hs⟩
    · rw [gt_st_ne _ _ _ _ z] at hj
      obtain ⟨u, a, b⟩ := R.sl j t hj
      refine ⟨u, by rw [get_set hσ, if_neg z]; exact a, b.mono (Same.refl F) fun q hq ht => ?_⟩
      subst hq
      have nq := ne j t hj ht q a
      exact ⟨(b.at ht).1, upd_ne nq⟩
  · by_cases z : i = j
    · by_cases z2 : i = k
      · exact z.symm.trans z2
      · subst z
        rw [gt_st_ne _ _ _ _ z2] at h2
        rw [get_set hσ, if_pos rfl] at q1; cases q1
        rw [get_set hσ, if_neg z2] at q2
        exact absurd rfl (ne k t' h2 o2 p q2)
    · by_cases z2 : i = k
      · subst z2
        rw [gt_st_ne _ _ _ _ z] at h1
        rw [get_set hσ, if_neg z] at q1
        rw [get_set hσ, if_pos rfl] at q2; cases q2
        exact absurd rfl (ne j t h1 o1 p q1)
      · rw [gt_st_ne _ _ _ _ z] at h1; rw [gt_st_ne _ _ _ _ z2] at h2
        rw [get_set hσ, if_neg z] at q1; rw [get_set hσ, if_neg z2] at q2
        exact R.own j k t t' q h1 h2 o1 o2 q1 q2
  · by_cases z : i = j
    · subst z
      rw [get_set hσ, if_pos rfl] at hv; cases hv
      obtain ⟨xs, a, b⟩ := R.pin0 p hS
      exact absurd rfl (ne 0 _ a trivial p b)
    · rw [gt_st_ne _ _ _ _ z] at hj; rw [get_set hσ, if_neg z] at hv
      exact R.pin q hS j t hj ht hv
  · have z := hp (by rw [hS]; exact fun z => by cases z)
    obtain ⟨xs, a, b⟩ := R.pin0 q hS
    exact ⟨xs, by rw [gt_st_ne _ _ _ _ z]; exact a, by rw [get_set hσ, if_neg z]; exact b⟩
/-- an own list or dict is written -/
theorem Rl.mut (R : Rl K B F H σ e) {i : Nat} {s s' : Sl} {p : Addr} {o : HO} (hi : gt e i = some s) (ho : s.own) (ho' : s'.own) (hm : ∀ xs, s = .m xs → ∃ ys, s' = .m ys) (hv : σ[i]? = some (some (.ref p)))
    (hs : SlR K B F (upd H p o) s' (.ref p)) (hn : ∀ q, o ≠ .tbl q) : Rl K B F (upd H p o) σ (st e i (some s')) := by
  have hl := gt_lt e i s hi
  obtain ⟨u, a, b⟩ := R.sl i s hi
  rw [hv] at a; cases a
  obtain ⟨fp, ⟨ob, hp, hnt⟩, mn⟩ := b.at ho
  have nt : ∀ q, q ∈ B.T → q.1 ≠ p := fun q hq z => by
    obtain ⟨ps, h1⟩ := R.tab hq
    rw [z, hp] at h1
    exact hnt _ (Option.some.inj h1)
  refine ⟨same_mut R.fh fp, R.f0, fun b x hb h1 h2 => ?_, fun b x hb => ?_, R.nf, fun q hq => ?_, R.tF, by rw [st_len]; exact R.len, by rw [st_len]; exact R.ln, fun j t hj => ?_, fun j k t t' q h1 h2 o1 o2 q1 q2 => ?_, fun q hS j t hj ht hv => ?_, fun q hS => ?_⟩
  · have nb : b ≠ p := fun z => by
      subst z
      rcases mn with m | m
      · exact h1 m
      · rw [hb] at m; cases m
    rw [upd_ne nb]; exact R.h0 b x hb h1 h2
  · by_cases z : b = p
    · exact ⟨o, by rw [z, upd_same]⟩
    · obtain ⟨o', h'⟩ := R.th b x hb
      exact ⟨o', by rw [upd_ne z]; exact h'⟩
  · obtain ⟨ps, t1, t2, t3⟩ := R.tbs q hq
    refine ⟨ps, by rw [upd_ne (nt q hq)]; exact t1, t2, fun pos cv hc => ?_⟩
    obtain ⟨c, c1, c2⟩ := t3 pos cv hc
    refine ⟨c, c1, ?_⟩
    have nc : c ≠ p := fun z => by
      rw [z, hp] at c2
      have e2 := Option.some.inj c2
      cases s with
      | v d => exact ho.elim
      | m xs =>
        obtain ⟨q', vs, e1, _, g, _⟩ := b
        cases e1; rw [hp] at g
        rw [Option.some.inj g] at e2
        unfold LamX.CodeO at e2; cases e2
      | k kvs =>
        obtain ⟨q', e1, _, g, _⟩ := b
        cases e1; rw [hp] at g
        rw [Option.some.inj g] at e2
        unfold LamX.CodeO at e2; cases e2
    rw [upd_ne nc]; exact c2
  · by_cases z : i = j
    · subst z
      rw [gt_st_same _ _ _ hl] at hj; cases hj
      exact ⟨.ref p, hv, hs⟩
    · rw [gt_st_ne _ _ _ _ z] at hj
      obtain ⟨u, a', b'⟩ := R.sl j t hj
      refine ⟨u, a', b'.mono (Same.refl F) fun q hq ht => ?_⟩
      subst hq
      have nq : q ≠ p := fun y => z (R.own i j s t p hi hj ho ht hv (y ▸ a'))
      exact ⟨(b'.at ht).1, upd_ne nq⟩
  · have old : ∀ j t, gt (st e i (some s')) j = some t → t.own → ∃ t0, gt e j = some t0 ∧ t0.own := fun j t hj ht => by
      by_cases z : i = j
      · subst z; exact ⟨s, hi, ho⟩
      · rw [gt_st_ne _ _ _ _ z] at hj; exact ⟨t, hj, ht⟩
    obtain ⟨t0, g1, g2⟩ := old j t h1 o1
    obtain ⟨t1, g3, g4⟩ := old k t' h2 o2
    exact R.own j k t0 t1 q g1 g3 g2 g4 q1 q2
  · by_cases z : i = j
    · subst z; exact R.pin q hS i s hi ho hv
    · rw [gt_st_ne _ _ _ _ z] at hj; exact R.pin q hS j t hj ht hv
  · obtain ⟨xs, a', b'⟩ := R.pin0 q hS
    by_cases z : i = 0
    · subst z
      rw [hi] at a'; cases a'
      obtain ⟨ys, e⟩ := hm xs rfl
      exact ⟨ys, by rw [gt_st_same _ _ _ hl, e], b'⟩
    · exact ⟨xs, by rw [gt_st_ne _ _ _ _ z]; exact a', b'⟩
/-- an own list or dict becomes a value -/
theorem Rl.freeze (R : Rl K B F H σ e) {i : Nat} {s : Sl} {d : Dt} {p : Addr} {o : HO} (hi : gt e i = some s) (ho : s.own) (hS : B.S ≠ none → i ≠ 0) (hv : σ[i]? = some (some (.ref p))) (hp : H p = some o)
    (hd : Rep K (upd F p o) d (.ref p)) : Rl K B (upd F p o) H σ (st e i (some (.v d))) ∧ F p = none := by
  have hl := gt_lt e i s hi
  obtain ⟨u, a, b⟩ := R.sl i s hi
  rw [hv] at a; cases a
  obtain ⟨fp, ⟨ob, hp', hnt⟩, mn⟩ := b.at ho
  rw [hp] at hp'; cases hp'
  have sF : Same F (upd F p o) := same_new fp
  have bn : B.H p = none := by
    rcases mn with m | m
    · have := R.pin p m i s hi ho hv
      exact absurd this (hS (by rw [m]; exact fun z => by cases z))
    · exact m
  refine ⟨⟨fun b x hb => ?_, R.f0.trans sF, R.h0, R.th, fun b x hb hf => ?_, R.tbs, R.tF.upd hnt, by rw [st_len]; exact R.len, by rw [st_len]; exact R.ln, fun j t hj => ?_, fun j k t t' q h1 h2 o1 o2 q1 q2 => ?_, fun q hS' j t hj ht hv' => ?_, fun q hS' => ?_⟩, fp⟩
  · by_cases z : b = p
    · subst z; rw [upd_same] at hb; cases hb; exact hp
    · rw [upd_ne z] at hb; exact R.fh _ _ hb
  · rw [upd_ne (ne_of_none hb bn)]; exact R.nf b x hb hf
  · by_cases z : i = j
    · subst z
      rw [gt_st_same _ _ _ hl] at hj; cases hj
      exact ⟨.ref p, hv, hd⟩
    · rw [gt_st_ne _ _ _ _ z] at hj
      obtain ⟨u, a', b'⟩ := R.sl j t hj
      refine ⟨u, a', b'.mono sF fun q hq ht => ?_⟩
      subst hq
      have nq : q ≠ p := fun y => z (R.own i j s t p hi hj ho ht hv (y ▸ a'))
      exact ⟨by rw [upd_ne nq]; exact (b'.at ht).1, rfl⟩
  · by_cases z : i = j
    · subst z; rw [gt_st_same _ _ _ hl] at h1; cases h1; exact o1.elim
    · by_cases z2 : i = k
      · subst z2; rw [gt_st_same _ _ _ hl] at h2; cases h2; exact o2.elim
      · rw [gt_st_ne _ _ _ _ z] at h1; rw [gt_st_ne _ _ _ _ z2] at h2
        exact R.own j k t t' q h1 h2 o1 o2 q1 q2
  · by_cases z : i = j
    · subst z; rw [gt_st_same _ _ _ hl] at hj; cases hj; exact ht.elim
    · rw [gt_st_ne _ _ _ _ z] at hj; exact R.pin q hS' j t hj ht hv'
  · have z := hS (by rw [hS']; exact fun z => by cases z)
    obtain ⟨xs, a', b'⟩ := R.pin0 q hS'
    exact ⟨xs, by rw [gt_st_ne _ _ _ _ z]; exact a', b'⟩
end
/-! ### calls -/
section
variable {K : PySem.W.Frag} {B : Bs} {F F' H H' : Hp} {σ : St} {e : En}
/-- the frame behind a call that borrows nothing -/
theorem Rl.call (R : Rl K B F H σ e) {n : Nat} {σ' : St} {e' : En} (R' : Rl K ⟨F, H, none, B.T, n⟩ F' H' σ' e') : Rl K B F' H' σ e ∧ Same F F' := by
  have nT : ∀ b o, H b = some o → (∀ q, o ≠ .tbl q) → ∀ q, (b, q) ∉ B.T := fun b o hb ho q hq => by
    obtain ⟨ps, h1⟩ := R.tab hq
    rw [show H b = some (.tbl ps) from h1] at hb
    exact ho ps (Option.some.inj hb).symm
  refine ⟨⟨R'.fh, R.f0.trans R'.f0, fun b o hb h1 h2 => R'.h0 b o (R.h0 b o hb h1 h2) (fun z => by cases z) h2, fun b o hb => ?_, fun b o hb hf => ?_, R'.tbs, R'.tF, R.len, R.ln, fun i s hi => ?_, R.own, R.pin, R.pin0⟩, R'.f0⟩
  · obtain ⟨o', h⟩ := R.th b o hb
    exact R'.th b o' h
  · obtain ⟨o', h⟩ := R.th b o hb
    exact R'.nf b o' h (R.nf b o hb hf)
  · obtain ⟨v, a, b⟩ := R.sl i s hi
    refine ⟨v, a, b.mono R'.f0 fun q hq ho => ?_⟩
    subst hq
    obtain ⟨a1, ⟨ob, a2, a3⟩, _⟩ := b.at ho
    exact ⟨R'.nf q ob a2 a1, (R'.h0 q ob a2 (fun z => by cases z) (nT q ob a2 a3)).trans a2.symm⟩
/-- .. that borrows the list at slot i -/
theorem Rl.callM (R : Rl K B F H σ e) {n : Nat} {σ' : St} {e' : En} {i : Nat} {p : Addr} {xs ys : List Dt} (hi : gt e i = some (.m xs)) (hv : σ[i]? = some (some (.ref p)))
    (R' : Rl K ⟨F, H, some p, B.T, n⟩ F' H' σ' e') (h0 : gt e' 0 = some (.m ys)) : Rl K B F' H' σ (st e i (some (.m ys))) ∧ Same F F' := by
  have hl := gt_lt e i _ hi
  have nT : ∀ b o, H b = some o → (∀ q, o ≠ .tbl q) → ∀ q, (b, q) ∉ B.T := fun b o hb ho q hq => by
    obtain ⟨ps, h1⟩ := R.tab hq
    rw [show H b = some (.tbl ps) from h1] at hb
    exact ho ps (Option.some.inj hb).symm
  obtain ⟨u, a0, b0⟩ := R.sl i _ hi
  rw [hv] at a0; cases a0
  obtain ⟨fp, ⟨op, hp, hpt⟩, mn⟩ := b0.at trivial
  obtain ⟨zs, p1, p2⟩ := R'.pin0 p rfl
  obtain ⟨u, c1, c2⟩ := R'.sl 0 _ h0
  rw [p2] at c1; cases c1
  obtain ⟨p', vs, ep, d1, d2, d3, d4, d5⟩ := c2
  cases ep
  have ne : ∀ j s q, gt e j = some s → s.own → σ[j]? = some (some (.ref q)) → i ≠ j → q ≠ p := fun j s q hj ho hq z y => z (R.own i j _ s p hi hj trivial ho hv (y ▸ hq))
  have keep : ∀ q ob, H q = some ob → (∀ z, ob ≠ .tbl z) → q ≠ p → H' q = H q := fun q ob h1 h2 h3 => (R'.h0 q ob h1 (fun z => h3 (by injection z with z; exact z.symm)) (nT q ob h1 h2)).trans h1.symm
  refine ⟨⟨R'.fh, R.f0.trans R'.f0, fun b o hb h1 h2 => ?_, fun b o hb => ?_, fun b o hb hf => ?_, R'.tbs, R'.tF, by rw [st_len]; exact R.len, by rw [st_len]; exact R.ln, fun j s hj => ?_, fun j k s s' q g1 g2 o1 o2 q1 q2 => ?_, fun q hS j s hj ho hq => ?_, fun q hS => ?_⟩, R'.f0⟩
  · refine R'.h0 b o (R.h0 b o hb h1 h2) (fun z => ?_) h2
    injection z with z
    subst z
    rcases mn with m | m
    · exact h1 m
    · rw [hb] at m; cases m
  · obtain ⟨o', h⟩ := R.th b o hb
    exact R'.th b o' h
  · obtain ⟨o', h⟩ := R.th b o hb
    exact R'.nf b o' h (R.nf b o hb hf)
  · by_cases z : i = j
    · subst z
      rw [gt_st_same _ _ _ hl] at hj; cases hj
      exact ⟨.ref p, hv, p, vs, rfl, d1, d2, d3, d4, mn⟩
    · rw [gt_st_ne _ _ _ _ z] at hj
      obtain ⟨v, a, b⟩ := R.sl j s hj
      refine ⟨v, a, b.mono R'.f0 fun q hq ho => ?_⟩
      subst hq
      obtain ⟨a1, ⟨ob, a2, a3⟩, _⟩ := b.at ho
      exact ⟨R'.nf q ob a2 a1, keep q ob a2 a3 (ne j s q hj ho a z)⟩
  · have old : ∀ j t, gt (st e i (some (.m ys))) j = some t → t.own → ∃ t0, gt e j = some t0 ∧ t0.own := fun j t hj ht => by
      by_cases z : i = j
      · subst z; exact ⟨_, hi, trivial⟩
      · rw [gt_st_ne _ _ _ _ z] at hj; exact ⟨t, hj, ht⟩
    obtain ⟨t0, x1, x2⟩ := old j s g1 o1
    obtain ⟨t1, x3, x4⟩ := old k s' g2 o2
    exact R.own j k t0 t1 q x1 x3 x2 x4 q1 q2
  · by_cases z : i = j
    · subst z; exact R.pin q hS i _ hi trivial hq
    · rw [gt_st_ne _ _ _ _ z] at hj; exact R.pin q hS j s hj ho hq
  · obtain ⟨ws, a', b'⟩ := R.pin0 q hS
    by_cases z : i = 0
    · subst z
      exact ⟨ys, gt_st_same _ _ _ hl, b'⟩
    · exact ⟨ws, by rw [gt_st_ne _ _ _ _ z]; exact a', b'⟩
end
end Ly
set_option maxHeartbeats 1000000
/-! Ly2: what an expression, a block computes, and how that is tied to the judgements. -/
namespace Ly
open PySem PySem.Spec PyProof.Rows L2

inductive Rt (α : Type) where
  | ok (a : α) (e : En)
  | er (c : Str)
abbrev WEx := En → Option (Rt Dt)
abbrev WAx := En → Option (Rt (List Dt))
abbrev WTx := En → Option (Rt Bool)
def bnd {α β : Type} (r : Option (Rt α)) (k : α → En → Option (Rt β)) : Option (Rt β) :=
  match r with
  | some (.ok a e) => k a e
  | some (.er c) => some (.er c)
  | none => none
def pur {α : Type} (o : Option α) (e : En) : Option (Rt α) := match o with
  | some a => some (.ok a e)
  | none => none
inductive Ot where
  | nx (e : En)
  | rt (s : Sl) (e : En)
  | bk (e : En)
  | ct (e : En)
  | er (c : Str)
abbrev WSt := En → Option Ot
/-- an expression's value, and on -/
def bns {α : Type} (r : Option (Rt α)) (k : α → En → Option Ot) : Option Ot :=
  match r with
  | some (.ok a e) => k a e
  | some (.er c) => some (.er c)
  | none => none

/-- what is around a def's body -/
structure Ax (K : PySem.W.Frag) where
  B : Bs
  E : XK
  cl : Str → Option Addr

section
variable {K : PySem.W.Frag} (A : Ax K)
def FinG {α ν : Type} (R : Hp → α → ν → Prop) (σ : St) (F : Hp) (Q : ν → Hp → Prop) : Option (Rt α) → Prop
  | some (.ok a e) => ∀ F' H' v, Same F F' → Rl K A.B F' H' σ e → R F' a v → Q v H'
  | some (.er c) => ∀ a F' H' σ' e', A.cl c = some a → Rl K A.B F' H' σ' e' → A.E (.ref a) none H'
  | none => False
def TxG {α ν : Type} (R : Hp → α → ν → Prop) (w : En → Option (Rt α)) : St → Hp → (ν → Hp → Prop) → Prop := fun σ H Q => ∃ F e, Rl K A.B F H σ e ∧ FinG A R σ F Q (w e)
abbrev Fin := FinG A (Rep K)
abbrev TEx (w : WEx) : TE := TxG A (Rep K) w
abbrev TAx (w : WAx) : TA := TxG A (Reps K) w
def RB : Hp → Bool → Bool → Prop := fun _ a b => b = a
abbrev TTx (w : WTx) : TT := TxG A RB w
def FinS (F : Hp) (Dn : Ends) : Option Ot → Prop
  | some (.nx e) => ∀ F' H' σ', Same F F' → Rl K A.B F' H' σ' e → Dn.nx σ' H'
  | some (.rt s e) => ∀ F' H' σ' v, Same F F' → Rl K A.B F' H' σ' e → SlR K A.B F' H' s v → (s.own → ∀ p, v = .ref p → A.B.H p = none) → Dn.rt v H'
  | some (.bk e) => ∀ F' H' σ', Same F F' → Rl K A.B F' H' σ' e → Dn.bk σ' H'
  | some (.ct e) => ∀ F' H' σ', Same F F' → Rl K A.B F' H' σ' e → Dn.ct σ' H'
  | some (.er c) => ∀ a F' H' σ' e', A.cl c = some a → Rl K A.B F' H' σ' e' → A.E (.ref a) none H'
  | none => False
abbrev TSx (w : WSt) : TS := fun Dn σ H => ∃ F e, Rl K A.B F H σ e ∧ FinS A F Dn (w e)
end

section
variable {K : PySem.W.Frag} {A : Ax K} {α β ν μ : Type} {R : Hp → α → ν → Prop} {R' : Hp → β → μ → Prop} {σ : St} {F F1 : Hp} {Q Q' : ν → Hp → Prop} {P : μ → Hp → Prop}
theorem FinG.mono {r : Option (Rt α)} (s : Same F F1) (h : FinG A R σ F Q r) : FinG A R σ F1 Q r := by
  match r, h with
  | some (.ok a e), h => exact fun F' H' v s' => h F' H' v (s.trans s')
  | some (.er c), h => exact h
  | none, h => exact h
theorem FinG.imp {r : Option (Rt α)} (h : FinG A R σ F Q r) (k : ∀ v H, Q v H → Q' v H) : FinG A R σ F Q' r := by
  match r, h with
  | some (.ok a e), h => exact fun F' H' v s' R' r' => k _ _ (h F' H' v s' R' r')
  | some (.er c), h => exact h
  | none, h => exact h
theorem FinG.bind {r : Option (Rt α)} {k : α → En → Option (Rt β)} (h : FinG A R' σ F P (bnd r k)) :
    FinG A R σ F (fun v H1 => ∃ F1 a e1, Same F F1 ∧ Rl K A.B F1 H1 σ e1 ∧ R F1 a v ∧ FinG A R' σ F1 P (k a e1)) r := by
  match r, h with
  | some (.ok a e), h => exact fun F' H' v s' R1 r' => ⟨F', a, e, s', R1, r', FinG.mono s' h⟩
  | some (.er c), h => exact h
  | none, h => exact h
theorem FinS.mono {r : Option Ot} {D : Ends} (s : Same F F1) (h : FinS A F D r) : FinS A F1 D r := by
  match r, h with
  | some (.nx e), h => exact fun F' H' σ' s' => h F' H' σ' (s.trans s')
  | some (.rt t e), h => exact fun F' H' σ' v s' => h F' H' σ' v (s.trans s')
  | some (.bk e), h => exact fun F' H' σ' s' => h F' H' σ' (s.trans s')
  | some (.ct e), h => exact fun F' H' σ' s' => h F' H' σ' (s.trans s')
  | some (.er c), h => exact h
  | none, h => exact h
theorem FinS.bind {r : Option (Rt α)} {k : α → En → Option Ot} {D : Ends} (h : FinS A F D (bns r k)) :
    FinG A R σ F (fun v H1 => ∃ F1 a e1, Same F F1 ∧ Rl K A.B F1 H1 σ e1 ∧ R F1 a v ∧ FinS A F1 D (k a e1)) r := by
  match r, h with
  | some (.ok a e), h => exact fun F' H' v s' R1 r' => ⟨F', a, e, s', R1, r', FinS.mono s' h⟩
  | some (.er c), h => exact h
  | none, h => exact h
theorem TxG.mk {w : En → Option (Rt α)} {H : Hp} {e : En} (r : Rl K A.B F H σ e) (h : FinG A R σ F Q (w e)) : TxG A R w σ H Q := ⟨F, e, r, h⟩
end

/-! ### judgements weakened -/
section
variable {X : Cx}
theorem pe_imp {e : Expr} {t t' : TE} (h : PE X e t') (k : ∀ σ H Q, t σ H Q → t' σ H Q) : PE X e t := ⟨fun pins s σ H Q I q => h.run pins s σ H Q I (k σ H Q q)⟩
theorem pt_imp {e : Expr} {t t' : TT} (h : PT X e t') (k : ∀ σ H Q, t σ H Q → t' σ H Q) : PT X e t := ⟨fun pins s σ H Q I q => h.run pins s σ H Q I (k σ H Q q)⟩
theorem pw_imp {e : Expr} {t t' : TT} (h : PW X e t') (k : ∀ σ H Q, t σ H Q → t' σ H Q) : PW X e t := ⟨fun wh pins s σ H Q I q => h.run wh pins s σ H Q I (k σ H Q q)⟩
theorem pa_imp {es : List Expr} {t t' : TA} (h : PA X es t') (k : ∀ σ H Q, t σ H Q → t' σ H Q) : PA X es t := ⟨fun pos pins s σ H Q I q => h.run pos pins s σ H Q I (k σ H Q q)⟩
theorem ps_imp {s : Stmt} {t t' : TS} (h : PS X s t') (k : ∀ D σ H, t D σ H → t' D σ H) : PS X s t := ⟨fun pins s σ H D I q => h.run pins s σ H D I (k D σ H q)⟩
theorem pss_imp {s : List Stmt} {t t' : TS} (h : PSs X s t') (k : ∀ D σ H, t D σ H → t' D σ H) : PSs X s t := ⟨fun pins s σ H D I q => h.run pins s σ H D I (k D σ H q)⟩
end

/-! ### expressions: names, constants, operators -/
def wV (i : Nat) : WEx := fun e => match gt e i with
  | some (.v d) => some (.ok d e)
  | _ => none
def wC (v : V) : WEx := fun e => some (.ok (.at v) e)
def wK (d : Dt) : WEx := fun e => some (.ok d e)
def wO (f : Dt → Dt → Option Dt) (a b : WEx) : WEx := fun e => bnd (a e) fun x e1 => bnd (b e1) fun y e2 => pur (f x y) e2
def wU (f : Dt → Option Dt) (a : WEx) : WEx := fun e => bnd (a e) fun x e1 => pur (f x) e1
section
variable {X : Cx} {A : Ax X.K} {a b : Expr} {wa wb wc : WEx} {pos : Pos}
theorem n_v (i : Nat) {x : Str} {pos : Pos} (hN : X.N[i]? = some x := by rfl) (hv : Vis X.env.scope x := by first | exact Or.inl rfl | exact Or.inr (Or.inl rfl) | exact Or.inr (Or.inr rfl)) (hd : (x == ("__debug__" : Str)) = false := by decide)
    (hcd : (x == ("__classdict__" : Str)) = false := by decide) : PE X (.Name x pos) (TEx A (wV i)) :=
  pe_imp (pe_var hN hv hd hcd) fun σ H Q ⟨F, e, r, h⟩ => by
    unfold wV at h
    split at h
    · rename_i d hd
      obtain ⟨v, h1, h2⟩ := r.sl i _ hd
      exact ⟨v, h1, h F H v (Same.refl F) r h2⟩
    · exact h.elim
theorem tx_c {v : V} {σ : St} {H : Hp} {Q : VK} (h : TEx A (wC v) σ H Q) : Q v H := by
  obtain ⟨F, e, r, h⟩ := h
  exact h F H v (Same.refl F) r (rep_at.mpr rfl)
theorem n_int {i j pos} : PE X (.Constant (.int i) j pos) (TEx A (wC (.int i))) := pe_imp pe_int fun _ _ _ h => tx_c h
theorem n_bl {b j pos} : PE X (.Constant (.bool b) j pos) (TEx A (wC (.bl b))) := pe_imp pe_bl fun _ _ _ h => tx_c h
theorem n_non {j pos} : PE X (.Constant .none j pos) (TEx A (wC .non)) := pe_imp pe_non fun _ _ _ h => tx_c h
theorem n_str {x j pos} : PE X (.Constant (.str x) j pos) (TEx A (wC (.str x))) := pe_imp pe_str fun _ _ _ h => tx_c h
/-- a module's constant that is an atom -/
theorem n_gl {x : Str} {v : V} {u : Value} {pos : Pos} (hg : Gl X x) (hm : X.mg x = some u) (r : RelV v u) (hd : (x == ("__debug__" : Str)) = false := by decide) : PE X (.Name x pos) (TEx A (wC v)) := pe_imp (pe_glob hg hm r hd) fun _ _ _ h => tx_c h
/-- a built-in class as a value -/
theorem n_ty {x : Str} {n : String} {pos : Pos} (hg : Gl X x) (hm : X.mg x = none) (hv : bootBuiltins x = some (.type n)) (hn : x ≠ "__name__" := by decide) (hd : (x == ("__debug__" : Str)) = false := by decide) : PE X (.Name x pos) (TEx A (wC (.ty n))) :=
  pe_imp (pe_bltn (v := .ty n) hg hm hv rfl hn hd) fun _ _ _ h => tx_c h
/-- a module's constant of the written part -/
theorem n_gk {x : Str} {ad : Addr} {d : Dt} {pos : Pos} (hg : Gl X x) (hm : X.mg x = some (.ref ad)) (r : ∀ F, Rep X.K F d (.ref ad)) (hd : (x == ("__debug__" : Str)) = false := by decide) : PE X (.Name x pos) (TEx A (wK d)) :=
  pe_imp (pe_glob hg hm (v := .ref ad) rfl hd) fun σ H Q ⟨F, e, rl, h⟩ => h F H _ (Same.refl F) rl (r F)

/-- what an operator on data asks of the operator on values -/
def Goes (A : Ax X.K) (σ : St) (F : Hp) (e : En) (Q : VK) (d : Dt) : Prop := ∀ F' H' v, Same F F' → Rl X.K A.B F' H' σ e → Rep X.K F' d v → Q v H'
def OpS (A : Ax X.K) (f : Dt → Dt → Option Dt) (r : R2) : Prop := ∀ (σ : St) (F H : Hp) (e : En) (Q : VK) (x y : V) (d1 d2 d : Dt), Rl X.K A.B F H σ e → Rep X.K F d1 x → Rep X.K F d2 y → f d1 d2 = some d → Goes A σ F e Q d → r x y H Q
def UnS (A : Ax X.K) (f : Dt → Option Dt) (r : V → Hp → VK → Prop) : Prop := ∀ (σ : St) (F H : Hp) (e : En) (Q : VK) (x : V) (d1 d : Dt), Rl X.K A.B F H σ e → Rep X.K F d1 x → f d1 = some d → Goes A σ F e Q d → r x H Q
theorem fin_pur {σ : St} {F : Hp} {Q : VK} {o : Option Dt} {e : En} (h : Fin A σ F Q (pur o e)) : ∃ d, o = some d ∧ Goes A σ F e Q d := by
  cases o with
  | none => exact h.elim
  | some d => exact ⟨d, rfl, h⟩
theorem tx_op {f : Dt → Dt → Option Dt} {r : R2} (hs : OpS A f r) {σ : St} {H : Hp} {Q : VK} (h : TEx A (wO f wa wb) σ H Q) : tOp r (TEx A wa) (TEx A wb) σ H Q := by
  obtain ⟨F, e, R, h⟩ := h
  refine ⟨F, e, R, (FinG.bind (R := Rep X.K) h).imp fun v H1 ⟨F1, d1, e1, s1, R1, r1, h1⟩ => ⟨F1, e1, R1, (FinG.bind (R := Rep X.K) h1).imp fun u H2 ⟨F2, d2, e2, s2, R2, r2, h2⟩ => ?_⟩⟩
  obtain ⟨d, hf, hg⟩ := fin_pur h2
  exact hs σ F2 H2 e2 Q v u d1 d2 d R2 (r1.mono s2) r2 hf hg
theorem n_op {op : Operator} {f : Dt → Dt → Option Dt} {r : R2} (ho : OpR X (binaryOp op) r) (hs : OpS A f r) (ha : PE X a (TEx A wa)) (hb : PE X b (TEx A wb)) : PE X (.BinOp a op b pos) (TEx A (wO f wa wb)) :=
  pe_imp (pe_op ho ha hb) fun _ _ _ h => tx_op hs h
theorem n_cmp {op : CmpOp} {f : Dt → Dt → Option Dt} {r : R2} (ho : OpR X (compareOp op) r) (hs : OpS A f r) (ha : PE X a (TEx A wa)) (hb : PE X b (TEx A wb)) (hm : behindInMarks op b = false) : PE X (.Compare a [op] [b] pos) (TEx A (wO f wa wb)) :=
  pe_imp (pe_cmpR ho ha hb hm) fun _ _ _ h => tx_op hs h
theorem n_un {op : UnaryOp} {f : Dt → Option Dt} {r : V → Hp → VK → Prop} (ho : UnR X (unaryOp op) r) (hs : UnS A f r) (ha : PE X a (TEx A wa)) : PE X (.UnaryOp op a pos) (TEx A (wU f wa)) :=
  pe_imp (pe_un ho ha) fun σ H Q ⟨F, e, R, h⟩ => ⟨F, e, R, (FinG.bind (R := Rep X.K) h).imp fun v H1 ⟨F1, d1, e1, s1, R1, r1, h1⟩ => by
    obtain ⟨d, hf, hg⟩ := fin_pur h1
    exact hs σ F1 H1 e1 Q v d1 d R1 r1 hf hg⟩

/-! the operators -/
def fI (c : Int → Int → Bool) (g : Int → Int → V) : Dt → Dt → Option Dt
  | .at (.int i), .at (.int j) => if c i j = true then some (.at (g i j)) else none
  | _, _ => none
def fI0 (g : Int → Int → V) : Dt → Dt → Option Dt
  | .at (.int i), .at (.int j) => some (.at (g i j))
  | _, _ => none
theorem fI0_inv {g : Int → Int → V} {d1 d2 d : Dt} (h : fI0 g d1 d2 = some d) : ∃ i j, d1 = .int i ∧ d2 = .int j ∧ d = .at (g i j) := by
  unfold fI0 at h
  split at h
  · cases h; exact ⟨_, _, rfl, rfl, rfl⟩
  · cases h
theorem fI_inv {c : Int → Int → Bool} {g : Int → Int → V} {d1 d2 d : Dt} (h : fI c g d1 d2 = some d) : ∃ i j, d1 = .int i ∧ d2 = .int j ∧ c i j = true ∧ d = .at (g i j) := by
  unfold fI at h
  split at h
  · split at h
    · rename_i hh
      cases h; exact ⟨_, _, rfl, rfl, hh, rfl⟩
    · cases h
  · cases h
theorem goes_at {σ : St} {F H : Hp} {e : En} {Q : VK} {v : V} (h : Goes A σ F e Q (.at v)) (R : Rl X.K A.B F H σ e) : Q v H := h F H v (Same.refl F) R (rep_at.mpr rfl)
theorem opS_I0 {g : Int → Int → V} : OpS A (fI0 g) (rI0 g) := fun σ F H e Q x y d1 d2 d R r1 r2 hf h => by
  obtain ⟨i, j, rfl, rfl, rfl⟩ := fI0_inv hf
  exact ⟨i, j, rep_at.mp r1, rep_at.mp r2, goes_at h R⟩
theorem opS_I {c : Int → Int → Bool} {C : Int → Int → Prop} {g : Int → Int → V} (hc : ∀ i j, c i j = true → C i j) : OpS A (fI c g) (rI C g) := fun σ F H e Q x y d1 d2 d R r1 r2 hf h => by
  obtain ⟨i, j, rfl, rfl, hh, rfl⟩ := fI_inv hf
  exact ⟨i, j, rep_at.mp r1, rep_at.mp r2, hc i j hh, goes_at h R⟩
end
end Ly
set_option maxHeartbeats 1000000
/-! Ly3: operators, built-in calls on data. -/
namespace Ly
open PySem PySem.Spec PyProof.Rows L2

/-! ### arguments, calls of built-ins -/
def wNil : WAx := fun e => some (.ok [] e)
def wCons (a : WEx) (r : WAx) : WAx := fun e => bnd (a e) fun x e1 => bnd (r e1) fun xs e2 => some (.ok (x :: xs) e2)
def wB (f : List Dt → Option Dt) (r : WAx) : WEx := fun e => bnd (r e) fun xs e1 => pur (f xs) e1
section
variable {X : Cx} {A : Ax X.K} {a b : Expr} {es : List Expr} {wa wb : WEx} {ws : WAx} {pos : Pos}
theorem n_nil : PA X [] (TAx A wNil) := pa_imp pa_nil fun σ H Q ⟨F, e, R, h⟩ => h F H [] (Same.refl F) R (reps_nil.mpr rfl)
theorem n_cons (ha : PE X a (TEx A wa)) (hr : PA X es (TAx A ws)) (hs : starEach (a :: es) X.env = (false, eval a X.env) :: starEach es X.env := by rfl) : PA X (a :: es) (TAx A (wCons wa ws)) :=
  pa_imp (pa_cons ha hr hs) fun σ H Q ⟨F, e, R, h⟩ => ⟨F, e, R, (FinG.bind (R := Rep X.K) h).imp fun v H1 ⟨F1, d1, e1, s1, R1, r1, h1⟩ => ⟨F1, e1, R1, (FinG.bind (R := Reps X.K) h1).imp fun vs H2 ⟨F2, ds, e2, s2, R2, r2, h2⟩ =>
    h2 F2 H2 (v :: vs) (Same.refl F2) R2 (reps_cons.mpr ⟨v, vs, rfl, r1.mono s2, r2⟩)⟩⟩
def CaS (A : Ax X.K) (f : List Dt → Option Dt) (r : List V → Hp → VK → Prop) : Prop := ∀ (σ : St) (F H : Hp) (e : En) (Q : VK) (vs : List V) (ds : List Dt) (d : Dt), Rl X.K A.B F H σ e → Reps X.K F ds vs → f ds = some d → Goes A σ F e Q d → r vs H Q
theorem tx_b {f : List Dt → Option Dt} {r : List V → Hp → VK → Prop} (hs : CaS A f r) {σ : St} {H : Hp} {Q : VK} (h : TEx A (wB f ws) σ H Q) : tCB r (TAx A ws) σ H Q := by
  obtain ⟨F, e, R, h⟩ := h
  refine ⟨F, e, R, (FinG.bind (R := Reps X.K) h).imp fun vs H1 ⟨F1, ds, e1, s1, R1, r1, h1⟩ => ?_⟩
  obtain ⟨d, hf, hg⟩ := fin_pur h1
  exact hs σ F1 H1 e1 Q vs ds d R1 r1 hf hg
/-- a built-in function by its name -/
theorem n_cb {x : Str} {id : String} {p : Pos} {f : List Dt → Option Dt} {r : List V → Hp → VK → Prop} (hc : CallR X (.builtin id) r) (hs : CaS A f r) (hg : Gl X x) (hm : X.mg x = none) (hv : bootBuiltins x = some (.builtin id)) (ha : PA X (a :: es) (TAx A ws)) (hn : x ≠ "__name__" := by decide)
    (hdb : (x == ("__debug__" : Str)) = false := by decide) (he : starEach (a :: es) X.env = (false, eval a X.env) :: starEach es X.env := by rfl) (hpl : (backTo pos (starEach es X.env)).any (·.1) = false := by rfl) :
    PE X (.Call (.Name x p) (a :: es) [] pos) (TEx A (wB f ws)) := pe_imp (pe_callB hc hg hm hv ha hn hdb he hpl) fun _ _ _ h => tx_b hs h
/-- a built-in class by its name -/
theorem n_ct {x : Str} {T : String} {p : Pos} {f : List Dt → Option Dt} {r : List V → Hp → VK → Prop} (hc : CallR X (.type T) r) (hs : CaS A f r) (hg : Gl X x) (hm : X.mg x = none) (hv : bootBuiltins x = some (.type T)) (ha : PA X (a :: es) (TAx A ws)) (hn : x ≠ "__name__" := by decide)
    (hdb : (x == ("__debug__" : Str)) = false := by decide) (he : starEach (a :: es) X.env = (false, eval a X.env) :: starEach es X.env := by rfl) (hpl : (backTo pos (starEach es X.env)).any (·.1) = false := by rfl) :
    PE X (.Call (.Name x p) (a :: es) [] pos) (TEx A (wB f ws)) := pe_imp (pe_callTy hc hg hm hv ha hn hdb he hpl) fun _ _ _ h => tx_b hs h
/-- displays -/
def fTup (ds : List Dt) : Option Dt := if ds.length ≤ sizeLine then some (.tup ds) else none
def fLst (ds : List Dt) : Option Dt := if ds.length ≤ sizeLine then some (.lst ds) else none
theorem goes_tup {σ : St} {F H : Hp} {e : En} {Q : VK} {ds : List Dt} {vs : List V} (h : Goes A σ F e Q (.tup ds)) (R : Rl X.K A.B F H σ e) (r : Reps X.K F ds vs) (hl : vs.length ≤ sizeLine) : ∀ p, H p = none → Q (.ref p) (upd H p (.tup vs)) := fun p hp => by
  have fp := same_none R.fh hp
  exact h _ _ _ (same_new fp) (R.new hp) (rep_tup.mpr ⟨p, vs, rfl, SqT.of upd_same, r.mono (same_new fp), hl⟩)
theorem goes_lst {σ : St} {F H : Hp} {e : En} {Q : VK} {ds : List Dt} {vs : List V} (h : Goes A σ F e Q (.lst ds)) (R : Rl X.K A.B F H σ e) (r : Reps X.K F ds vs) (hl : vs.length ≤ sizeLine) : ∀ p, H p = none → Q (.ref p) (upd H p (.lst vs)) := fun p hp => by
  have fp := same_none R.fh hp
  exact h _ _ _ (same_new fp) (R.new hp) (rep_lst.mpr ⟨p, vs, rfl, upd_same, r.mono (same_new fp), hl⟩)
theorem n_tup {k : Nat} (ha : PA X es (TAx A ws)) : PE X (.Tuple es k pos) (TEx A (wB fTup ws)) := pe_imp (pe_tup ha) fun σ H Q ⟨F, e, R, h⟩ => ⟨F, e, R, (FinG.bind (R := Reps X.K) h).imp fun vs H1 ⟨F1, ds, e1, s1, R1, r1, h1⟩ => by
  obtain ⟨d, hf, hg⟩ := fin_pur h1
  unfold fTup at hf
  split at hf
  · rename_i hl
    cases hf
    rw [r1.len] at hl
    exact ⟨hl, goes_tup hg R1 r1 hl⟩
  · cases hf⟩
theorem n_lst (ha : PA X es (TAx A ws)) : PE X (.List es pos) (TEx A (wB fLst ws)) := pe_imp (pe_lst ha) fun σ H Q ⟨F, e, R, h⟩ => ⟨F, e, R, (FinG.bind (R := Reps X.K) h).imp fun vs H1 ⟨F1, ds, e1, s1, R1, r1, h1⟩ => by
  obtain ⟨d, hf, hg⟩ := fin_pur h1
  unfold fLst at hf
  split at hf
  · rename_i hl
    cases hf
    rw [r1.len] at hl
    exact ⟨hl, goes_lst hg R1 r1 hl⟩
  · cases hf⟩
end

/-! ### + - * // % ** -/
def fAdd : Dt → Dt → Option Dt
  | .at (.int i), .at (.int j) => some (.int (i + j))
  | .at (.str x), .at (.str y) => if x.length + y.length ≤ sizeLine then some (.str (x ++ y)) else none
  | .lst xs, .lst ys => if xs.length + ys.length ≤ sizeLine then some (.lst (xs ++ ys)) else none
  | .tup xs, .tup ys => if xs.length + ys.length ≤ sizeLine then some (.tup (xs ++ ys)) else none
  | _, _ => none
theorem fAdd_inv {d1 d2 d : Dt} (h : fAdd d1 d2 = some d) : (∃ i j, d1 = .int i ∧ d2 = .int j ∧ d = .int (i + j)) ∨ (∃ x y, d1 = .str x ∧ d2 = .str y ∧ x.length + y.length ≤ sizeLine ∧ d = .str (x ++ y)) ∨
    (∃ xs ys, d1 = .lst xs ∧ d2 = .lst ys ∧ xs.length + ys.length ≤ sizeLine ∧ d = .lst (xs ++ ys)) ∨ (∃ xs ys, d1 = .tup xs ∧ d2 = .tup ys ∧ xs.length + ys.length ≤ sizeLine ∧ d = .tup (xs ++ ys)) := by
  unfold fAdd at h
  split at h
  · cases h; exact .inl ⟨_, _, rfl, rfl, rfl⟩
  · split at h
    · rename_i hl; cases h; exact .inr (.inl ⟨_, _, rfl, rfl, hl, rfl⟩)
    · cases h
  · split at h
    · rename_i hl; cases h; exact .inr (.inr (.inl ⟨_, _, rfl, rfl, hl, rfl⟩))
    · cases h
  · split at h
    · rename_i hl; cases h; exact .inr (.inr (.inr ⟨_, _, rfl, rfl, hl, rfl⟩))
    · cases h
  · cases h
section
variable {X : Cx} {A : Ax X.K} {a b : Expr} {wa wb : WEx} {pos : Pos}
theorem n_add (ha : PE X a (TEx A wa)) (hb : PE X b (TEx A wb)) : PE X (.BinOp a .Add b pos) (TEx A (wO fAdd wa wb)) :=
  n_op (OpR.or op_add (OpR.or op_add_str (OpR.or op_cat op_catA))) (fun σ F H e Q x y d1 d2 d R r1 r2 hf h => by
    rcases fAdd_inv hf with ⟨i, j, rfl, rfl, rfl⟩ | ⟨i, j, rfl, rfl, hl, rfl⟩ | ⟨xs, ys, rfl, rfl, hl, rfl⟩ | ⟨xs, ys, rfl, rfl, hl, rfl⟩
    · exact .inl ⟨i, j, rep_at.mp r1, rep_at.mp r2, goes_at h R⟩
    · exact .inr (.inl ⟨i, j, rep_at.mp r1, rep_at.mp r2, hl, goes_at h R⟩)
    · obtain ⟨l, vs, rfl, f1, q1, l1⟩ := rep_lst.mp r1
      obtain ⟨b, us, rfl, f2, q2, l2⟩ := rep_lst.mp r2
      rw [q1.len, q2.len] at hl
      exact .inr (.inr (.inl ⟨l, b, vs, us, rfl, rfl, R.fh _ _ f1, R.fh _ _ f2, hl, goes_lst h R (q1.app q2) (by rw [List.length_append]; exact hl)⟩))
    · obtain ⟨l, vs, rfl, f1, q1, l1⟩ := rep_tup.mp r1
      obtain ⟨b, us, rfl, f2, q2, l2⟩ := rep_tup.mp r2
      have h1 := q1.len
      have h2 := q2.len
      rw [h1, h2] at hl
      refine .inr (.inr (.inr ⟨l, b, vs, us, rfl, rfl, sqt_mono R.fh f1, sqt_mono R.fh f2, hl, fun e1 => ?_, fun _ e2 => ?_, fun _ _ => goes_tup h R (q1.app q2) (by rw [List.length_append]; exact hl)⟩))
      · subst e1
        have : xs = [] := List.eq_nil_of_length_eq_zero (by rw [h1]; rfl)
        subst this
        exact h F H _ (Same.refl F) R r2
      · subst e2
        have : ys = [] := List.eq_nil_of_length_eq_zero (by rw [h2]; rfl)
        subst this
        rw [List.append_nil] at h
        exact h F H _ (Same.refl F) R r1) ha hb
theorem n_sub (ha : PE X a (TEx A wa)) (hb : PE X b (TEx A wb)) : PE X (.BinOp a .Sub b pos) (TEx A (wO (fI0 fun i j => .int (i - j)) wa wb)) := n_op op_sub opS_I0 ha hb
def cMul (i j : Int) : Bool := decide ((-(2 ^ 64) < i ∧ i < 2 ^ 64) ∨ (-(2 ^ 64) < j ∧ j < 2 ^ 64))
def fMul : Dt → Dt → Option Dt := fI cMul fun i j => .int (i * j)
theorem n_mul (ha : PE X a (TEx A wa)) (hb : PE X b (TEx A wb)) : PE X (.BinOp a .Mult b pos) (TEx A (wO fMul wa wb)) := n_op op_mul (opS_I fun i j h => by unfold cMul at h; have := of_decide_eq_true h; exact this) ha hb
def cDiv (i j : Int) : Bool := decide (j ≠ 0 ∧ j.natAbs < 1073741824)
def fDiv : Dt → Dt → Option Dt := fI cDiv fun i j => .int (i.fdiv j)
theorem n_div (ha : PE X a (TEx A wa)) (hb : PE X b (TEx A wb)) : PE X (.BinOp a .FloorDiv b pos) (TEx A (wO fDiv wa wb)) := n_op op_fdivN (opS_I fun i j h => by unfold cDiv at h; have := of_decide_eq_true h; exact this) ha hb
def cMod (i j : Int) : Bool := decide (j ≠ 0)
def fMod : Dt → Dt → Option Dt := fI cMod fun i j => .int (i.fmod j)
theorem n_mod (ha : PE X a (TEx A wa)) (hb : PE X b (TEx A wb)) : PE X (.BinOp a .Mod b pos) (TEx A (wO fMod wa wb)) := n_op op_modN (opS_I fun i j h => by unfold cMod at h; have := of_decide_eq_true h; exact this) ha hb
def cPow (i j : Int) : Bool := decide (0 ≤ j ∧ j ≤ 1000000 ∧ i.natAbs < 2 ^ 64)
def fPow : Dt → Dt → Option Dt := fI cPow fun i j => .int (i ^ j.toNat)
theorem n_pow (ha : PE X a (TEx A wa)) (hb : PE X b (TEx A wb)) : PE X (.BinOp a .Pow b pos) (TEx A (wO fPow wa wb)) := n_op op_pow (opS_I fun i j h => by unfold cPow at h; have := of_decide_eq_true h; exact this) ha hb
def fNeg : Dt → Option Dt
  | .at (.int i) => some (.int (-i))
  | _ => none
theorem n_neg (ha : PE X a (TEx A wa)) : PE X (.UnaryOp .USub a pos) (TEx A (wU fNeg wa)) := n_un un_neg (fun σ F H e Q x d1 d R r1 hf h => by
  unfold fNeg at hf
  split at hf
  · cases hf; exact ⟨_, rep_at.mp r1, goes_at h R⟩
  · cases hf) ha
end

/-! ### comparisons -/
mutual
def toPy : Dt → Option PyData
  | .at .non => some .none
  | .at (.bl b) => some (.bool b)
  | .at (.int i) => some (.int i)
  | .at (.str x) => some (.str x)
  | .lst xs => (match toPys xs with | some ds => some (.list ds) | none => none)
  | .tup xs => (match toPys xs with | some ds => some (.tuple ds) | none => none)
  | _ => none
def toPys : List Dt → Option (List PyData)
  | [] => some []
  | x :: xs => (match toPy x, toPys xs with | some d, some ds => some (d :: ds) | _, _ => none)
end
section
variable {K : PySem.W.Frag} {F H : Hp}
mutual
theorem toPy_dp (s : Same F H) : ∀ (d : Dt) (p : PyData) (v : V), toPy d = some p → Rep K F d v → Dp K H v p
  | .at v, p, u, h, r => by
    rw [rep_at] at r; subst r
    cases u <;> simp only [toPy, Option.some.injEq, reduceCtorEq] at h <;> subst h <;> constructor
  | .lst xs, p, u, h, r => by
    rw [rep_lst] at r
    obtain ⟨a, vs, rfl, f, q, l⟩ := r
    simp only [toPy] at h
    split at h
    · rename_i ds hd
      cases h
      exact .lst (SqL.of (s _ _ f)) (toPys_dp s xs ds vs hd q)
    · cases h
  | .tup xs, p, u, h, r => by
    rw [rep_tup] at r
    obtain ⟨a, vs, rfl, f, q, l⟩ := r
    simp only [toPy] at h
    split at h
    · rename_i ds hd
      cases h
      exact .tup (sqt_mono s f) (toPys_dp s xs ds vs hd q)
    · cases h
  | .dic kvs, p, u, h, r => by simp only [toPy, reduceCtorEq] at h
  | .scr ns, p, u, h, r => by simp only [toPy, reduceCtorEq] at h
theorem toPys_dp (s : Same F H) : ∀ (xs : List Dt) (ds : List PyData) (vs : List V), toPys xs = some ds → Reps K F xs vs → DpAll K H vs ds
  | [], ds, vs, h, r => by
    rw [reps_nil] at r; subst r
    simp only [toPys, Option.some.injEq] at h
    subst h
    exact .nil
  | x :: xs, ds, vs, h, r => by
    rw [reps_cons] at r
    obtain ⟨v, r', rfl, f, q⟩ := r
    simp only [toPys] at h
    split at h
    · rename_i d es h1 h2
      cases h
      exact .cons (toPy_dp s x d v h1 f) (toPys_dp s xs es r' h2 q)
    · cases h
end
end
def eqB (d1 d2 : Dt) : Option Bool := match d1, d2 with
  | .at v, .at w => if scal v w = true then some (decide (v = w)) else match toPy d1, toPy d2 with
    | some p, some q => if (SeqAt.shaped p && SeqAt.shaped q) = true then some (PyData.eqv p q) else none
    | _, _ => none
  | _, _ => match toPy d1, toPy d2 with
    | some p, some q => if (SeqAt.shaped p && SeqAt.shaped q) = true then some (PyData.eqv p q) else none
    | _, _ => none
def fEq (d1 d2 : Dt) : Option Dt := match eqB d1 d2 with | some b => some (.bl b) | none => none
def fNe (d1 d2 : Dt) : Option Dt := match eqB d1 d2 with | some b => some (.bl (!b)) | none => none
theorem eqB_inv {d1 d2 : Dt} {b : Bool} (h : eqB d1 d2 = some b) : (∃ v w, d1 = .at v ∧ d2 = .at w ∧ scal v w = true ∧ b = decide (v = w)) ∨ ∃ p q, toPy d1 = some p ∧ toPy d2 = some q ∧ SeqAt.shaped p = true ∧ SeqAt.shaped q = true ∧ b = PyData.eqv p q := by
  have key : ∀ {b : Bool}, (match toPy d1, toPy d2 with
    | some p, some q => if (SeqAt.shaped p && SeqAt.shaped q) = true then some (PyData.eqv p q) else none
    | _, _ => none) = some b → ∃ p q, toPy d1 = some p ∧ toPy d2 = some q ∧ SeqAt.shaped p = true ∧ SeqAt.shaped q = true ∧ b = PyData.eqv p q := by
    intro b h
    split at h
    · rename_i p q h1 h2
      split at h
      · rename_i hs
        cases h
        rw [Bool.and_eq_true] at hs
        exact ⟨p, q, h1, h2, hs.1, hs.2, rfl⟩
      · cases h
    · cases h
  unfold eqB at h
  split at h
  · split at h
    · rename_i hs
      cases h
      exact .inl ⟨_, _, rfl, rfl, hs, rfl⟩
    · exact .inr (key h)
  · exact .inr (key h)
/-- tests of whole numbers -/
def fLt : Dt → Dt → Option Dt := fI0 fun i j => .bl (decide (i < j))
def fLe : Dt → Dt → Option Dt := fI0 fun i j => .bl (decide (i ≤ j))
def fGt : Dt → Dt → Option Dt := fI0 fun i j => .bl (decide (j < i))
def fGe : Dt → Dt → Option Dt := fI0 fun i j => .bl (decide (j ≤ i))
def atsOf : List Dt → Option (List V)
  | [] => some []
  | .at v :: r => (match atsOf r with | some vs => some (v :: vs) | none => none)
  | _ :: _ => none
theorem atsOf_map : ∀ (vs : List V), atsOf (vs.map Dt.at) = some vs
  | [] => rfl
  | v :: vs => by
    show (match atsOf (vs.map Dt.at) with | some us => some (v :: us) | none => none) = some (v :: vs)
    rw [atsOf_map vs]
theorem atsOf_inv : ∀ {ds : List Dt} {vs : List V}, atsOf ds = some vs → ds = vs.map Dt.at
  | [], vs, h => by simp only [atsOf, Option.some.injEq] at h; subst h; rfl
  | .at v :: r, vs, h => by
    simp only [atsOf] at h
    split at h
    · rename_i us hu
      cases h
      rw [atsOf_inv hu]; rfl
    · cases h
  | .lst _ :: _, vs, h => by simp only [atsOf, reduceCtorEq] at h
  | .tup _ :: _, vs, h => by simp only [atsOf, reduceCtorEq] at h
  | .dic _ :: _, vs, h => by simp only [atsOf, reduceCtorEq] at h
  | .scr _ :: _, vs, h => by simp only [atsOf, reduceCtorEq] at h
def keyOf : Dt → Option Key
  | .at (.int i) => some (.inl i)
  | .at (.str x) => some (.inr x)
  | _ => none
theorem keyOf_inv {d : Dt} {k : Key} (h : keyOf d = some k) : d = .at (kV k) := by
  unfold keyOf at h
  split at h
  · cases h; rfl
  · cases h; rfl
  · cases h
/-- x in s -/
def inB (d1 d2 : Dt) : Option Bool := match d2 with
  | .lst ys => (match d1, atsOf ys with
    | .at v, some vs => if (flatV v && vs.all flatV) = true then some (inV v vs) else none
    | _, _ => none)
  | .tup ys => (match d1, atsOf ys with
    | .at v, some vs => if (flatV v && vs.all flatV) = true then some (inV v vs) else none
    | _, _ => none)
  | .dic kvs => (match keyOf d1 with
    | some k => some (valV kvs k).isSome
    | none => none)
  | _ => none
def fIn (d1 d2 : Dt) : Option Dt := match inB d1 d2 with | some b => some (.bl b) | none => none
def fNin (d1 d2 : Dt) : Option Dt := match inB d1 d2 with | some b => some (.bl (!b)) | none => none
def isNon : Dt → Bool
  | .at .non => true
  | _ => false
def fIs (d1 d2 : Dt) : Option Dt := match d2 with | .at .non => some (.bl (isNon d1)) | _ => none
def fIsN (d1 d2 : Dt) : Option Dt := match d2 with | .at .non => some (.bl (!isNon d1)) | _ => none
theorem isNon_eq {K : PySem.W.Frag} {F : Hp} {d : Dt} {x : V} (r : Rep K F d x) : decide (x = .non) = isNon d := by
  cases d with
  | «at» v =>
    rw [rep_at] at r; subst r
    cases x <;> rfl
  | lst xs => obtain ⟨_, _, rfl, _⟩ := rep_lst.mp r; rfl
  | tup xs => obtain ⟨_, _, rfl, _⟩ := rep_tup.mp r; rfl
  | dic xs => obtain ⟨_, rfl, _⟩ := rep_dic.mp r; rfl
  | scr xs => obtain ⟨_, rfl, _⟩ := rep_scr.mp r; rfl
theorem inB_inv {d1 d2 : Dt} {b : Bool} (h : inB d1 d2 = some b) : (∃ v vs, d1 = .at v ∧ (d2 = .lst (vs.map Dt.at) ∨ d2 = .tup (vs.map Dt.at)) ∧ flatV v = true ∧ vs.all flatV = true ∧ b = inV v vs) ∨ ∃ k kvs, d1 = .at (kV k) ∧ d2 = .dic kvs ∧ b = (valV kvs k).isSome := by
  have key : ∀ {d1 : Dt} {ys : List Dt} {b : Bool}, (match d1, atsOf ys with
    | .at v, some vs => if (flatV v && vs.all flatV) = true then some (inV v vs) else none
    | _, _ => none) = some b → ∃ v vs, d1 = .at v ∧ ys = vs.map Dt.at ∧ flatV v = true ∧ vs.all flatV = true ∧ b = inV v vs := by
    intro d1 ys b h
    split at h
    · rename_i v vs hv
      split at h
      · rename_i hs
        cases h
        rw [Bool.and_eq_true] at hs
        exact ⟨v, vs, rfl, atsOf_inv hv, hs.1, hs.2, rfl⟩
      · cases h
    · cases h
  unfold inB at h
  split at h
  · obtain ⟨v, vs, h1, h2, h3, h4, h5⟩ := key h
    exact .inl ⟨v, vs, h1, .inl (by rw [h2]), h3, h4, h5⟩
  · obtain ⟨v, vs, h1, h2, h3, h4, h5⟩ := key h
    exact .inl ⟨v, vs, h1, .inr (by rw [h2]), h3, h4, h5⟩
  · split at h
    · rename_i k hk
      cases h
      exact .inr ⟨k, _, keyOf_inv hk, rfl, rfl⟩
    · cases h
  · cases h
section
variable {X : Cx} {A : Ax X.K} {a b c : Expr} {wa wb wc : WEx} {pos : Pos}
theorem opS_eq : OpS A fEq (fun x y H Q => rEq x y H Q ∨ rEqD X.K x y H Q) := fun σ F H e Q x y d1 d2 d R r1 r2 hf h => by
  unfold fEq at hf
  split at hf
  · rename_i bb hb
    cases hf
    rcases eqB_inv hb with ⟨v, w, rfl, rfl, hs, rfl⟩ | ⟨p, q, h1, h2, h3, h4, rfl⟩
    · rw [rep_at] at r1 r2
      subst r1; subst r2
      exact .inl ⟨hs, goes_at h R⟩
    · exact .inr ⟨p, q, toPy_dp R.fh _ _ _ h1 r1, toPy_dp R.fh _ _ _ h2 r2, h3, h4, goes_at h R⟩
  · cases hf
theorem opS_ne : OpS A fNe (fun x y H Q => rNe x y H Q ∨ rNeD X.K x y H Q) := fun σ F H e Q x y d1 d2 d R r1 r2 hf h => by
  unfold fNe at hf
  split at hf
  · rename_i bb hb
    cases hf
    rcases eqB_inv hb with ⟨v, w, rfl, rfl, hs, rfl⟩ | ⟨p, q, h1, h2, h3, h4, rfl⟩
    · rw [rep_at] at r1 r2
      subst r1; subst r2
      exact .inl ⟨hs, goes_at h R⟩
    · exact .inr ⟨p, q, toPy_dp R.fh _ _ _ h1 r1, toPy_dp R.fh _ _ _ h2 r2, h3, h4, goes_at h R⟩
  · cases hf
theorem n_eq (hu : X.A.units + 64 < cLine) (ha : PE X a (TEx A wa)) (hb : PE X b (TEx A wb)) : PE X (.Compare a [.Eq] [b] pos) (TEx A (wO fEq wa wb)) := n_cmp (OpR.or op_eq (op_eqD hu)) opS_eq ha hb (nomark _)
theorem n_ne (hu : X.A.units + 64 < cLine) (ha : PE X a (TEx A wa)) (hb : PE X b (TEx A wb)) : PE X (.Compare a [.NotEq] [b] pos) (TEx A (wO fNe wa wb)) := n_cmp (OpR.or op_ne (op_neD hu)) opS_ne ha hb (nomark _)
theorem n_lt (ha : PE X a (TEx A wa)) (hb : PE X b (TEx A wb)) : PE X (.Compare a [.Lt] [b] pos) (TEx A (wO fLt wa wb)) := n_cmp op_lt opS_I0 ha hb (nomark _)
theorem n_le (ha : PE X a (TEx A wa)) (hb : PE X b (TEx A wb)) : PE X (.Compare a [.LtE] [b] pos) (TEx A (wO fLe wa wb)) := n_cmp op_le opS_I0 ha hb (nomark _)
theorem n_gt (ha : PE X a (TEx A wa)) (hb : PE X b (TEx A wb)) : PE X (.Compare a [.Gt] [b] pos) (TEx A (wO fGt wa wb)) := n_cmp op_gt opS_I0 ha hb (nomark _)
theorem n_ge (ha : PE X a (TEx A wa)) (hb : PE X b (TEx A wb)) : PE X (.Compare a [.GtE] [b] pos) (TEx A (wO fGe wa wb)) := n_cmp op_ge opS_I0 ha hb (nomark _)
theorem opS_is : OpS A fIs (fun x y H Q => y = .non ∧ Q (.bl (decide (x = .non))) H) := fun σ F H e Q x y d1 d2 d R r1 r2 hf h => by
  unfold fIs at hf
  split at hf
  · cases hf
    rw [isNon_eq r1]
    exact ⟨rep_at.mp r2, goes_at h R⟩
  · cases hf
theorem opS_isn : OpS A fIsN (fun x y H Q => y = .non ∧ Q (.bl (!decide (x = .non))) H) := fun σ F H e Q x y d1 d2 d R r1 r2 hf h => by
  unfold fIsN at hf
  split at hf
  · cases hf
    rw [isNon_eq r1]
    exact ⟨rep_at.mp r2, goes_at h R⟩
  · cases hf
theorem n_is (ha : PE X a (TEx A wa)) (hb : PE X b (TEx A wb)) : PE X (.Compare a [.Is] [b] pos) (TEx A (wO fIs wa wb)) := n_cmp op_isN opS_is ha hb (nomark _)
theorem n_isn (ha : PE X a (TEx A wa)) (hb : PE X b (TEx A wb)) : PE X (.Compare a [.IsNot] [b] pos) (TEx A (wO fIsN wa wb)) := n_cmp op_notN opS_isn ha hb (nomark _)
/-- x in a dict -/
def rDIn (neg : Bool) : R2 := fun x y H Q => ∃ a kvs k, y = .ref a ∧ Rd H a (.dK kvs) ∧ x = kV k ∧ Q (.bl (if neg then !(valV kvs k).isSome else (valV kvs k).isSome)) H
theorem op_din (hu : X.A.units + 1 < cLine) : OpR X (compareOp .In) (rDIn false) := fun pins s σ H x y v u Q I rx ry ⟨a, kvs, k, e, hr, ek, q⟩ => by
  subst e; subst ek
  obtain rfl : u = .ref a := ry
  exact d_in hu I (.inl ⟨kvs, k, hr, rfl, rfl⟩) rx fun s' I' => ⟨.bl _, H, I', rfl, q⟩
theorem op_dnin (hu : X.A.units + 1 < cLine) : OpR X (compareOp .NotIn) (rDIn true) := fun pins s σ H x y v u Q I rx ry ⟨a, kvs, k, e, hr, ek, q⟩ => by
  subst e; subst ek
  obtain rfl : u = .ref a := ry
  exact d_notIn hu I (.inl ⟨kvs, k, hr, rfl, rfl⟩) rx fun s' I' => ⟨.bl _, H, I', rfl, q⟩
theorem opS_in : OpS A fIn (fun x y H Q => rIn X.K false x y H Q ∨ rDIn false x y H Q) := fun σ F H e Q x y d1 d2 d R r1 r2 hf h => by
  unfold fIn at hf
  split at hf
  · rename_i bb hb
    cases hf
    rcases inB_inv hb with ⟨v, vs, rfl, h2, h3, h4, rfl⟩ | ⟨k, kvs, rfl, rfl, rfl⟩
    · rw [rep_at] at r1; subst r1
      rcases h2 with rfl | rfl
      · obtain ⟨p, us, rfl, f, q, l⟩ := rep_lst.mp r2
        rw [reps_ats] at q; subst q
        exact .inl ⟨p, _, rfl, .inl (SqL.of (R.fh _ _ f)), h3, h4, goes_at h R⟩
      · obtain ⟨p, us, rfl, f, q, l⟩ := rep_tup.mp r2
        rw [reps_ats] at q; subst q
        exact .inl ⟨p, _, rfl, .inr (sqt_mono R.fh f), h3, h4, goes_at h R⟩
    · rw [rep_at] at r1; subst r1
      obtain ⟨p, rfl, f, l⟩ := rep_dic.mp r2
      exact .inr ⟨p, kvs, k, rfl, .inl (R.fh _ _ f), rfl, goes_at h R⟩
  · cases hf
theorem opS_nin : OpS A fNin (fun x y H Q => rIn X.K true x y H Q ∨ rDIn true x y H Q) := fun σ F H e Q x y d1 d2 d R r1 r2 hf h => by
  unfold fNin at hf
  split at hf
  · rename_i bb hb
    cases hf
    rcases inB_inv hb with ⟨v, vs, rfl, h2, h3, h4, rfl⟩ | ⟨k, kvs, rfl, rfl, rfl⟩
    · rw [rep_at] at r1; subst r1
      rcases h2 with rfl | rfl
      · obtain ⟨p, us, rfl, f, q, l⟩ := rep_lst.mp r2
        rw [reps_ats] at q; subst q
        exact .inl ⟨p, _, rfl, .inl (SqL.of (R.fh _ _ f)), h3, h4, goes_at h R⟩
      · obtain ⟨p, us, rfl, f, q, l⟩ := rep_tup.mp r2
        rw [reps_ats] at q; subst q
        exact .inl ⟨p, _, rfl, .inr (sqt_mono R.fh f), h3, h4, goes_at h R⟩
    · rw [rep_at] at r1; subst r1
      obtain ⟨p, rfl, f, l⟩ := rep_dic.mp r2
      exact .inr ⟨p, kvs, k, rfl, .inl (R.fh _ _ f), rfl, goes_at h R⟩
  · cases hf
theorem n_in (hu : X.A.units + 1 < cLine) (ha : PE X a (TEx A wa)) (hb : PE X b (TEx A wb)) (hm : behindInMarks .In b = false := by rfl) : PE X (.Compare a [.In] [b] pos) (TEx A (wO fIn wa wb)) := n_cmp (OpR.or op_in_seq (op_din hu)) opS_in ha hb hm
theorem n_nin (hu : X.A.units + 1 < cLine) (ha : PE X a (TEx A wa)) (hb : PE X b (TEx A wb)) (hm : behindInMarks .NotIn b = false := by rfl) : PE X (.Compare a [.NotIn] [b] pos) (TEx A (wO fNin wa wb)) := n_cmp (OpR.or op_notIn_seq (op_dnin hu)) opS_nin ha hb hm
/-- a <= b <= c of whole numbers -/
def wCh (a b c : WEx) : WEx := fun e => bnd (a e) fun x e1 => bnd (b e1) fun y e2 => match fLe x y with
  | some (.at (.bl true)) => bnd (c e2) fun z e3 => pur (fLe y z) e3
  | some (.at (.bl false)) => some (.ok (.bl false) e2)
  | _ => none
theorem n_chain (ha : PE X a (TEx A wa)) (hb : PE X b (TEx A wb)) (hc : PE X c (TEx A wc)) (hm : lastMarks [.LtE, .LtE] [b, c] = false := by with_unfolding_all rfl) : PE X (.Compare a [.LtE, .LtE] [b, c] pos) (TEx A (wCh wa wb wc)) :=
  pe_imp (pe_chain op_le op_le ha hb hc hm) fun σ H Q ⟨F, e, R, h⟩ => ⟨F, e, R, (FinG.bind (R := Rep X.K) h).imp fun x H1 ⟨F1, d1, e1, s1, R1, r1, h1⟩ => ⟨F1, e1, R1, (FinG.bind (R := Rep X.K) h1).imp fun y H2 ⟨F2, d2, e2, s2, R2, r2, h2⟩ => by
    split at h2
    · rename_i hf
      obtain ⟨i, j, rfl, rfl, hd⟩ := fI0_inv hf
      injection hd with hd; injection hd with hd
      refine ⟨i, j, rep_at.mp (r1.mono s2), rep_at.mp r2, _, rfl, ?_⟩
      rw [← hd, if_pos rfl]
      refine ⟨F2, e2, R2, (FinG.bind (R := Rep X.K) h2).imp fun z H3 ⟨F3, d3, e3, s3, R3, r3, h3⟩ => ?_⟩
      obtain ⟨d, hf2, hg⟩ := fin_pur h3
      obtain ⟨j', k, ej, rfl, rfl⟩ := fI0_inv hf2
      exact ⟨j', k, by rw [rep_at.mp r2]; injection ej, rep_at.mp r3, goes_at hg R3⟩
    · rename_i hf
      obtain ⟨i, j, rfl, rfl, hd⟩ := fI0_inv hf
      injection hd with hd; injection hd with hd
      refine ⟨i, j, rep_at.mp (r1.mono s2), rep_at.mp r2, _, rfl, ?_⟩
      rw [← hd, if_neg (by decide)]
      exact h2 F2 H2 _ (Same.refl F2) R2 (rep_at.mpr rfl)
    · exact h2.elim⟩⟩
end
end Ly
set_option maxHeartbeats 1000000
/-! Ly4: tests, statements, loops, defs. -/
namespace Ly
open PySem PySem.Spec PyProof.Rows L2

/-! ### tests -/
def boolOf : Dt → Option Bool
  | .at (.bl b) => some b
  | _ => none
theorem boolOf_inv {d : Dt} {b : Bool} (h : boolOf d = some b) : d = .bl b := by
  unfold boolOf at h
  split at h
  · cases h; rfl
  · cases h
def wT (w : WEx) : WTx := fun e => bnd (w e) fun d e1 => pur (boolOf d) e1
def wTand (a b : WTx) : WTx := fun e => bnd (a e) fun k e1 => match k with | true => b e1 | false => some (.ok false e1)
def wTor (a b : WTx) : WTx := fun e => bnd (a e) fun k e1 => match k with | true => some (.ok true e1) | false => b e1
def wTnot (a : WTx) : WTx := fun e => bnd (a e) fun k e1 => some (.ok (!k) e1)
def wAnd (a b : WEx) : WEx := fun e => bnd (a e) fun d e1 => match boolOf d with | some true => b e1 | some false => some (.ok (.bl false) e1) | none => none
def wOr (a b : WEx) : WEx := fun e => bnd (a e) fun d e1 => match boolOf d with | some true => some (.ok (.bl true) e1) | some false => b e1 | none => none
def wNot (a : WEx) : WEx := fun e => bnd (a e) fun d e1 => match boolOf d with | some k => some (.ok (.bl (!k)) e1) | none => none
def wIfE (t : WTx) (a b : WEx) : WEx := fun e => bnd (t e) fun k e1 => match k with | true => a e1 | false => b e1
section
variable {X : Cx} {A : Ax X.K} {a b c : Expr} {wa wb wc : WEx} {ta tb : WTx} {rest : List Expr} {pos : Pos}
theorem fin_b {σ : St} {F : Hp} {Q : Bool → Hp → Prop} {o : Option Bool} {e : En} (h : FinG A RB σ F Q (pur o e)) : ∃ b, o = some b ∧ ∀ F' H', Same F F' → Rl X.K A.B F' H' σ e → Q b H' := by
  cases o with
  | none => exact h.elim
  | some d => exact ⟨d, rfl, fun F' H' s R => h F' H' d s R rfl⟩
theorem n_t (ha : PE X a (TEx A wa)) (he : ∀ whole, isTrue a X.env whole = (do let v ← whole; standAt a.pos; holding [v] (truthy v)) := by intro _; rfl) : PT X a (TTx A (wT wa)) :=
  pt_imp (pt_val ha he) fun σ H Q ⟨F, e, R, h⟩ => ⟨F, e, R, (FinG.bind (R := Rep X.K) h).imp fun v H1 ⟨F1, d, e1, s1, R1, r1, h1⟩ => by
    obtain ⟨b, hb, hg⟩ := fin_b h1
    rw [boolOf_inv hb, rep_at] at r1
    exact ⟨b, r1, hg F1 H1 (Same.refl F1) R1⟩⟩
/-- a comparison as a test -/
theorem n_tc {op : CmpOp} {f : Dt → Dt → Option Dt} {r : R2} (ho : OpR X (compareOp op) r) (hs : OpS A f r) (hr : ∀ x y H Q Q', (∀ v H, Q v H → Q' v H) → r x y H Q → r x y H Q') (ha : PE X a (TEx A wa)) (hb : PE X b (TEx A wb)) (hm : behindInMarks op b = false) : PT X (.Compare a [op] [b] pos) (TTx A (wT (wO f wa wb))) :=
  pt_imp (pt_cmpR ho ha hb hm) fun σ H Q ⟨F, e, R, h⟩ => tx_op (Q := fun x H' => ∃ k, x = V.bl k ∧ Q k H') hs ⟨F, e, R, (FinG.bind (R := Rep X.K) h).imp fun v H1 ⟨F1, d, e1, s1, R1, r1, h1⟩ => by
    obtain ⟨b, hb, hg⟩ := fin_b h1
    rw [boolOf_inv hb, rep_at] at r1
    exact ⟨b, r1, hg F1 H1 (Same.refl F1) R1⟩⟩
theorem n_teq (hu : X.A.units + 64 < cLine) (ha : PE X a (TEx A wa)) (hb : PE X b (TEx A wb)) : PT X (.Compare a [.Eq] [b] pos) (TTx A (wT (wO fEq wa wb))) := n_tc (OpR.or op_eq (op_eqD hu)) opS_eq (fun _ _ _ _ _ k h => h.imp (fun ⟨a, b⟩ => ⟨a, k _ _ b⟩) fun ⟨d, e, a, b, c, f, g⟩ => ⟨d, e, a, b, c, f, k _ _ g⟩) ha hb (nomark _)
theorem n_tne (hu : X.A.units + 64 < cLine) (ha : PE X a (TEx A wa)) (hb : PE X b (TEx A wb)) : PT X (.Compare a [.NotEq] [b] pos) (TTx A (wT (wO fNe wa wb))) := n_tc (OpR.or op_ne (op_neD hu)) opS_ne (fun _ _ _ _ _ k h => h.imp (fun ⟨a, b⟩ => ⟨a, k _ _ b⟩) fun ⟨d, e, a, b, c, f, g⟩ => ⟨d, e, a, b, c, f, k _ _ g⟩) ha hb (nomark _)
theorem mono_I0 {g : Int → Int → V} : ∀ x y H (Q Q' : VK), (∀ v H, Q v H → Q' v H) → rI0 g x y H Q → rI0 g x y H Q' := fun _ _ _ _ _ k ⟨i, j, a, b, c⟩ => ⟨i, j, a, b, k _ _ c⟩
theorem n_tlt (ha : PE X a (TEx A wa)) (hb : PE X b (TEx A wb)) : PT X (.Compare a [.Lt] [b] pos) (TTx A (wT (wO fLt wa wb))) := n_tc op_lt opS_I0 mono_I0 ha hb (nomark _)
theorem n_tle (ha : PE X a (TEx A wa)) (hb : PE X b (TEx A wb)) : PT X (.Compare a [.LtE] [b] pos) (TTx A (wT (wO fLe wa wb))) := n_tc op_le opS_I0 mono_I0 ha hb (nomark _)
theorem n_tgt (ha : PE X a (TEx A wa)) (hb : PE X b (TEx A wb)) : PT X (.Compare a [.Gt] [b] pos) (TTx A (wT (wO fGt wa wb))) := n_tc op_gt opS_I0 mono_I0 ha hb (nomark _)
theorem n_tge (ha : PE X a (TEx A wa)) (hb : PE X b (TEx A wb)) : PT X (.Compare a [.GtE] [b] pos) (TTx A (wT (wO fGe wa wb))) := n_tc op_ge opS_I0 mono_I0 ha hb (nomark _)
theorem n_tin (hu : X.A.units + 1 < cLine) (ha : PE X a (TEx A wa)) (hb : PE X b (TEx A wb)) (hm : behindInMarks .In b = false := by rfl) : PT X (.Compare a [.In] [b] pos) (TTx A (wT (wO fIn wa wb))) := n_tc (OpR.or op_in_seq (op_din hu)) opS_in (fun _ _ _ _ _ k h => h.imp (fun ⟨p, xs, a, b, c, d, e⟩ => ⟨p, xs, a, b, c, d, k _ _ e⟩) fun ⟨p, kvs, q, a, b, c, d⟩ => ⟨p, kvs, q, a, b, c, k _ _ d⟩) ha hb hm
theorem n_tnin (hu : X.A.units + 1 < cLine) (ha : PE X a (TEx A wa)) (hb : PE X b (TEx A wb)) (hm : behindInMarks .NotIn b = false := by rfl) : PT X (.Compare a [.NotIn] [b] pos) (TTx A (wT (wO fNin wa wb))) := n_tc (OpR.or op_notIn_seq (op_dnin hu)) opS_nin (fun _ _ _ _ _ k h => h.imp (fun ⟨p, xs, a, b, c, d, e⟩ => ⟨p, xs, a, b, c, d, k _ _ e⟩) fun ⟨p, kvs, q, a, b, c, d⟩ => ⟨p, kvs, q, a, b, c, k _ _ d⟩) ha hb hm
theorem n_tis (ha : PE X a (TEx A wa)) (hb : PE X b (TEx A wb)) : PT X (.Compare a [.Is] [b] pos) (TTx A (wT (wO fIs wa wb))) := n_tc op_isN opS_is (fun _ _ _ _ _ k ⟨a, b⟩ => ⟨a, k _ _ b⟩) ha hb (nomark _)
theorem n_tisn (ha : PE X a (TEx A wa)) (hb : PE X b (TEx A wb)) : PT X (.Compare a [.IsNot] [b] pos) (TTx A (wT (wO fIsN wa wb))) := n_tc op_notN opS_isn (fun _ _ _ _ _ k ⟨a, b⟩ => ⟨a, k _ _ b⟩) ha hb (nomark _)
theorem n_tchain (ha : PE X a (TEx A wa)) (hb : PE X b (TEx A wb)) (hc : PE X c (TEx A wc)) (hm : lastMarks [.LtE, .LtE] [b, c] = false := by with_unfolding_all rfl) : PT X (.Compare a [.LtE, .LtE] [b, c] pos) (TTx A (wT (wCh wa wb wc))) :=
  pt_imp (pt_chain op_le op_le ha hb hc hm) fun σ H Q ⟨F, e, R, h⟩ => by
    show tChain _ _ _ _ _ σ H fun x H' => ∃ k, x = V.bl k ∧ Q k H'
    refine ⟨F, e, R, (FinG.bind (R := Rep X.K) (FinG.bind (R := Rep X.K) h)).imp fun x H1 ⟨F1, d1, e1, s1, R1, r1, h1⟩ => ⟨F1, e1, R1, (FinG.bind (R := Rep X.K) h1).imp fun y H2 ⟨F2, d2, e2, s2, R2, r2, h2⟩ => ?_⟩⟩
    have fin : ∀ {F' : Hp} {H' : Hp} {v : V}, (∃ F1 d e1, Same F' F1 ∧ Rl X.K A.B F1 H' σ e1 ∧ Rep X.K F1 d v ∧ FinG A RB σ F1 Q (pur (boolOf d) e1)) → ∃ k, v = V.bl k ∧ Q k H' := fun {F' H' v} ⟨F1, d, e1, s, R1, r1, h1⟩ => by
      obtain ⟨b, hb, hg⟩ := fin_b h1
      rw [boolOf_inv hb, rep_at] at r1
      exact ⟨b, r1, hg F1 H' (Same.refl F1) R1⟩
    split at h2
    · rename_i hf
      obtain ⟨i, j, rfl, rfl, hd⟩ := fI0_inv hf
      injection hd with hd; injection hd with hd
      refine ⟨i, j, rep_at.mp (r1.mono s2), rep_at.mp r2, _, rfl, ?_⟩
      rw [← hd, if_pos rfl]
      refine ⟨F2, e2, R2, (FinG.bind (R := Rep X.K) h2).imp fun z H3 ⟨F3, d3, e3, s3, R3, r3, h3⟩ => ?_⟩
      obtain ⟨d, hf2, hg⟩ := fin_pur h3
      obtain ⟨j', k, ej, rfl, rfl⟩ := fI0_inv hf2
      exact ⟨j', k, by rw [rep_at.mp r2]; injection ej, rep_at.mp r3, fin (goes_at hg R3)⟩
    · rename_i hf
      obtain ⟨i, j, rfl, rfl, hd⟩ := fI0_inv hf
      injection hd with hd; injection hd with hd
      refine ⟨i, j, rep_at.mp (r1.mono s2), rep_at.mp r2, _, rfl, ?_⟩
      rw [← hd, if_neg (by decide)]
      exact fin (h2 F2 H2 _ (Same.refl F2) R2 (rep_at.mpr rfl))
    · exact h2.elim
theorem n_tand1 (ha : PT X a (TTx A ta)) : PW X (.BoolOp .And [a] pos) (TTx A ta) := pw_and1 ha
theorem n_tor1 (ha : PT X a (TTx A ta)) : PW X (.BoolOp .Or [a] pos) (TTx A ta) := pw_or1 ha
theorem n_tand (ha : PT X a (TTx A ta)) (hb : PW X (.BoolOp .And (b :: rest) pos) (TTx A tb)) : PW X (.BoolOp .And (a :: b :: rest) pos) (TTx A (wTand ta tb)) :=
  pw_imp (pw_and ha hb) fun σ H Q ⟨F, e, R, h⟩ => ⟨F, e, R, (FinG.bind (R := RB) h).imp fun c H1 ⟨F1, k, e1, s1, R1, r1, h1⟩ => by
    obtain rfl : c = k := r1
    cases c with
    | true => exact ⟨F1, e1, R1, h1⟩
    | false => exact h1 F1 H1 false (Same.refl F1) R1 rfl⟩
theorem n_tor (ha : PT X a (TTx A ta)) (hb : PW X (.BoolOp .Or (b :: rest) pos) (TTx A tb)) : PW X (.BoolOp .Or (a :: b :: rest) pos) (TTx A (wTor ta tb)) :=
  pw_imp (pw_or ha hb) fun σ H Q ⟨F, e, R, h⟩ => ⟨F, e, R, (FinG.bind (R := RB) h).imp fun c H1 ⟨F1, k, e1, s1, R1, r1, h1⟩ => by
    obtain rfl : c = k := r1
    cases c with
    | true => exact h1 F1 H1 true (Same.refl F1) R1 rfl
    | false => exact ⟨F1, e1, R1, h1⟩⟩
theorem n_tw {e : Expr} (h : PW X e (TTx A ta)) : PT X e (TTx A ta) := h.pt
theorem n_tnot (ha : PT X a (TTx A ta)) : PT X (.UnaryOp .Not a pos) (TTx A (wTnot ta)) :=
  pt_imp (pt_not ha) fun σ H Q ⟨F, e, R, h⟩ => ⟨F, e, R, (FinG.bind (R := RB) h).imp fun c H1 ⟨F1, k, e1, s1, R1, r1, h1⟩ => by
    obtain rfl : c = k := r1
    exact h1 F1 H1 _ (Same.refl F1) R1 rfl⟩
theorem n_one {op : BoolOp} (ha : PE X a (TEx A wa)) : PE X (.BoolOp op [a] pos) (TEx A wa) := pe_one ha
theorem n_and (ha : PE X a (TEx A wa)) (hb : PE X (.BoolOp .And (b :: rest) pos) (TEx A wb)) : PE X (.BoolOp .And (a :: b :: rest) pos) (TEx A (wAnd wa wb)) :=
  pe_imp (pe_and ha hb) fun σ H Q ⟨F, e, R, h⟩ => ⟨F, e, R, (FinG.bind (R := Rep X.K) h).imp fun v H1 ⟨F1, d, e1, s1, R1, r1, h1⟩ => by
    split at h1
    · rename_i hb
      rw [boolOf_inv hb, rep_at] at r1
      exact ⟨true, r1, by rw [if_pos rfl]; exact ⟨F1, e1, R1, h1⟩⟩
    · rename_i hb
      rw [boolOf_inv hb, rep_at] at r1
      exact ⟨false, r1, by rw [if_neg (by decide)]; exact h1 F1 H1 _ (Same.refl F1) R1 (rep_at.mpr rfl)⟩
    · exact h1.elim⟩
theorem n_or (ha : PE X a (TEx A wa)) (hb : PE X (.BoolOp .Or (b :: rest) pos) (TEx A wb)) : PE X (.BoolOp .Or (a :: b :: rest) pos) (TEx A (wOr wa wb)) :=
  pe_imp (pe_or ha hb) fun σ H Q ⟨F, e, R, h⟩ => ⟨F, e, R, (FinG.bind (R := Rep X.K) h).imp fun v H1 ⟨F1, d, e1, s1, R1, r1, h1⟩ => by
    split at h1
    · rename_i hb
      rw [boolOf_inv hb, rep_at] at r1
      exact ⟨true, r1, by rw [if_pos rfl]; exact h1 F1 H1 _ (Same.refl F1) R1 (rep_at.mpr rfl)⟩
    · rename_i hb
      rw [boolOf_inv hb, rep_at] at r1
      exact ⟨false, r1, by rw [if_neg (by decide)]; exact ⟨F1, e1, R1, h1⟩⟩
    · exact h1.elim⟩
theorem n_not (ha : PE X a (TEx A wa)) : PE X (.UnaryOp .Not a pos) (TEx A (wNot wa)) :=
  pe_imp (pe_not ha) fun σ H Q ⟨F, e, R, h⟩ => ⟨F, e, R, (FinG.bind (R := Rep X.K) h).imp fun v H1 ⟨F1, d, e1, s1, R1, r1, h1⟩ => by
    split at h1
    · rename_i k hb
      rw [boolOf_inv hb, rep_at] at r1
      exact ⟨k, r1, h1 F1 H1 _ (Same.refl F1) R1 (rep_at.mpr rfl)⟩
    · exact h1.elim⟩
theorem n_ife (hc : PT X c (TTx A ta)) (ha : PE X a (TEx A wa)) (hb : PE X b (TEx A wb)) : PE X (.IfExp c a b pos) (TEx A (wIfE ta wa wb)) :=
  pe_imp (pe_ifExp hc ha hb) fun σ H Q ⟨F, e, R, h⟩ => ⟨F, e, R, (FinG.bind (R := RB) h).imp fun c H1 ⟨F1, k, e1, s1, R1, r1, h1⟩ => by
    obtain rfl : c = k := r1
    cases c with
    | true => rw [if_pos rfl]; exact ⟨F1, e1, R1, h1⟩
    | false => rw [if_neg (by decide)]; exact ⟨F1, e1, R1, h1⟩⟩
end

/-! ### statements -/
def wSeq (a b : WSt) : WSt := fun e => match a e with
  | some (.nx e1) => b e1
  | r => r
def wSkip : WSt := fun e => some (.nx e)
def wIf (c : WTx) (a b : WSt) : WSt := fun e => bns (c e) fun k e1 => match k with | true => a e1 | false => b e1
def wRet (a : WEx) : WSt := fun e => bns (a e) fun d e1 => some (.rt (.v d) e1)
def wRetN : WSt := fun e => some (.rt (.v .non) e)
def wRetL (a : WAx) : WSt := fun e => bns (a e) fun ds e1 => if ds.length ≤ sizeLine then some (.rt (.m ds) e1) else none
def wDo (a : WEx) : WSt := fun e => bns (a e) fun _ e1 => some (.nx e1)
def wBk : WSt := fun e => some (.bk e)
def wCt : WSt := fun e => some (.ct e)
def wNo : WSt := fun _ => none
section
variable {X : Cx} {A : Ax X.K} {a c : Expr} {wa : WEx} {ta : WTx} {s : Stmt} {ss tt : List Stmt} {w1 w2 : WSt} {pos : Pos}
theorem n_sn : PSs X [] (TSx A wSkip) := pss_imp pss_nil fun D σ H ⟨F, e, R, h⟩ => h F H σ (Same.refl F) R
theorem n_sc (h1 : PS X s (TSx A w1)) (h2 : PSs X ss (TSx A w2)) : PSs X (s :: ss) (TSx A (wSeq w1 w2)) :=
  pss_imp (pss_cons h1 h2) fun D σ H ⟨F, e, R, h⟩ => by
    refine ⟨F, e, R, ?_⟩
    unfold wSeq at h
    split at h
    · rename_i e1 h1
      rw [h1]
      exact fun F' H' σ' s' R' => ⟨F', e1, R', FinS.mono s' h⟩
    · rename_i hn
      revert h
      cases hr : w1 e with
      | none => exact fun h => h
      | some o =>
        cases o with
        | nx e1 => exact absurd hr (hn e1)
        | rt t e1 => exact fun h => h
        | bk e1 => exact fun h => h
        | ct e1 => exact fun h => h
        | er c => exact fun h => h
theorem n_s1 (h1 : PS X s (TSx A w1)) : PSs X [s] (TSx A w1) := pss_one h1
theorem n_never : PSs X ss (TSx A wNo) := pss_imp pss_never fun D σ H ⟨F, e, R, h⟩ => h
theorem n_pass : PS X (.Pass pos) (TSx A wSkip) := ps_imp ps_pass fun D σ H ⟨F, e, R, h⟩ => h F H σ (Same.refl F) R
theorem n_break : PS X (.Break pos) (TSx A wBk) := ps_imp ps_break fun D σ H ⟨F, e, R, h⟩ => h F H σ (Same.refl F) R
theorem n_if (hc : PT X c (TTx A ta)) (ha : PSs X ss (TSx A w1)) (hb : PSs X tt (TSx A w2)) : PS X (.If c ss tt pos) (TSx A (wIf ta w1 w2)) :=
  ps_imp (ps_if hc ha hb) fun D σ H ⟨F, e, R, h⟩ => ⟨F, e, R, (FinS.bind (R := RB) h).imp fun c H1 ⟨F1, k, e1, s1, R1, r1, h1⟩ => by
    obtain rfl : c = k := r1
    cases c with
    | true => rw [if_pos rfl]; exact ⟨F1, e1, R1, h1⟩
    | false => rw [if_neg (by decide)]; exact ⟨F1, e1, R1, h1⟩⟩
theorem n_ret (ha : PE X a (TEx A wa)) : PS X (.Return (some a) pos) (TSx A (wRet wa)) :=
  ps_imp (ps_ret ha) fun D σ H ⟨F, e, R, h⟩ => ⟨F, e, R, (FinS.bind (R := Rep X.K) h).imp fun v H1 ⟨F1, d, e1, s1, R1, r1, h1⟩ => h1 F1 H1 σ v (Same.refl F1) R1 r1 (fun z => z.elim)⟩
theorem n_retN : PS X (.Return none pos) (TSx A wRetN) := ps_imp ps_retN fun D σ H ⟨F, e, R, h⟩ => h F H σ .non (Same.refl F) R (show Rep X.K F (.at .non) .non from rep_at.mpr rfl) (fun z => z.elim)
/-- return [..]: the list is the caller's own -/
theorem n_retL {es : List Expr} {ws : WAx} {p : Pos} (ha : PA X es (TAx A ws)) : PS X (.Return (some (.List es p)) pos) (TSx A (wRetL ws)) :=
  ps_imp (ps_ret (pe_lst ha)) fun D σ H ⟨F, e, R, h⟩ => ⟨F, e, R, (FinS.bind (R := Reps X.K) h).imp fun vs H1 ⟨F1, ds, e1, s1, R1, r1, h1⟩ => by
    split at h1
    · rename_i hl
      rw [r1.len] at hl
      refine ⟨hl, fun p hp => ?_⟩
      have fp := same_none R1.fh hp
      have bp : A.B.H p = none := by
        cases hb : A.B.H p with
        | none => rfl
        | some o =>
          obtain ⟨o', ho⟩ := R1.th p o hb
          rw [hp] at ho; cases ho
      refine h1 F1 _ σ _ (Same.refl F1) ?_ ⟨p, vs, rfl, fp, upd_same, r1, hl, .inr bp⟩ (fun _ q hq => by cases hq; exact bp)
      refine ⟨same_mut R1.fh fp, R1.f0, fun b o h1 h2 h3 => same_new hp _ _ (R1.h0 b o h1 h2 h3), fun b o hb => ?_, R1.nf, R1.tbs.ext (same_new hp), R1.tF, R1.len, R1.ln, fun i s hi => ?_, R1.own, R1.pin, R1.pin0⟩
      · obtain ⟨o', ho⟩ := R1.th b o hb
        exact ⟨o', same_new hp _ _ ho⟩
      · obtain ⟨v, q1, q2⟩ := R1.sl i s hi
        refine ⟨v, q1, q2.mono (Same.refl F1) fun q hq ho => ?_⟩
        subst hq
        obtain ⟨z1, ⟨ob, z2, _⟩, _⟩ := q2.at ho
        exact ⟨z1, upd_ne (ne_of_none z2 hp)⟩
    · exact h1.elim⟩
theorem n_do (ha : PE X a (TEx A wa)) (hs : swapsWith a none pos.line X.env = pure false := by rfl) : PS X (.Expr a pos) (TSx A (wDo wa)) :=
  ps_imp (ps_expr ha hs) fun D σ H ⟨F, e, R, h⟩ => ⟨F, e, R, (FinS.bind (R := Rep X.K) h).imp fun v H1 ⟨F1, d, e1, s1, R1, r1, h1⟩ => h1 F1 H1 σ (Same.refl F1) R1⟩
end

/-! ### targets -/
theorem lt_by {i n : Nat} (h : Nat.blt i n = true) : i < n := Nat.blt_eq.mp h
abbrev Tgt := Dt → En → Option En
def gN (i : Nat) : Tgt := fun d e => some (st e i (some (.v d)))
def gL : List Nat → List Dt → En → Option En
  | [], [], e => some e
  | i :: is, d :: ds, e => gL is ds (st e i (some (.v d)))
  | _, _, _ => none
def gT (is : List Nat) : Tgt := fun d e => match d with
  | .tup ds => gL is ds e
  | _ => none
section
variable {X : Cx} {A : Ax X.K}
/-- what an assignment does: d, told by v, goes to the target; the slots may change -/
abbrev TGx (A : Ax X.K) (g : Tgt) : TG := fun v σ H Q => ∃ F e d e', Rl X.K A.B F H σ e ∧ Rep X.K F d v ∧ g d e = some e' ∧ ∀ σ', Rl X.K A.B F H σ' e' → Q σ' H
def Free (A : Ax X.K) (i : Nat) : Prop := i < A.B.n ∧ (A.B.S ≠ none → i ≠ 0)
theorem n_gN {i : Nat} {x : Str} {pos : Pos} (hi : Free A i) (hN : X.N.Nodup) (hx : X.N[i]? = some x) (hl : Loc X.env.scope x) (hf : X.fn x = true ∨ X.env.scope.names.lookup x = some .local := by first | exact .inl rfl | exact .inr rfl | assumption) : PG X (.Name x pos) (TGx A (gN i)) :=
  ⟨fun pins s σ H v u Q I r ⟨F, e, d, e', R, rd, hg, hq⟩ => (pg_name hN hx hl hf).run pins s σ H v u Q I r (by
    cases hg
    exact hq _ (R.setV (by rw [R.ln]; exact hi.1) hi.2 rd))⟩
abbrev TGs (A : Ax X.K) (is : List Nat) : TGs := fun vs σ H Q => ∃ F e ds e', Rl X.K A.B F H σ e ∧ Reps X.K F ds vs ∧ gL is ds e = some e' ∧ ∀ σ', Rl X.K A.B F H σ' e' → Q σ' H
theorem n_gnil : PGs X [] (TGs A []) :=
  ⟨fun pins s σ H vs us Q I r ⟨F, e, ds, e', R, rd, hg, hq⟩ => pgs_nil.run pins s σ H vs us Q I r (by
    cases ds with
    | nil =>
      rw [reps_nil] at rd; subst rd
      cases hg
      exact ⟨rfl, hq _ R⟩
    | cons d ds => simp [gL] at hg)⟩
theorem n_gcons {i : Nat} {is : List Nat} {x : Str} {pos : Pos} {es : List Expr} (hi : Free A i) (hN : X.N.Nodup) (hx : X.N[i]? = some x) (hl : Loc X.env.scope x) (h2 : PGs X es (TGs A is)) (hf : X.fn x = true ∨ X.env.scope.names.lookup x = some .local := by first | exact .inl rfl | exact .inr rfl | assumption)
    (hs : (assignEach (.Name x pos :: es) X.env).map (·.2) = assign (.Name x pos) X.env :: (assignEach es X.env).map (·.2) := by rfl) : PGs X (.Name x pos :: es) (TGs A (i :: is)) :=
  ⟨fun pins s σ H vs us Q I r ⟨F, e, ds, e', R, rd, hg, hq⟩ => (pgs_cons (n_gN (A := A) hi hN hx hl hf) h2 hs).run pins s σ H vs us Q I r (by
    cases ds with
    | nil => simp [gL] at hg
    | cons d ds =>
      obtain ⟨v, vr, rfl, q1, q2⟩ := reps_cons.mp rd
      refine ⟨v, vr, rfl, F, e, d, _, R, q1, rfl, fun σ' R' => ⟨F, _, ds, e', R', q2, hg, hq⟩⟩)⟩
theorem n_gT {es : List Expr} {is : List Nat} {k : Nat} {pos : Pos} (hc : X.calm = true) (h : PGs X es (TGs A is)) (hn : (assignEach es X.env).length = is.length := by rfl) (hst : (assignEach es X.env).findIdx? (·.1) = none := by rfl) : PG X (.Tuple es k pos) (TGx A (gT is)) :=
  ⟨fun pins s σ H v u Q I r ⟨F, e, d, e', R, rd, hg, hq⟩ => (pg_tup hc h hn hst).run pins s σ H v u Q I r (by
    unfold gT at hg
    split at hg
    · rename_i ds
      obtain ⟨a, vs, rfl, f, q, l⟩ := rep_tup.mp rd
      refine ⟨a, vs, rfl, sqt_mono R.fh f, ?_, F, e, ds, e', R, q, hg, hq⟩
      have : ∀ (is : List Nat) (ds : List Dt) (e e' : En), gL is ds e = some e' → ds.length = is.length := by
        intro is
        induction is with
        | nil => intro ds e e' h; cases ds with
          | nil => rfl
          | cons d ds => simp [gL] at h
        | cons i is ih => intro ds e e' h; cases ds with
          | nil => simp [gL] at h
          | cons d ds => simp only [gL] at h; simp [ih _ _ _ h]
      rw [← q.len]; exact this _ _ _ _ hg
    · cases hg)⟩
end
def wAs (g : Tgt) (a : WEx) : WSt := fun e => bns (a e) fun d e1 => match g d e1 with | some e2 => some (.nx e2) | none => none
section
variable {X : Cx} {A : Ax X.K} {a tg : Expr} {wa : WEx} {g : Tgt} {pos : Pos}
theorem as_fin {D : Ends} {σ : St} {F H1 : Hp} {v : V} {d : Dt} {e1 : En} (R1 : Rl X.K A.B F H1 σ e1) (r1 : Rep X.K F d v) (h1 : FinS A F D (match g d e1 with | some e2 => some (.nx e2) | none => none)) : TGx A g v σ H1 D.nx := by
  cases hg : g d e1 with
  | none => rw [hg] at h1; exact h1.elim
  | some e2 =>
    rw [hg] at h1
    exact ⟨F, e1, d, e2, R1, r1, hg, fun σ' R' => h1 F H1 σ' (Same.refl F) R'⟩
/-- x = a -/
theorem n_as {i : Nat} {x : Str} {pos' : Pos} (hi : Free A i) (hN : X.N.Nodup) (hx : X.N[i]? = some x) (hl : Loc X.env.scope x) (ha : PE X a (TEx A wa)) (hs : swapsWith a (some (.Name x pos')) pos.line X.env = pure false := by rfl)
    (hf : X.fn x = true ∨ X.env.scope.names.lookup x = some .local := by first | exact .inl rfl | exact .inr rfl | assumption) : PS X (.Assign [.Name x pos'] a pos) (TSx A (wAs (gN i) wa)) :=
  ps_imp (ps_set hN hx hl ha hs hf) fun D σ H ⟨F, e, R, h⟩ => ⟨F, e, R, (FinS.bind (R := Rep X.K) h).imp fun v H1 ⟨F1, d, e1, s1, R1, r1, h1⟩ => h1 F1 H1 _ (Same.refl F1) (R1.setV (by rw [R1.ln]; exact hi.1) hi.2 r1)⟩
/-- a, b = e -/
theorem n_asg (ha : PE X a (TEx A wa)) (hg : PG X tg (TGx A g)) (hs : swapsWithSole [tg] a pos.line X.env = pure false := by rfl) (hw : swappedStores [tg] a X.env = pure none := by rfl)
    (h1 : (assignEach [tg] X.env).map (·.2) = [assign tg X.env] := by rfl) : PS X (.Assign [tg] a pos) (TSx A (wAs g wa)) :=
  ps_imp (ps_asg ha hg hs hw h1) fun D σ H ⟨F, e, R, h⟩ => ⟨F, e, R, (FinS.bind (R := Rep X.K) h).imp fun v H1 ⟨F1, d, e1, s1, R1, r1, h1⟩ => as_fin R1 r1 h1⟩
end

/-! ### walked things -/
/-- J yields the data xs, whatever grows around the frozen F -/
def IsIt (K : PySem.W.Frag) (J : It) (xs : List Dt) (F : Hp) : Prop := Walk J xs.length (fun H => Same F H) fun i H x H' =>
  (H' = H ∧ ∃ d, xs[i]? = some d ∧ Rep K F d x) ∨ ∃ T a b da db, x = .ref T ∧ H T = none ∧ H' = upd H T (.tup [a, b]) ∧ xs[i]? = some (.tup [da, db]) ∧ Rep K F da a ∧ Rep K F db b
abbrev WIx := En → Option (Rt (List Dt))
section
variable {X : Cx} {A : Ax X.K}
def RI (K : PySem.W.Frag) : Hp → List Dt → It → Prop := fun F xs J => IsIt K J xs F ∧ xs.length ≤ sizeLine
abbrev TIx (A : Ax X.K) (w : WIx) : TI := TxG A (RI X.K) w
theorem IsIt.mono {K : PySem.W.Frag} {J : It} {xs : List Dt} {F F' : Hp} (h : IsIt K J xs F) (s : Same F F') : IsIt K J xs F' :=
  Walk.mono h (fun H e => s.trans e) fun i H x H' hi hG hy => by
    rcases hy with ⟨e, d, h1, h2⟩ | ⟨T, a, b, da, db, h1, h2, h3, h4, h5, h6⟩
    · exact .inl ⟨e, d, h1, h2.mono s⟩
    · exact .inr ⟨T, a, b, da, db, h1, h2, h3, h4, h5.mono s, h6.mono s⟩
/-- one item of the walk -/
theorem it_item {xs : List Dt} {J : It} {F F1 H H' : Hp} {σ : St} {e : En} {i : Nat} {x : V} (W : IsIt X.K J xs F) (s : Same F F1) (R : Rl X.K A.B F1 H σ e) (hi : i < xs.length) (hy : J.yld i H x H') :
    ∃ d F2, xs[i]? = some d ∧ Same F1 F2 ∧ Rl X.K A.B F2 H' σ e ∧ Rep X.K F2 d x := by
  rcases Walk.yields W i H x H' hi (s.trans R.fh) hy with ⟨rfl, d, h1, h2⟩ | ⟨T, a, b, da, db, rfl, h2, rfl, h4, h5, h6⟩
  · exact ⟨d, F1, h1, Same.refl F1, R, h2.mono s⟩
  · have fT := same_none R.fh h2
    have s2 : Same F1 (upd F1 T (.tup [a, b])) := same_new fT
    refine ⟨_, _, h4, s2, R.new h2, rep_tup.mpr ⟨T, [a, b], rfl, SqT.of upd_same, reps_cons.mpr ⟨a, [b], rfl, (h5.mono s).mono s2, reps_cons.mpr ⟨b, [], rfl, (h6.mono s).mono s2, reps_nil.mpr rfl⟩⟩, (by show 2 ≤ sizeLine; decide)⟩⟩
end
/-! ### for, while -/
def forL (g : Tgt) (b : WSt) : List Dt → WSt
  | [], e => some (.nx e)
  | d :: ds, e => match g d e with
    | none => none
    | some e1 => match b e1 with
      | some (.nx e2) => forL g b ds e2
      | some (.ct e2) => forL g b ds e2
      | some (.bk e2) => some (.nx e2)
      | r => r
def wFor (it : WIx) (g : Tgt) (b : WSt) : WSt := fun e => bns (it e) fun xs e1 => forL g b xs e1
def whL (c : WTx) (b : WSt) : Nat → WSt
  | 0, _ => none
  | n + 1, e => bns (c e) fun k e1 => match k with
    | false => some (.nx e1)
    | true => match b e1 with
      | some (.nx e2) => whL c b n e2
      | some (.ct e2) => whL c b n e2
      | some (.bk e2) => some (.nx e2)
      | r => r
section
variable {X : Cx} {A : Ax X.K} {it tg : Expr} {body : List Stmt} {wi : WIx} {g : Tgt} {b : WSt} {pos : Pos}
theorem n_for (hp : PassesOwn (model X.prog X.w) X.A X.env X.xe) (hc : X.calm = true) (hi : PI X tg it (TIx A wi)) (hg : PG X tg (TGx A g)) (hb : PSs X body (TSx A b)) (hs : ∀ x, foldedSetIterable it X.env x = pure x := by intro _; rfl) :
    PS X (.For tg it body [] pos) (TSx A (wFor wi g b)) :=
  ps_imp (ps_for hp hc hi hg hb hs) fun D σ H ⟨F, e, R, h⟩ => ⟨F, e, R, (FinS.bind (R := RI X.K) h).imp fun J H1 ⟨F1, xs, e1, s1, R1, W, h1⟩ => by
    refine for_it W.1 (fun i σ H => ∃ F e, Same F1 F ∧ Rl X.K A.B F H σ e ∧ FinS A F D (forL g b (xs.drop i) e)) ⟨F1, e1, Same.refl F1, R1, h1⟩ (fun i σ H hi ⟨F, e, s, R, _⟩ => s.trans R.fh) (fun i x σ H H' hi ⟨F, e, s, R, hf⟩ hy => ?_) (fun σ H ⟨F, e, s, R, hf⟩ => ?_)
    · have hy' : J.yld i H x H' ∨ True := .inr trivial
      have key : ∃ d F2, xs[i]? = some d ∧ Same F F2 ∧ Rl X.K A.B F2 H' σ e ∧ Rep X.K F2 d x := by
        rcases hy with ⟨rfl, d, h1, h2⟩ | ⟨T, a, b, da, db, rfl, h2, rfl, h4, h5, h6⟩
        · exact ⟨d, F, h1, Same.refl F, R, h2.mono s⟩
        · have fT := same_none R.fh h2
          have s2 : Same F (upd F T (.tup [a, b])) := same_new fT
          exact ⟨_, _, h4, s2, R.new h2, rep_tup.mpr ⟨T, [a, b], rfl, SqT.of upd_same, reps_cons.mpr ⟨a, [b], rfl, (h5.mono s).mono s2, reps_cons.mpr ⟨b, [], rfl, (h6.mono s).mono s2, reps_nil.mpr rfl⟩⟩, (by show 2 ≤ sizeLine; decide)⟩⟩
      obtain ⟨d, F2, hd, s2, R2, rd⟩ := key
      have hdrop : xs.drop i = d :: xs.drop (i + 1) := by
        obtain ⟨h1, h2⟩ := List.getElem?_eq_some_iff.mp hd
        rw [← h2]; exact List.drop_eq_getElem_cons h1
      rw [hdrop] at hf
      unfold forL at hf
      split at hf
      · exact hf.elim
      · rename_i e2 hge
        refine ⟨F2, e, d, e2, R2, rd, hge, fun σ' R' => ⟨F2, e2, R', ?_⟩⟩
        have hf2 := FinS.mono s2 hf
        revert hf2
        cases hr : b e2 with
        | none => exact fun h => h
        | some o =>
          cases o with
          | nx e3 => exact fun h F' H' σ' sF R' => ⟨F', e3, (s.trans s2).trans sF, R', FinS.mono sF h⟩
          | rt t e3 => exact fun h => h
          | bk e3 => exact fun h F' H' σ' sF R' => h F' H' σ' sF R'
          | ct e3 => exact fun h F' H' σ' sF R' => ⟨F', e3, (s.trans s2).trans sF, R', FinS.mono sF h⟩
          | er c => exact fun h => h
    · rw [List.drop_length] at hf
      exact hf F H σ (Same.refl F) R⟩
theorem n_while {c : Expr} {tc : WTx} (n : Nat) (hp : PassesOwn (model X.prog X.w) X.A X.env X.xe) (hc : PT X c (TTx A tc)) (hb : PSs X body (TSx A b)) : PS X (.While c body [] pos) (TSx A (whL tc b n)) :=
  ps_imp (ps_while hp hc hb) fun D σ H h => by
    refine ⟨fun m σ H => ∃ F e, Rl X.K A.B F H σ e ∧ FinS A F D (whL tc b m e), ⟨n, h⟩, fun m σ H ⟨F, e, R, h⟩ => ?_⟩
    cases m with
    | zero => exact h.elim
    | succ m =>
      refine ⟨F, e, R, (FinS.bind (R := RB) h).imp fun k H1 ⟨F1, k', e1, s1, R1, r1, h1⟩ => ?_⟩
      obtain rfl : k = k' := r1
      cases k with
      | false =>
        rw [if_neg (by decide)]
        exact h1 F1 H1 σ (Same.refl F1) R1
      | true =>
        rw [if_pos rfl]
        refine ⟨fun σ H => ∃ F e, Rl X.K A.B F H σ e ∧ FinS A F D (whL tc b m e), fun σ' H' hh => ⟨m, Nat.lt_succ_self m, hh⟩, F1, e1, R1, ?_⟩
        revert h1
        cases hr : b e1 with
        | none => exact fun h => h
        | some o =>
          cases o with
          | nx e3 => exact fun h F' H' σ' sF R' => ⟨F', e3, R', FinS.mono sF h⟩
          | rt t e3 => exact fun h => h
          | bk e3 => exact fun h F' H' σ' sF R' => h F' H' σ' sF R'
          | ct e3 => exact fun h F' H' σ' sF R' => ⟨F', e3, R', FinS.mono sF h⟩
          | er c => exact fun h => h
end
end Ly
set_option maxHeartbeats 1000000
/-! Ly5: what is walked; list comprehensions. -/
namespace Ly
open PySem PySem.Spec PyProof.Rows L2

/-! ### enumerate over a tuple -/
section
variable {prog : Program} {w : World} {A : Around} {E : Value → Shared → Prop} {s : Shared}
set_option maxHeartbeats 2000000 in
theorem enumNew {v : Value} {o : Obj} {HH : Heap → Prop} (Bg : Begins v o HH) :
    Meets (Builtin.«enumerate.__new__» ⟨[.type "enumerate", v], []⟩) (fun _ R s => HH s.heap ∧ R (.ok (.ret (.ref (s.heap.push o).objs.size)))
      { s with heap := (s.heap.push o).push { cls := .type "enumerate", data := .fields #[.none, .bool false, .ref s.heap.objs.size, rawInt 0, .none, .none] } }) :=
  .of_wp fun prog w A R s ⟨g1, g2⟩ => by
    obtain ⟨hp, gg, dr, tk, os⟩ := s
    have hs := sub_enumerate
    have qi : ∀ {A1 : Around} {E1 Q1 : Value → Shared → Prop}, Q1 (.ref hp.objs.size) ⟨hp.push o, gg, dr, tk, os⟩ → wpAny (model prog w) A1 (pyIter v) Q1 E1 ⟨hp, gg, dr, tk, os⟩ := fun q => Bg.iter prog w _ _ ⟨hp, gg, dr, tk, os⟩ _ g1 q
    wp_walk using qi
    refine (wpAny_stack_any fun stk => wpAny_pure ?_)
    split
    next cc _ _ _ _ _ =>
      cases (cc == Value.type "enumerate") <;> (wp_walk using qi; exact ⟨_, rfl, g2⟩)
    next => wp_walk using qi; exact ⟨_, rfl, g2⟩
theorem enumCall {v : Value} {o : Obj} {HH : Heap → Prop} {Q : Value → Shared → Prop} (Bg : Begins v o HH) (h1 : HH s.heap)
    (k : ∀ h', IsEnum h' (s.heap.objs.size + 1) s.heap.objs.size 0 .none → h'.get? s.heap.objs.size = some o → h'.objs.size = s.heap.objs.size + 2 → (∀ b u, s.heap.get? b = some u → h'.get? b = some u) → Q (.ref (s.heap.objs.size + 1)) { s with heap := h' }) :
    wpAny (model prog w) A (call (.type "enumerate") [v]) Q E s := by
  refine callType_new F.called_enumerate (by decide) (F.typeCall_enumerate_1 _) (F.newCall_enumerate_1 _) (fun ob => F.args_object_init_2 ob _) F.entry_enumerate_new (enumNew Bg) ⟨h1, ?_⟩
  have z1 : (s.heap.push o).objs.size = s.heap.objs.size + 1 := Heap.size_push ..
  show _ ∧ _
  rw [z1]
  have i1 : IsEnum ((s.heap.push o).push { cls := .type "enumerate", data := .fields #[.none, .bool false, .ref s.heap.objs.size, rawInt 0, .none, .none] }) (s.heap.objs.size + 1) s.heap.objs.size 0 .none := by
    have g := Heap.get?_push_size (s.heap.push o) (o := { cls := .type "enumerate", data := .fields #[.none, .bool false, .ref s.heap.objs.size, rawInt 0, .none, .none] }) rfl
    rw [z1] at g
    exact g
  exact ⟨⟨_, i1, rfl⟩, k _ i1 (Heap.get?_push_of_some _ (Heap.get?_push_size _ Bg.free)) (by rw [Heap.size_push, z1]) fun b u x => Heap.get?_push_of_some _ (Heap.get?_push_of_some _ x)⟩
end
/-- the tuple at a, its items beside their places, in new pairs -/
def ItE (K : PySem.W.Frag) (a : Addr) : It :=
  ⟨fun i H => ∃ (xs : List V) (x : V), SqT K H a xs ∧ xs[i]? = some x, fun i H v H' => ∃ T x, v = .ref T ∧ H T = none ∧ H' = upd H T (.tup [.int (i : Nat), x]) ∧ ∀ xs, SqT K H a xs → xs[i]? = some x, fun i H => ∃ xs : List V, SqT K H a xs ∧ xs.length = i⟩
theorem turnE {P : Program} {w : World} {K : PySem.W.Frag} {elts : List Expr} {kk : Nat} {tpos : Pos} (a e it : Addr) (nea : a ≠ it) :
    Turn P w K (.Tuple elts kk tpos) (ItE K a) [e, it] e (fun i h => (∃ old, IsEnum h e it ((i : Nat) : Int) old) ∧ h.IsTupleIter it a i ∧ e ≠ it) where
  mem := by simp
  obj := fun i h stt b hb => by
    obtain ⟨⟨old, he⟩, ⟨o, ho, _, hd⟩, _⟩ := stt
    rcases (show b = e ∨ b = it by simpa using hb) with z | z
    · subst z
      exact ⟨_, he, fun v q => nomatch q⟩
    · subst z
      exact ⟨o, ho, fun v q => by rw [hd] at q; cases q⟩
  keep := fun i h h' stt k => ⟨⟨stt.1.choose, k e (by simp) _ stt.1.choose_spec⟩, stt.2.1.at fun o q => k it (by simp) o q, stt.2.2⟩
  item := by
    intro X hP hw hK hc i pins s σ H E I hf stt hg
    subst hP hw hK
    obtain ⟨⟨old, he⟩, hit, hne⟩ := stt
    obtain ⟨xs, x, hq, hx⟩ := hg
    obtain ⟨its, rv, ⟨ob, p1, p2⟩, hz⟩ := I.tuple hq
    obtain ⟨u, hu, ru⟩ := rv.get hx
    have el := Heap.lt_size he
    have il : it < s.heap.objs.size := by obtain ⟨_, q, _⟩ := hit; exact Heap.lt_size q
    have hT : s.heap.IsTuple a its.toArray := ⟨ob, p1, p2⟩
    have hiu : i < its.toArray.size := by
      obtain ⟨z, _⟩ := List.getElem?_eq_some_iff.mp hu
      simpa using z
    refine wpAny_pyNext_enum_itemC (Draws.tuple (prog := X.prog) (w := X.w) (A := X.A.in1) (show X.A.in1.handled = none from I.ok.hd hc) it a nea its.toArray) he ⟨hit, hT⟩ hiu hne (fun hm => ?_) fun x2 h' tk hP ho hst htup hsz hk => ?_
    · rcases (show e = it ∨ e = a by simpa using hm) with z | z
      · exact hne z
      · subst z
        rw [he] at p1; cases p1
        have z := (show Value.type "enumerate" = Value.type "tuple" from p2.1)
        injection z with z
        exact absurd z (by decide)
    · have ex : x2 = u := by
        have h2 : its.toArray[i]? = some x2 := hP
        rw [List.getElem?_toArray, hu] at h2
        exact (Option.some.inj h2).symm
      subst ex
      refine ⟨_, rfl, wpAny_letOwnedTupleGo_enum (s := { s with heap := h', toks := tk + 1 }) ho fun h'' he' sb => ?_⟩
      have ht2 : h''.get? s.heap.objs.size = some { cls := .type "tuple", data := .seq #[.int i tk, x2] } := (sb.2 _ (Nat.ne_of_gt el)).trans htup
      have nw : ObjOk X.prog X.w (upd H s.heap.objs.size (.tup [.int (i : Nat), x])) h'' s.heap.objs.size (.tup [.int (i : Nat), x]) :=
        ⟨(by show 2 ≤ sizeLine; decide), [.int i tk, x2], .cons ⟨_, rfl⟩ (.cons ru .nil), ⟨_, ht2, rfl, _, rfl⟩⟩
      have I1 : Inv X pins σ (upd H s.heap.objs.size (.tup [.int (i : Nat), x])) { s with heap := h'', toks := tk + 1 } :=
        I.turnedNew (ch := [e, it]) (fun b ob hb q => (sb.2 b (fun z => hb (by simp [z]))).trans (hk b ob (fun z => hb (by simp [z])) (fun z => hb (by simp [z])) q)) hf (Nat.le_refl _) nw
      refine ⟨.ref s.heap.objs.size, _, I1, rfl, ⟨_, x, rfl, I.hok.fresh (Nat.le_refl _), rfl, fun ys hy => by rw [I.tuple_inj hy hq]; exact hx⟩, ⟨⟨x2, ?_⟩, hst.1.at fun o q => (sb.2 it (Ne.symm hne)).trans q, hne⟩, fun b hb => ?_⟩
      · rw [show ((i + 1 : Nat) : Int) = (i : Int) + 1 from by omega]
        exact he'
      · have hb' : b < s.heap.objs.size := by
          rcases (show b = e ∨ b = it by simpa using hb) with z | z
          · rw [z]; exact el
          · rw [z]; exact il
        rw [upd_ne (Nat.ne_of_lt hb')]
        exact (hf b hb).1
  done := by
    intro X hP hw hK hc i pins s σ H E I hf stt hg
    subst hP hw hK
    obtain ⟨⟨old, he⟩, hit, hne⟩ := stt
    obtain ⟨xs, hq, hx⟩ := hg
    obtain ⟨its, rv, ⟨ob, p1, p2⟩, hz⟩ := I.tuple hq
    obtain ⟨f0, f1, f2, f3, f4, f5⟩ := hf it (by simp)
    have hl := rv.length
    have hT : s.heap.IsTuple a its.toArray := ⟨ob, p1, p2⟩
    have en : i = its.toArray.size := by simp; omega
    subst en
    have hD := Draws.tuple (prog := X.prog) (w := X.w) (A := X.A.in1) (show X.A.in1.handled = none from I.ok.hd hc) it a nea its.toArray
    exact wpAny_pyNext_enum_endD hD he ⟨hit, hT⟩ fun h' eb => ⟨rfl, I.turned (t' := s.toks) (fun b o hb q => eb b o hb q) f0 f1 f3 f4 f5⟩
  self := fun A i s Q E stt h => by
    obtain ⟨⟨_, he⟩, _⟩ := stt
    exact wpAny_pyIter_enum he h
theorem pi_enumT {X : Cx} {e : Expr} {ta : TA} {p pos tpos : Pos} {elts : List Expr} {kk : Nat} (hg : Gl X "enumerate") (hm : X.mg "enumerate" = none) (ha : PA X [e] ta) (hs : starEach [e] X.env = [(false, eval e X.env)] := by rfl) :
    PI X (.Tuple elts kk tpos) (.Call (.Name "enumerate" p) [e] [] pos) (fun σ H R => ta σ H fun vs H1 => ∃ a xs, vs = [.ref a] ∧ SqT X.K H1 a xs ∧ R (ItE X.K a) H1) := by
  refine ⟨fun pins s σ H R I h => Call_ (ld_blt I hg hm boot_enumerate (PyProof.Rows.callWith_type1 (thn (ha.run pos pins s σ H _ I h) fun us s1 ⟨vs, H1, I1, r1, q1⟩ => ?_) hs rfl))⟩
  obtain ⟨a, xs, rfl, hq, q⟩ := q1
  obtain ⟨u, rfl, r⟩ := vals1 r1
  obtain rfl : u = .ref a := r
  obtain ⟨its, rv, ⟨ob, p1, p2⟩, hz⟩ := I1.tuple hq
  have hT : s1.heap.IsTuple a its.toArray := ⟨ob, p1, p2⟩
  have al : a < s1.heap.objs.size := Heap.lt_size p1
  refine enumCall (begins_tuple a its.toArray) hT fun h' he hit hsz hk => wpAny_pyIter_enum he ?_
  have I2 : Inv X pins σ H1 { s1 with heap := h' } := I1.kept (t' := s1.toks) hk
  refine ⟨s1.heap.objs.size + 1, [s1.heap.objs.size + 1, s1.heap.objs.size], _, _, H1, rfl, I2, turnE a (s1.heap.objs.size + 1) s1.heap.objs.size (Nat.ne_of_lt al), ⟨⟨.none, he⟩, ⟨_, hit, rfl, rfl⟩, Nat.succ_ne_self _⟩, fun b hb => ?_, q⟩
  have hle : s1.heap.objs.size ≤ b := by
    rcases (show b = s1.heap.objs.size + 1 ∨ b = s1.heap.objs.size by simpa using hb) with z | z
    · rw [z]; exact Nat.le_add_right _ _
    · rw [z]; exact Nat.le_refl _
  exact I1.fpOk hle (I1.hok.fresh hle)

/-! ### the walks over data -/
section
variable {K : PySem.W.Frag} {α ν β μ : Type} {A : Ax K} {R : Hp → α → ν → Prop} {R' : Hp → β → μ → Prop} {σ : St} {F : Hp} {P : μ → Hp → Prop}
/-- .. the equation told too -/
theorem FinG.bindE {r : Option (Rt α)} {k : α → En → Option (Rt β)} (h : FinG A R' σ F P (bnd r k)) :
    FinG A R σ F (fun v H1 => ∃ F1 a e1, r = some (.ok a e1) ∧ Same F F1 ∧ Rl K A.B F1 H1 σ e1 ∧ R F1 a v ∧ FinG A R' σ F1 P (k a e1)) r := by
  match r, h with
  | some (.ok a e), h => exact fun F' H' v s' R1 r' => ⟨F', a, e, rfl, s', R1, r', FinG.mono s' h⟩
  | some (.er c), h => exact h
  | none, h => exact h
end
def itemsOf : Dt → Option (List Dt)
  | .lst xs => some xs
  | .tup xs => some xs
  | .scr ns => some (ns.map Dt.int)
  | _ => none
def wIt (w : WEx) : WIx := fun e => bnd (w e) fun d e1 => pur (itemsOf d) e1
def rgL (lo : Int) (n : Nat) : List Dt := (List.range n).map fun (i : Nat) => Dt.int (lo + i)
def rgC (lo c : Int) (n : Nat) : List Dt := (List.range n).map fun (i : Nat) => Dt.int (lo + (i : Nat) * c)
def fRg1 : List Dt → Option (List Dt)
  | [.at (.int j)] => if -1000000 ≤ j ∧ j ≤ 1000000 then some (rgL 0 j.toNat) else none
  | _ => none
def fRg2 : List Dt → Option (List Dt)
  | [.at (.int i), .at (.int j)] => if (-(2 ^ 62) ≤ i ∧ i < 2 ^ 62 ∧ -(2 ^ 62) ≤ j ∧ j < 2 ^ 62) ∧ j - i ≤ 1000000 then some (rgL i (j - i).toNat) else none
  | _ => none
def fRg3 : List Dt → Option (List Dt)
  | [.at (.int i), .at (.int j), .at (.int c)] => if c ≠ 0 ∧ c.natAbs < 1073741824 ∧ Builtin.Range.small i j c = true ∧ 0 ≤ Builtin.Range.rangeSize i j c ∧ Builtin.Range.rangeSize i j c ≤ 1000000 then some (rgC i c (Builtin.Range.rangeSize i j c).toNat) else none
  | _ => none
def enumF : Nat → List Dt → List Dt
  | _, [] => []
  | k, x :: r => .tup [.int k, x] :: enumF (k + 1) r
theorem enumF_len : ∀ (k : Nat) (xs : List Dt), (enumF k xs).length = xs.length
  | _, [] => rfl
  | k, x :: r => by show (enumF (k + 1) r).length + 1 = r.length + 1; rw [enumF_len (k + 1) r]
theorem enumF_get : ∀ (k : Nat) (xs : List Dt) (i : Nat) (x : Dt), xs[i]? = some x → (enumF k xs)[i]? = some (.tup [.int ((k + i : Nat) : Int), x])
  | _, [], _, _, h => by simp at h
  | k, y :: r, 0, x, h => by simp at h; subst h; rfl
  | k, y :: r, i + 1, x, h => by
    simp at h
    have := enumF_get (k + 1) r i x h
    show (enumF (k + 1) r)[i]? = _
    rw [this, show k + 1 + i = k + (i + 1) from by omega]
def fEn : List Dt → Option (List Dt)
  | [.lst xs] => some (enumF 0 xs)
  | [.tup xs] => some (enumF 0 xs)
  | _ => none
def zipL : List Dt → List Dt → List Dt
  | x :: xs, y :: ys => .tup [x, y] :: zipL xs ys
  | _, _ => []
theorem zipL_len : ∀ (xs ys : List Dt), (zipL xs ys).length = min xs.length ys.length
  | [], ys => by simp [zipL]
  | x :: xs, [] => by simp [zipL]
  | x :: xs, y :: ys => by simp [zipL, zipL_len xs ys]
theorem zipL_get : ∀ (xs ys : List Dt) (i : Nat) (x y : Dt), xs[i]? = some x → ys[i]? = some y → (zipL xs ys)[i]? = some (.tup [x, y])
  | [], _, _, _, _, h, _ => by simp at h
  | _ :: _, [], _, _, _, _, h => by simp at h
  | a :: xs, b :: ys, 0, x, y, h, g => by simp at h g; subst h; subst g; rfl
  | a :: xs, b :: ys, i + 1, x, y, h, g => by simp at h g; exact zipL_get xs ys i x y h g
def fZp : List Dt → Option (List Dt)
  | [.lst xs, .lst ys] => some (zipL xs ys)
  | [.tup xs, .tup ys] => some (zipL xs ys)
  | _ => none
def wI (f : List Dt → Option (List Dt)) (ws : WAx) : WIx := fun e => bnd (ws e) fun ds e1 => pur (f ds) e1
section
variable {K : PySem.W.Frag} {F : Hp}
theorem isIt_list {a : Addr} {xs : List Dt} {vs : List V} (f : F a = some (.lst vs)) (q : Reps K F xs vs) : IsIt K (Itl K a) xs F := by
  have w := walk_list (K := K) (a := a) (xs := vs)
  rw [← q.len] at w
  exact Walk.mono w (fun H s => SqL.of (s _ _ f)) fun i H x H' hi s ⟨e, hx⟩ => .inl ⟨e, q.getV hx⟩
theorem isIt_scr {a : Addr} {ns : List Int} (f : SqL K F a (ns.map V.int)) : IsIt K (Itl K a) (ns.map Dt.int) F := by
  have w := walk_list (K := K) (a := a) (xs := ns.map V.int)
  rw [List.length_map] at w
  unfold IsIt
  rw [List.length_map]
  exact Walk.mono w (fun H s => sql_mono s f) fun i H x H' hi s ⟨e, hx⟩ => .inl ⟨e, (reps_ints.mpr rfl : Reps K F (ns.map Dt.int) (ns.map V.int)).getV hx⟩
theorem isIt_tup {a : Addr} {xs : List Dt} {vs : List V} (f : SqT K F a vs) (q : Reps K F xs vs) : IsIt K (Itt K a) xs F := by
  have w := walk_tup (K := K) (a := a) (xs := vs)
  rw [← q.len] at w
  exact Walk.mono w (fun H s => sqt_mono s f) fun i H x H' hi s ⟨e, hx⟩ => .inl ⟨e, q.getV hx⟩
theorem isIt_rg {lo : Int} {n : Nat} : IsIt K (Itr lo n) (rgL lo n) F := by
  have w := walk_range (lo := lo) (n := n)
  unfold IsIt
  rw [show (rgL lo n).length = n by simp [rgL]]
  exact Walk.mono w (fun _ _ => trivial) fun i H x H' hi _ ⟨e, hx⟩ => .inl ⟨e, .int (lo + i), by simp [rgL, hi], rep_at.mpr hx⟩
theorem isIt_rgC {lo c : Int} {n : Nat} : IsIt K (Itc lo c n) (rgC lo c n) F := by
  have w := walk_rangeC (lo := lo) (c := c) (n := n)
  unfold IsIt
  rw [show (rgC lo c n).length = n by simp [rgC]]
  exact Walk.mono w (fun _ _ => trivial) fun i H x H' hi _ ⟨e, hx⟩ => .inl ⟨e, .int (lo + (i : Nat) * c), by simp [rgC, hi], rep_at.mpr hx⟩
theorem isIt_en {a : Addr} {xs : List Dt} {vs : List V} (f : F a = some (.lst vs)) (q : Reps K F xs vs) : IsIt K (Ite K a) (enumF 0 xs) F := by
  have w := walk_enum (K := K) (a := a) (xs := vs)
  unfold IsIt
  rw [enumF_len, q.len]
  refine Walk.mono w (fun H s => SqL.of (s _ _ f)) fun i H v H' hi s ⟨T, x, y, e1, e2, e3, e4, e5⟩ => ?_
  obtain ⟨d, g1, g2⟩ := q.getV e5
  cases e4
  refine .inr ⟨T, .int i, y, .int i, d, e1, e2, e3, ?_, rep_at.mpr rfl, g2⟩
  rw [enumF_get 0 xs i d g1, Nat.zero_add]
theorem isIt_enT {a : Addr} {xs : List Dt} {vs : List V} (f : SqT K F a vs) (q : Reps K F xs vs) : IsIt K (ItE K a) (enumF 0 xs) F := by
  unfold IsIt
  rw [enumF_len, q.len]
  refine ⟨fun i H hi s => ⟨vs, vs[i], sqt_mono s f, List.getElem?_eq_getElem hi⟩, fun H s => ⟨vs, sqt_mono s f, rfl⟩, fun i H v H' hi s ⟨T, x, e1, e2, e3, e4⟩ => ?_⟩
  obtain ⟨d, g1, g2⟩ := q.getV (e4 vs (sqt_mono s f))
  refine .inr ⟨T, .int i, x, .int i, d, e1, e2, e3, ?_, rep_at.mpr rfl, g2⟩
  rw [enumF_get 0 xs i d g1, Nat.zero_add]
theorem isIt_zp {a b : Addr} {xs ys : List Dt} {vs us : List V} (f : F a = some (.lst vs)) (q : Reps K F xs vs) (g : F b = some (.lst us)) (r : Reps K F ys us) : IsIt K (Itz K a b) (zipL xs ys) F := by
  have w := walk_zip (K := K) (a := a) (b := b) (xs := vs) (ys := us) rfl
  unfold IsIt
  rw [zipL_len, q.len, r.len]
  refine Walk.mono w (fun H s => ⟨SqL.of (s _ _ f), SqL.of (s _ _ g)⟩) fun i H v H' hi s ⟨T, x, y, e1, e2, e3, e4, e5⟩ => ?_
  obtain ⟨d, g1, g2⟩ := q.getV e4
  obtain ⟨c, h1, h2⟩ := r.getV e5
  exact .inr ⟨T, x, y, d, c, e1, e2, e3, zipL_get xs ys i d c g1 h1, g2, h2⟩
theorem isIt_zpT {a b : Addr} {xs ys : List Dt} {vs us : List V} (f : SqT K F a vs) (q : Reps K F xs vs) (g : SqT K F b us) (r : Reps K F ys us) : IsIt K (RZ.ItzT K a b) (zipL xs ys) F := by
  unfold IsIt
  rw [zipL_len, q.len, r.len]
  refine ⟨fun i H hi s => ⟨vs, us, vs[i]'(by omega), us[i]'(by omega), sqt_mono s f, sqt_mono s g, List.getElem?_eq_getElem _, List.getElem?_eq_getElem _⟩, fun H s => ⟨vs, us, sqt_mono s f, sqt_mono s g, by omega⟩, fun i H v H' hi s ⟨T, x, y, e1, e2, e3, e4, e5⟩ => ?_⟩
  obtain ⟨d, g1, g2⟩ := q.getV (e4 vs (sqt_mono s f))
  obtain ⟨c, h1, h2⟩ := r.getV (e5 us (sqt_mono s g))
  exact .inr ⟨T, x, y, d, c, e1, e2, e3, zipL_get xs ys i d c g1 h1, g2, h2⟩
end
section
variable {X : Cx} {A : Ax X.K} {a b tg : Expr} {wa wb : WEx} {ws : WAx} {pos p tpos : Pos} {elts : List Expr} {kk : Nat}
theorem pi_or {w1 w2 : TI} (h1 : PI X tg a w1) (h2 : PI X tg a w2) : PI X tg a (fun σ H R => w1 σ H R ∨ w2 σ H R) := ⟨fun pins s σ H R I h => h.elim (h1.run pins s σ H R I) (h2.run pins s σ H R I)⟩
theorem pi_imp {w1 w2 : TI} (h1 : PI X tg a w1) (k : ∀ σ H R, w2 σ H R → w1 σ H R) : PI X tg a w2 := ⟨fun pins s σ H R I h => h1.run pins s σ H R I (k σ H R h)⟩
theorem fin_i {σ : St} {F : Hp} {Q : It → Hp → Prop} {o : Option (List Dt)} {e : En} (h : FinG A (RI X.K) σ F Q (pur o e)) : ∃ xs, o = some xs ∧ ∀ F' H' J, Same F F' → Rl X.K A.B F' H' σ e → RI X.K F' xs J → Q J H' := by
  cases o with
  | none => exact h.elim
  | some d => exact ⟨d, rfl, h⟩
theorem mil {n : Nat} (h : n ≤ 1000000) : n ≤ sizeLine := Nat.le_trans h (by decide)
theorem rg_len {lo : Int} {n : Nat} (h : n ≤ 1000000) : (rgL lo n).length ≤ sizeLine := by
  rw [show (rgL lo n).length = n by simp [rgL]]
  exact mil h
theorem rgC_len {lo c : Int} {n : Nat} (h : n ≤ 1000000) : (rgC lo c n).length ≤ sizeLine := by
  rw [show (rgC lo c n).length = n by simp [rgC]]
  exact mil h
theorem n_it (ha : PE X a (TEx A wa)) : PI X tg a (TIx A (wIt wa)) :=
  pi_imp (pi_or (pi_list ha) (pi_tup ha)) fun σ H Q ⟨F, e, R, h⟩ => by
    by_cases ht : ∃ xs e1, wa e = some (.ok (.tup xs) e1)
    · obtain ⟨xs, e1, hw⟩ := ht
      refine .inr ⟨F, e, R, (FinG.bindE (R := Rep X.K) h).imp fun v H1 ⟨F1, d, e2, he, s1, R1, r1, h1⟩ => ?_⟩
      rw [hw] at he; cases he
      obtain ⟨ys, hy, hg⟩ := fin_i h1
      cases hy
      obtain ⟨ad, vs, rfl, f, q, l⟩ := rep_tup.mp r1
      exact ⟨ad, rfl, ⟨vs, sqt_mono R1.fh f⟩, hg F1 H1 _ (Same.refl F1) R1 ⟨isIt_tup f q, q.len ▸ l⟩⟩
    · refine .inl ⟨F, e, R, (FinG.bindE (R := Rep X.K) h).imp fun v H1 ⟨F1, d, e2, he, s1, R1, r1, h1⟩ => ?_⟩
      obtain ⟨ys, hy, hg⟩ := fin_i h1
      unfold itemsOf at hy
      split at hy
      · cases hy
        obtain ⟨ad, vs, rfl, f, q, l⟩ := rep_lst.mp r1
        exact ⟨ad, rfl, ⟨vs, SqL.of (R1.fh _ _ f)⟩, hg F1 H1 _ (Same.refl F1) R1 ⟨isIt_list f q, q.len ▸ l⟩⟩
      · exact absurd ⟨_, _, he⟩ ht
      · cases hy
        obtain ⟨ad, rfl, f, l⟩ := rep_scr.mp r1
        exact ⟨ad, rfl, ⟨_, sql_mono R1.fh f⟩, hg F1 H1 _ (Same.refl F1) R1 ⟨isIt_scr f, by rw [List.length_map]; exact l⟩⟩
      · cases hy
theorem reps1 {K : PySem.W.Frag} {F : Hp} {d : Dt} {vs : List V} (h : Reps K F [d] vs) : ∃ v, vs = [v] ∧ Rep K F d v := by
  obtain ⟨v, r, rfl, h1, h2⟩ := reps_cons.mp h
  rw [reps_nil] at h2; subst h2
  exact ⟨v, rfl, h1⟩
theorem reps2 {K : PySem.W.Frag} {F : Hp} {d c : Dt} {vs : List V} (h : Reps K F [d, c] vs) : ∃ v u, vs = [v, u] ∧ Rep K F d v ∧ Rep K F c u := by
  obtain ⟨v, r, rfl, h1, h2⟩ := reps_cons.mp h
  obtain ⟨u, rfl, h3⟩ := reps1 h2
  exact ⟨v, u, rfl, h1, h3⟩
theorem reps3 {K : PySem.W.Frag} {F : Hp} {d c b : Dt} {vs : List V} (h : Reps K F [d, c, b] vs) : ∃ v u w, vs = [v, u, w] ∧ Rep K F d v ∧ Rep K F c u ∧ Rep K F b w := by
  obtain ⟨v, r, rfl, h1, h2⟩ := reps_cons.mp h
  obtain ⟨u, w, rfl, h3, h4⟩ := reps2 h2
  exact ⟨v, u, w, rfl, h1, h3, h4⟩
theorem n_rg1 (hg : Gl X "range") (hm : X.mg "range" = none) (ha : PA X [a] (TAx A ws)) (hs : starEach [a] X.env = [(false, eval a X.env)] := by rfl) : PI X tg (.Call (.Name "range" p) [a] [] pos) (TIx A (wI fRg1 ws)) :=
  pi_imp (pi_range1 hg hm ha hs) fun σ H Q ⟨F, e, R, h⟩ => ⟨F, e, R, (FinG.bind (R := Reps X.K) h).imp fun vs H1 ⟨F1, ds, e1, s1, R1, r1, h1⟩ => by
    obtain ⟨xs, hx, hq⟩ := fin_i h1
    unfold fRg1 at hx
    split at hx
    · split at hx
      · rename_i hb
        cases hx
        obtain ⟨v, rfl, r2⟩ := reps1 r1
        rw [rep_at] at r2; subst r2
        exact ⟨_, rfl, Int.le_trans (by decide) hb.1, Int.lt_of_le_of_lt hb.2 (by decide), hq F1 H1 _ (Same.refl F1) R1 ⟨isIt_rg, rg_len (by omega)⟩⟩
      · cases hx
    · cases hx⟩
theorem n_rg2 (hg : Gl X "range") (hm : X.mg "range" = none) (ha : PA X [a, b] (TAx A ws)) (hs : starEach [a, b] X.env = [(false, eval a X.env), (false, eval b X.env)] := by rfl) (hs2 : starEach [b] X.env = [(false, eval b X.env)] := by rfl) : PI X tg (.Call (.Name "range" p) [a, b] [] pos) (TIx A (wI fRg2 ws)) :=
  pi_imp (pi_range2 hg hm ha hs hs2) fun σ H Q ⟨F, e, R, h⟩ => ⟨F, e, R, (FinG.bind (R := Reps X.K) h).imp fun vs H1 ⟨F1, ds, e1, s1, R1, r1, h1⟩ => by
    obtain ⟨xs, hx, hq⟩ := fin_i h1
    unfold fRg2 at hx
    split at hx
    · split at hx
      · rename_i hb
        cases hx
        obtain ⟨v, u, rfl, r2, r3⟩ := reps2 r1
        rw [rep_at] at r2 r3; subst r2; subst r3
        exact ⟨_, _, rfl, hb.1, hq F1 H1 _ (Same.refl F1) R1 ⟨isIt_rg, rg_len (by omega)⟩⟩
      · cases hx
    · cases hx⟩
theorem n_rg3 {c : Expr} (hg : Gl X "range") (hm : X.mg "range" = none) (ha : PA X [a, b, c] (TAx A ws)) (hs : starEach [a, b, c] X.env = (false, eval a X.env) :: starEach [b, c] X.env := by rfl) (hpl : (backTo pos (starEach [b, c] X.env)).any (·.1) = false := by rfl) : PI X tg (.Call (.Name "range" p) [a, b, c] [] pos) (TIx A (wI fRg3 ws)) :=
  pi_imp (pi_range3 hg hm ha hs hpl) fun σ H Q ⟨F, e, R, h⟩ => ⟨F, e, R, (FinG.bind (R := Reps X.K) h).imp fun vs H1 ⟨F1, ds, e1, s1, R1, r1, h1⟩ => by
    obtain ⟨xs, hx, hq⟩ := fin_i h1
    unfold fRg3 at hx
    split at hx
    · split at hx
      · rename_i hb
        cases hx
        obtain ⟨v, u, w, rfl, r2, r3, r4⟩ := reps3 r1
        rw [rep_at] at r2 r3 r4; subst r2; subst r3; subst r4
        exact ⟨_, _, _, _, rfl, ⟨hb.1, hb.2.1, hb.2.2.1, (Int.toNat_of_nonneg hb.2.2.2.1).symm⟩, hq F1 H1 _ (Same.refl F1) R1 ⟨isIt_rgC, rgC_len (by omega)⟩⟩
      · cases hx
    · cases hx⟩
theorem n_en (hg : Gl X "enumerate") (hm : X.mg "enumerate" = none) (ha : PA X [a] (TAx A ws)) (hs : starEach [a] X.env = [(false, eval a X.env)] := by rfl) : PI X (.Tuple elts kk tpos) (.Call (.Name "enumerate" p) [a] [] pos) (TIx A (wI fEn ws)) :=
  pi_imp (pi_or (pi_enum hg hm ha hs) (pi_enumT hg hm ha hs)) fun σ H Q ⟨F, e, R, h⟩ => by
    by_cases ht : ∃ xs e1, ws e = some (.ok [.tup xs] e1)
    · obtain ⟨xs, e1, hw⟩ := ht
      refine .inr ⟨F, e, R, (FinG.bindE (R := Reps X.K) h).imp fun vs H1 ⟨F1, ds, e2, he, s1, R1, r1, h1⟩ => ?_⟩
      rw [hw] at he; cases he
      obtain ⟨ys, hy, hq⟩ := fin_i h1
      cases hy
      obtain ⟨v, rfl, r2⟩ := reps1 r1
      obtain ⟨ad, us, rfl, f, q, l⟩ := rep_tup.mp r2
      exact ⟨ad, us, rfl, sqt_mono R1.fh f, hq F1 H1 _ (Same.refl F1) R1 ⟨isIt_enT f q, by rw [enumF_len]; exact q.len ▸ l⟩⟩
    · refine .inl ⟨F, e, R, (FinG.bindE (R := Reps X.K) h).imp fun vs H1 ⟨F1, ds, e2, he, s1, R1, r1, h1⟩ => ?_⟩
      obtain ⟨ys, hy, hq⟩ := fin_i h1
      unfold fEn at hy
      split at hy
      · cases hy
        obtain ⟨v, rfl, r2⟩ := reps1 r1
        obtain ⟨ad, us, rfl, f, q, l⟩ := rep_lst.mp r2
        exact ⟨ad, us, rfl, SqL.of (R1.fh _ _ f), hq F1 H1 _ (Same.refl F1) R1 ⟨isIt_en f q, by rw [enumF_len]; exact q.len ▸ l⟩⟩
      · exact absurd ⟨_, _, he⟩ ht
      · cases hy
theorem n_zp (hg : Gl X "zip") (hm : X.mg "zip" = none) (ha : PA X [a, b] (TAx A ws)) (hs : starEach [a, b] X.env = (false, eval a X.env) :: starEach [b] X.env := by rfl) (hpl : (backTo pos (starEach [b] X.env)).any (·.1) = false := by rfl) :
    PI X (.Tuple elts kk tpos) (.Call (.Name "zip" p) [a, b] [] pos) (TIx A (wI fZp ws)) :=
  pi_imp (RZ.pi_zipA hg hm ha hs hpl) fun σ H Q ⟨F, e, R, h⟩ => ⟨F, e, R, (FinG.bind (R := Reps X.K) h).imp fun vs H1 ⟨F1, ds, e1, s1, R1, r1, h1⟩ => by
    obtain ⟨xs, hx, hq⟩ := fin_i h1
    unfold fZp at hx
    split at hx
    · cases hx
      obtain ⟨v, u, rfl, r2, r3⟩ := reps2 r1
      obtain ⟨ad, us, rfl, f, q, l⟩ := rep_lst.mp r2
      obtain ⟨bd, ws, rfl, g, r, m⟩ := rep_lst.mp r3
      exact ⟨ad, bd, us, ws, rfl, .inl ⟨SqL.of (R1.fh _ _ f), SqL.of (R1.fh _ _ g), hq F1 H1 _ (Same.refl F1) R1 ⟨isIt_zp f q g r, by rw [zipL_len]; exact Nat.le_trans (Nat.min_le_left _ _) (q.len ▸ l)⟩⟩⟩
    · cases hx
      obtain ⟨v, u, rfl, r2, r3⟩ := reps2 r1
      obtain ⟨ad, us, rfl, f, q, l⟩ := rep_tup.mp r2
      obtain ⟨bd, ws, rfl, g, r, m⟩ := rep_tup.mp r3
      exact ⟨ad, bd, us, ws, rfl, .inr ⟨sqt_mono R1.fh f, sqt_mono R1.fh g, hq F1 H1 _ (Same.refl F1) R1 ⟨isIt_zpT f q g r, by rw [zipL_len]; exact Nat.le_trans (Nat.min_le_left _ _) (q.len ▸ l)⟩⟩⟩
    · cases hx⟩
end
end Ly
set_option maxHeartbeats 1000000
/-! Ly6: comprehensions; defs, their calls, errors. -/
namespace Ly
open PySem PySem.Spec PyProof.Rows L2

/-! ### slots put aside -/
def wipeE (e : En) : List Nat → En
  | [] => e
  | v :: vs => st (wipeE e vs) v none
def nown : Option Sl → Option Sl
  | some (.v d) => some (.v d)
  | _ => none
def rsE (e0 e : En) : List Nat → En
  | [] => e
  | v :: vs => st (rsE e0 e vs) v (nown (gt e0 v))
theorem rs_len (e0 e : En) : ∀ vs : List Nat, (rsE e0 e vs).length = e.length
  | [] => rfl
  | v :: vs => by show (st (rsE e0 e vs) v _).length = _; rw [st_len, rs_len e0 e vs]
theorem wp_len (e : En) : ∀ vs : List Nat, (wipeE e vs).length = e.length
  | [] => rfl
  | v :: vs => by show (st (wipeE e vs) v _).length = _; rw [st_len, wp_len e vs]
theorem gt_rs {e0 e : En} {j : Nat} : ∀ {vs : List Nat}, (∀ v ∈ vs, v < e.length) → gt (rsE e0 e vs) j = if j ∈ vs then nown (gt e0 j) else gt e j
  | [], _ => by simp [rsE]
  | v :: vs, h => by
    show gt (st (rsE e0 e vs) v _) j = _
    by_cases z : v = j
    · subst z
      rw [gt_st_same _ _ _ (by rw [rs_len]; exact h v (by simp)), if_pos (by simp)]
    · rw [gt_st_ne _ _ _ _ z, gt_rs (fun u hu => h u (by simp [hu]))]
      by_cases w : j ∈ vs
      · rw [if_pos w, if_pos (by simp [w])]
      · rw [if_neg w, if_neg (by simp [w, Ne.symm z])]
theorem wipe_get {σ : St} {j : Nat} : ∀ {vs : List Nat}, (wipe σ vs)[j]? = if j ∈ vs then (σ[j]?).map (fun _ => none) else σ[j]?
  | [] => by simp [wipe]
  | v :: vs => by
    have ih := wipe_get (σ := σ) (j := j) (vs := vs)
    show ((wipe σ vs).set v none)[j]? = _
    have hl := wipe_length σ vs
    by_cases z : v = j
    · subst z
      by_cases hv : v < σ.length
      · rw [List.getElem?_set_self (by rw [hl]; exact hv), if_pos (by simp), List.getElem?_eq_getElem hv]; rfl
      · rw [List.getElem?_eq_none (by rw [List.length_set, hl]; omega), if_pos (by simp), List.getElem?_eq_none (by omega)]; rfl
    · rw [List.getElem?_set_ne z, ih]
      by_cases w : j ∈ vs
      · rw [if_pos w, if_pos (by simp [w])]
      · rw [if_neg w, if_neg (by simp [w, Ne.symm z])]
theorem wipe_ext {σ σ' : St} {vs : List Nat} (hl : σ'.length = σ.length) (h : ∀ j, j ∉ vs → σ'[j]? = σ[j]?) : wipe σ' vs = wipe σ vs := by
  apply List.ext_getElem?
  intro j
  rw [wipe_get, wipe_get]
  by_cases w : j ∈ vs
  · rw [if_pos w, if_pos w]
    by_cases hj : j < σ.length
    · rw [List.getElem?_eq_getElem hj, List.getElem?_eq_getElem (by omega)]; rfl
    · rw [List.getElem?_eq_none (by omega), List.getElem?_eq_none (by omega)]
  · rw [if_neg w, if_neg w]; exact h j w
theorem wipe_wipe (σ : St) (vs : List Nat) : wipe (wipe σ vs) vs = wipe σ vs := wipe_ext (wipe_length σ vs) fun j hj => by rw [wipe_get, if_neg hj]
theorem wipe_set {σ : St} {vs : List Nat} {i : Nat} {x : Option V} (h : i ∈ vs) : wipe (σ.set i x) vs = wipe σ vs := wipe_ext (by simp) fun j hj => by
  have : i ≠ j := fun z => hj (z ▸ h)
  rw [List.getElem?_set_ne this]

section
variable {K : PySem.W.Frag} {A : Ax K} {F F' H H' : Hp} {σ : St} {e : En}
theorem Rl.wipes (R : Rl K A.B F H σ e) : ∀ {vs : List Nat}, (∀ v ∈ vs, v < A.B.n ∧ (A.B.S ≠ none → v ≠ 0)) → Rl K A.B F H (wipe σ vs) (wipeE e vs)
  | [], _ => R
  | v :: vs, h => by
    have ih := Rl.wipes R (vs := vs) (fun u hu => h u (by simp [hu]))
    have hv := h v (by simp)
    exact ih.wipe1 hv.2 (by rw [ih.ln]; exact hv.1) none
theorem Rl.restore {F0 H0 : Hp} {e0 : En} {vs : List Nat} (R0 : Rl K A.B F0 H0 σ e0) (R : Rl K A.B F H (wipe σ vs) e) (s : Same F0 F) (h : ∀ v ∈ vs, v < A.B.n ∧ (A.B.S ≠ none → v ≠ 0)) : Rl K A.B F H σ (rsE e0 e vs) := by
  have hle : ∀ v ∈ vs, v < e.length := fun v hv => by rw [R.ln]; exact (h v hv).1
  have out : ∀ j, j ∉ vs → (wipe σ vs)[j]? = σ[j]? := fun j hj => by rw [wipe_get, if_neg hj]
  have old : ∀ j t, gt (rsE e0 e vs) j = some t → t.own → j ∉ vs ∧ gt e j = some t := fun j t hj ht => by
    rw [gt_rs hle] at hj
    by_cases w : j ∈ vs
    · rw [if_pos w] at hj
      unfold nown at hj
      split at hj
      · cases hj; exact ht.elim
      · cases hj
    · rw [if_neg w] at hj; exact ⟨w, hj⟩
  refine ⟨R.fh, R.f0, R.h0, R.th, R.nf, R.tbs, R.tF, by rw [rs_len, ← R.len, wipe_length], by rw [rs_len]; exact R.ln, fun j t hj => ?_, fun j k t t' p h1 h2 o1 o2 q1 q2 => ?_, fun p hS j t hj ho hv => ?_, fun p hS => ?_⟩
  · rw [gt_rs hle] at hj
    by_cases w : j ∈ vs
    · rw [if_pos w] at hj
      unfold nown at hj
      split at hj
      · rename_i d hd
        cases hj
        obtain ⟨v, a, b⟩ := R0.sl j _ hd
        exact ⟨v, a, Rep.mono s d v b⟩
      · cases hj
    · rw [if_neg w] at hj
      obtain ⟨v, a, b⟩ := R.sl j t hj
      rw [out j w] at a
      exact ⟨v, a, b⟩
  · obtain ⟨n1, g1⟩ := old j t h1 o1
    obtain ⟨n2, g2⟩ := old k t' h2 o2
    exact R.own j k t t' p g1 g2 o1 o2 (by rw [out j n1]; exact q1) (by rw [out k n2]; exact q2)
  · obtain ⟨n1, g1⟩ := old j t hj ho
    exact R.pin p hS j t g1 ho (by rw [out j n1]; exact hv)
  · have n0 : 0 ∉ vs := fun z => (h 0 z).2 (by rw [hS]; exact fun z => by cases z) rfl
    obtain ⟨xs, a, b⟩ := R.pin0 p hS
    exact ⟨xs, by rw [gt_rs hle, if_neg n0]; exact a, by rw [← out 0 n0]; exact b⟩
/-- the same, an object kept out of sight -/
def Ax.hid (A : Ax K) (Da : Addr) (o : HO) : Ax K := ⟨⟨A.B.F, upd A.B.H Da o, A.B.S, A.B.T, A.B.n⟩, fun _ _ _ => False, A.cl⟩
theorem Rl.slB {B' : Bs} {s : Sl} {v : V} (h : SlR K A.B F H s v) (k : ∀ p, v = .ref p → s.own → Mn A.B p → Mn B' p) : SlR K B' F H s v := by
  cases s with
  | v d => exact h
  | m xs =>
    obtain ⟨p, vs, rfl, h1, h2, h3, h4, h5⟩ := h
    exact ⟨p, vs, rfl, h1, h2, h3, h4, k p rfl trivial h5⟩
  | k kvs =>
    obtain ⟨p, rfl, h1, h2, h4, h5⟩ := h
    exact ⟨p, rfl, h1, h2, h4, k p rfl trivial h5⟩
theorem Rl.hid0 (R : Rl K A.B F H σ e) {Da : Addr} {o : HO} (h : H Da = none) : Rl K (A.hid Da o).B F (upd H Da o) σ e := by
  have fp := same_none R.fh h
  refine ⟨same_mut R.fh fp, R.f0, fun b x hb h1 h2 => ?_, fun b x hb => ?_, fun b x hb hf => ?_, R.tbs.ext (same_new h), R.tF, R.len, R.ln, fun i s hi => ?_, R.own, R.pin, R.pin0⟩
  · have hb : upd A.B.H Da o b = some x := hb
    by_cases z : b = Da
    · subst z; rw [upd_same] at hb ⊢; exact hb
    · rw [upd_ne z] at hb ⊢; exact R.h0 b x hb h1 h2
  · have hb : upd A.B.H Da o b = some x := hb
    by_cases z : b = Da
    · subst z; exact ⟨o, upd_same⟩
    · rw [upd_ne z] at hb ⊢; exact R.th b x hb
  · have hb : upd A.B.H Da o b = some x := hb
    by_cases z : b = Da
    · subst z; exact fp
    · rw [upd_ne z] at hb; exact R.nf b x hb hf
  · obtain ⟨v, a, b⟩ := R.sl i s hi
    refine ⟨v, a, ?_⟩
    have ne : ∀ p, v = .ref p → s.own → p ≠ Da := fun p hp ho => by
      subst hp
      obtain ⟨_, ⟨ob, z, _⟩, _⟩ := b.at ho
      exact ne_of_none z h
    have b2 : SlR K (A.hid Da o).B F H s v := Rl.slB b fun p hp ho mn => by
      rcases mn with m | m
      · exact .inl m
      · exact .inr (by show upd A.B.H Da o p = none; rw [upd_ne (ne p hp ho)]; exact m)
    refine b2.mono (Same.refl F) fun q hq ho => ?_
    subst hq
    exact ⟨(b.at ho).1, upd_ne (ne q rfl ho)⟩
theorem hid_at {Da : Addr} {o : HO} (R : Rl K (A.hid Da o).B F H σ e) (hS : A.B.S ≠ some Da) (hT : ∀ q, (Da, q) ∉ A.B.T) (hF : A.B.F Da = none) : H Da = some o ∧ F Da = none :=
  ⟨R.h0 Da o (show upd A.B.H Da o Da = some o from upd_same) hS hT, R.nf Da o (show upd A.B.H Da o Da = some o from upd_same) hF⟩
theorem Rl.hidSet {Da : Addr} {o o' : HO} (R : Rl K (A.hid Da o).B F H σ e) (hS : A.B.S ≠ some Da) (hT : ∀ q, (Da, q) ∉ A.B.T) (hF : A.B.F Da = none) (hk : ∀ c q, o ≠ LamX.CodeO c q) : Rl K (A.hid Da o').B F (upd H Da o') σ e := by
  obtain ⟨hD, fD⟩ := hid_at R hS hT hF
  refine ⟨same_mut R.fh fD, R.f0, fun b x hb h1 h2 => ?_, fun b x hb => ?_, fun b x hb hf => ?_, fun q hq => ?_, R.tF, R.len, R.ln, fun i s hi => ?_, R.own, R.pin, R.pin0⟩
  · have hb : upd A.B.H Da o' b = some x := hb
    by_cases z : b = Da
    · subst z; rw [upd_same] at hb ⊢; exact hb
    · rw [upd_ne z] at hb ⊢; exact R.h0 b x (show upd A.B.H Da o b = some x by rw [upd_ne z]; exact hb) h1 h2
  · have hb : upd A.B.H Da o' b = some x := hb
    by_cases z : b = Da
    · subst z; exact ⟨o', upd_same⟩
    · rw [upd_ne z] at hb ⊢; exact R.th b x (show upd A.B.H Da o b = some x by rw [upd_ne z]; exact hb)
  · have hb : upd A.B.H Da o' b = some x := hb
    by_cases z : b = Da
    · subst z; exact fD
    · rw [upd_ne z] at hb; exact R.nf b x (show upd A.B.H Da o b = some x by rw [upd_ne z]; exact hb) hf
  · obtain ⟨ps, t1, t2, t3⟩ := R.tbs q hq
    have nq : q.1 ≠ Da := fun z => hT q.2 (by rw [← z]; exact hq)
    refine ⟨ps, by rw [upd_ne nq]; exact t1, t2, fun pos cv hc => ?_⟩
    obtain ⟨c, c1, c2⟩ := t3 pos cv hc
    refine ⟨c, c1, ?_⟩
    have nc : c ≠ Da := fun z => by
      rw [z, hD] at c2
      exact hk Da q.2 (Option.some.inj c2)
    rw [upd_ne nc]; exact c2
  · obtain ⟨v, a, b⟩ := R.sl i s hi
    refine ⟨v, a, ?_⟩
    have ne : ∀ p, v = .ref p → s.own → p ≠ Da := fun p hp ho => by
      subst hp
      obtain ⟨_, _, mn⟩ := b.at ho
      rcases mn with m | m
      · exact fun z => hS (by rw [← z]; exact m)
      · exact fun z => by rw [z] at m; exact nomatch (show some o = none from (upd_same (H := A.B.H)).symm.trans m)
    have b2 : SlR K (A.hid Da o').B F H s v := by
      refine Rl.slB (A := A.hid Da o) b fun p hp ho mn => ?_
      rcases mn with m | m
      · exact .inl m
      · have m' : upd A.B.H Da o p = none := m
        rw [upd_ne (ne p hp ho)] at m'
        exact .inr (by show upd A.B.H Da o' p = none; rw [upd_ne (ne p hp ho)]; exact m')
    refine b2.mono (Same.refl F) fun q hq ho => ?_
    subst hq
    exact ⟨(b.at ho).1, upd_ne (ne q rfl ho)⟩
theorem Rl.unhid {Da : Addr} {o : HO} (R : Rl K (A.hid Da o).B F H σ e) (hB : A.B.H Da = none) (hS : A.B.S ≠ some Da) (hT : ∀ q, (Da, q) ∉ A.B.T) (hF : A.B.F Da = none) (ho : ∀ q, o ≠ .tbl q := by intro q z; cases z) : Rl K A.B (upd F Da o) H σ e := by
  obtain ⟨hD, fD⟩ := hid_at R hS hT hF
  have sF : Same F (upd F Da o) := same_new fD
  have up : ∀ b x, A.B.H b = some x → upd A.B.H Da o b = some x := fun b x hb => by rw [upd_ne (ne_of_none hb hB)]; exact hb
  refine ⟨fun b x hb => ?_, R.f0.trans sF, fun b x hb h1 h2 => R.h0 b x (up b x hb) h1 h2, fun b x hb => R.th b x (up b x hb), fun b x hb hf => ?_, R.tbs, R.tF.upd ho, R.len, R.ln, fun i s hi => ?_, R.own, R.pin, R.pin0⟩
  · by_cases z : b = Da
    · subst z; rw [upd_same] at hb; cases hb; exact hD
    · rw [upd_ne z] at hb; exact R.fh _ _ hb
  · rw [upd_ne (ne_of_none hb hB)]; exact R.nf b x (up b x hb) hf
  · obtain ⟨v, a, b⟩ := R.sl i s hi
    refine ⟨v, a, ?_⟩
    have ne : ∀ p, v = .ref p → s.own → p ≠ Da := fun p hp ho => by
      subst hp
      obtain ⟨_, _, mn⟩ := b.at ho
      rcases mn with m | m
      · exact fun z => hS (by rw [← z]; exact m)
      · exact fun z => by rw [z] at m; exact nomatch (show some o = none from (upd_same (H := A.B.H)).symm.trans m)
    have b2 : SlR K A.B F H s v := by
      refine Rl.slB (A := A.hid Da o) b fun p hp ho mn => ?_
      rcases mn with m | m
      · exact .inl m
      · have m' : upd A.B.H Da o p = none := m
        rw [upd_ne (ne p hp ho)] at m'
        exact .inr m'
    refine b2.mono sF fun q hq ho => ?_
    subst hq
    exact ⟨by rw [upd_ne (ne q rfl ho)]; exact (b.at ho).1, rfl⟩
end

/-! ### list comprehensions -/
def lcL (g : Tgt) (c : WTx) (t : WEx) (own : List Nat) : List Dt → En → Option (List Dt × En)
  | [], e => some ([], e)
  | x :: xs, e => match g x e with
    | none => none
    | some e1 => match c e1 with
      | some (.ok true e2) => (match t e2 with
        | some (.ok y e3) => (match lcL g c t own xs (wipeE e3 own) with
          | some (ys, e4) => some (y :: ys, e4)
          | none => none)
        | _ => none)
      | some (.ok false e2) => lcL g c t own xs (wipeE e2 own)
      | _ => none
def wLc (it : WIx) (g : Tgt) (c : WTx) (t : WEx) (own : List Nat) : WEx := fun e => bnd (it e) fun xs e1 => match lcL g c t own xs (wipeE e1 own) with
  | some (ys, e2) => some (.ok (.lst ys) (rsE e1 e2 own))
  | none => none
def wYes : WTx := fun e => some (.ok true e)
/-- a target of a comprehension, raw -/
structure RawG (K : PySem.W.Frag) (g : Tgt) (graw : TG) (own : List Nat) (n : Nat) (S : Option Addr) : Prop where
  go : ∀ (A : Ax K), A.B.n = n → A.B.S = S → ∀ (v : V) (σ : St) (F H : Hp) (e e' : En) (d : Dt) (Q : St → Hp → Prop), Rl K A.B F H σ e → Rep K F d v → g d e = some e' → (∀ σ', Rl K A.B F H σ' e' → wipe σ' own = wipe σ own → Q σ' H) → graw v σ H Q
def gRw : List Nat → L2.TGs
  | [] => gNil
  | i :: is => gCons (gName i) (gRw is)
section
variable {K : PySem.W.Frag} {own : List Nat} {n : Nat} {S : Option Addr}
theorem raw_n {i : Nat} (hi : i < n ∧ (S ≠ none → i ≠ 0)) (ho : i ∈ own) : RawG K (gN i) (gName i) own n S :=
  ⟨fun A hn hS v σ F H e e' d Q R r hg k => by
    cases hg
    exact k _ (R.setV (by rw [R.ln, hn]; exact hi.1) (by rw [hS]; exact hi.2) r) (wipe_set ho)⟩
theorem raw_rw : ∀ {is : List Nat}, (∀ i ∈ is, (i < n ∧ (S ≠ none → i ≠ 0)) ∧ i ∈ own) → ∀ (A : Ax K), A.B.n = n → A.B.S = S → ∀ (vs : List V) (σ : St) (F H : Hp) (e e' : En) (ds : List Dt) (Q : St → Hp → Prop), Rl K A.B F H σ e → Reps K F ds vs → gL is ds e = some e' →
    (∀ σ', Rl K A.B F H σ' e' → wipe σ' own = wipe σ own → Q σ' H) → gRw is vs σ H Q
  | [], _, A, hn, hS, vs, σ, F, H, e, e', ds, Q, R, r, hg, k => by
    cases ds with
    | nil =>
      rw [reps_nil] at r; subst r
      cases hg
      exact ⟨rfl, k σ R rfl⟩
    | cons d ds => simp [gL] at hg
  | i :: is, h, A, hn, hS, vs, σ, F, H, e, e', ds, Q, R, r, hg, k => by
    cases ds with
    | nil => simp [gL] at hg
    | cons d ds =>
      obtain ⟨v, vr, rfl, q1, q2⟩ := reps_cons.mp r
      have hi := h i (by simp)
      refine ⟨v, vr, rfl, ?_⟩
      exact raw_rw (fun j hj => h j (by simp [hj])) A hn hS vr _ F H _ e' ds Q (R.setV (by rw [R.ln, hn]; exact hi.1.1) (by rw [hS]; exact hi.1.2) q1) q2 hg fun σ' R' hw => k σ' R' (hw.trans (wipe_set hi.2))
theorem raw_t {is : List Nat} (h : ∀ i ∈ is, (i < n ∧ (S ≠ none → i ≠ 0)) ∧ i ∈ own) : RawG K (gT is) (gTup K is.length (gRw is)) own n S :=
  ⟨fun A hn hS v σ F H e e' d Q R r hg k => by
    unfold gT at hg
    split at hg
    · rename_i ds
      obtain ⟨a, vs, rfl, f, q, l⟩ := rep_tup.mp r
      have len : ∀ (is : List Nat) (ds : List Dt) (e e' : En), gL is ds e = some e' → ds.length = is.length := by
        intro is
        induction is with
        | nil => intro ds e e' h; cases ds with
          | nil => rfl
          | cons d ds => simp [gL] at h
        | cons i is ih => intro ds e e' h; cases ds with
          | nil => simp [gL] at h
          | cons d ds => simp only [gL] at h; simp [ih _ _ _ h]
      exact ⟨a, vs, rfl, sqt_mono R.fh f, by rw [← q.len]; exact len _ _ _ _ hg, raw_rw h A hn hS vs σ F H e e' ds Q R q hg k⟩
    · cases hg⟩
end
section
variable {X : Cx} {A : Ax X.K} {elt tg iter : Expr} {ifs : List Expr} {scope : Scope} {own : List (Str × Nat)} {pos : Pos} {wi : WIx} {g : Tgt} {graw : TG} {wc : WTx} {we : WEx}
theorem pts_nilx {X : Cx} {A : Ax X.K} : PTs X [] (TTx A wYes) := ⟨fun pins s σ H Q I ⟨F, e, R, h⟩ => pts_nil.run pins s σ H Q I (h F H true (Same.refl F) R rfl)⟩
theorem pts_onex {X : Cx} {A : Ax X.K} {c : Expr} {w : WTx} (h : PT X c (TTx A w)) : PTs X [c] (TTx A w) := pts_one h
abbrev hidT (A : Ax X.K) (w : WTx) : TT := fun σ H Q => ∃ Da o, A.B.H Da = none ∧ TTx (A.hid Da o) w σ H Q
abbrev hidE (A : Ax X.K) (w : WEx) : TE := fun σ H Q => ∃ Da o, A.B.H Da = none ∧ TEx (A.hid Da o) w σ H Q
theorem pts_hid {Y : Cx} {A : Ax Y.K} (h : ∀ Da o, A.B.H Da = none → PTs Y ifs (TTx (A.hid Da o) wc)) : PTs Y ifs (fun σ H Q => ∃ Da o, A.B.H Da = none ∧ TTx (A.hid Da o) wc σ H Q) := ⟨fun pins s σ H Q I ⟨Da, o, d, q⟩ => (h Da o d).run pins s σ H Q I q⟩
theorem pe_hid {Y : Cx} {A : Ax Y.K} (h : ∀ Da o, A.B.H Da = none → PE Y elt (TEx (A.hid Da o) we)) : PE Y elt (fun σ H Q => ∃ Da o, A.B.H Da = none ∧ TEx (A.hid Da o) we σ H Q) := ⟨fun pins s σ H Q I ⟨Da, o, d, q⟩ => (h Da o d).run pins s σ H Q I q⟩
theorem drop_cons {α : Type} {xs : List α} {i : Nat} {d : α} (hd : xs[i]? = some d) : xs.drop i = d :: xs.drop (i + 1) := by
  obtain ⟨h1, h2⟩ := List.getElem?_eq_some_iff.mp hd
  rw [← h2]; exact List.drop_eq_getElem_cons h1
theorem lc_read {vs : List Nat} (hv : ∀ v ∈ vs, v < A.B.n ∧ (A.B.S ≠ none → v ≠ 0)) (hraw : RawG X.K g graw vs A.B.n A.B.S) {σ : St} {H : Hp} {Q : VK} (h : TEx A (wLc wi g wc we vs) σ H Q) :
    tLc (TIx A wi) graw (fun σ H Q => ∃ Da o, A.B.H Da = none ∧ TTx (A.hid Da o) wc σ H Q) (fun σ H Q => ∃ Da o, A.B.H Da = none ∧ TEx (A.hid Da o) we σ H Q) vs σ H Q := by
  obtain ⟨F, e, R, h⟩ := h
  refine ⟨F, e, R, (FinG.bind (R := RI X.K) h).imp fun J H1 ⟨F1, xs, e1, s1, R1, ⟨W, hz⟩, h1⟩ => ?_⟩
  intro Da hDa
  cases hL : lcL g wc we vs xs (wipeE e1 vs) with
  | none => rw [hL] at h1; exact h1.elim
  | some r =>
    obtain ⟨ys, e2⟩ := r
    rw [hL] at h1
    have bD : A.B.H Da = none := by
      cases hb : A.B.H Da with
      | none => rfl
      | some o =>
        obtain ⟨o', ho⟩ := R1.th Da o hb
        rw [hDa] at ho; cases ho
    have fD : A.B.F Da = none := by
      cases hb : A.B.F Da with
      | none => rfl
      | some o => exact nomatch (hDa.symm.trans (R1.fh _ _ (R1.f0 _ _ hb)))
    have sD : A.B.S ≠ some Da := fun hS => by
      obtain ⟨zs, a, b⟩ := R1.pin0 Da hS
      obtain ⟨v, c, d⟩ := R1.sl 0 _ a
      rw [b] at c; cases c
      obtain ⟨_, ⟨ob, z, _⟩, _⟩ := d.at trivial
      rw [hDa] at z; cases z
    have tD : ∀ q, (Da, q) ∉ A.B.T := fun q hq => by
      obtain ⟨ps, hp⟩ := R1.tab hq
      rw [show H1 Da = some (.tbl ps) from hp] at hDa; cases hDa
    have Rw := R1.wipes (vs := vs) hv
    refine lc_it (J := J) (g := graw) (tt := fun σ H Q => ∃ Da o, A.B.H Da = none ∧ TTx (A.hid Da o) wc σ H Q) (te := fun σ H Q => ∃ Da o, A.B.H Da = none ∧ TEx (A.hid Da o) we σ H Q) (vs := vs) (σ := σ) (H1 := H1) (D := Da) (Qd := fun H => Q (.ref Da) H) W (fun i H => ∃ F e ac vl rest, Same F1 F ∧ Rl X.K (A.hid Da (.lst vl)).B F H (wipe σ vs) e ∧ Reps X.K F ac vl ∧ vl.length ≤ i ∧ lcL g wc we vs (xs.drop i) e = some (rest, e2) ∧ ac ++ rest = ys) ?_ ?_ ?_ ?_
    · refine ⟨F1, wipeE e1 vs, [], [], ys, Same.refl F1, Rl.hid0 (A := A) Rw hDa, reps_nil.mpr rfl, Nat.le_refl _, hL, rfl⟩
    · rintro i H hi ⟨F, e, ac, vl, rest, s, R, _⟩
      exact s.trans R.fh
    · rintro i x H H' hi ⟨F, e, ac, vl, rest, s, R, ra, hl, hlc, hac⟩ hy
      have key : ∃ d F2, xs[i]? = some d ∧ Same F F2 ∧ Rl X.K (A.hid Da (.lst vl)).B F2 H' (wipe σ vs) e ∧ Rep X.K F2 d x := by
        rcases hy with ⟨rfl, d, h1, h2⟩ | ⟨T, a, b, da, db, rfl, h2, rfl, h4, h5, h6⟩
        · exact ⟨d, F, h1, Same.refl F, R, h2.mono s⟩
        · have fT := same_none R.fh h2
          have s2 : Same F (upd F T (.tup [a, b])) := same_new fT
          exact ⟨_, _, h4, s2, R.new h2, rep_tup.mpr ⟨T, [a, b], rfl, SqT.of upd_same, reps_cons.mpr ⟨a, [b], rfl, (h5.mono s).mono s2, reps_cons.mpr ⟨b, [], rfl, (h6.mono s).mono s2, reps_nil.mpr rfl⟩⟩, (by show 2 ≤ sizeLine; decide)⟩⟩
      obtain ⟨d, F2, hd, s2, R2, rd⟩ := key
      rw [drop_cons hd] at hlc
      unfold lcL at hlc
      split at hlc
      · cases hlc
      · rename_i e3 hg
        refine hraw.go (A.hid Da (.lst vl)) rfl rfl x _ F2 H' e e3 d _ R2 rd hg fun σ2 R3 hw => ?_
        have hw2 : wipe σ2 vs = wipe σ vs := hw.trans (wipe_wipe σ vs)
        refine ⟨hw2, Da, .lst vl, bD, F2, e3, R3, ?_⟩
        split at hlc
        · rename_i e4 hc
          rw [hc]
          intro F4 H4 b sF4 R4 rb
          obtain rfl : b = true := rb
          rw [if_pos rfl]
          refine ⟨Da, .lst vl, bD, F4, e4, R4, ?_⟩
          split at hlc
          · rename_i y e5 ht
            rw [ht]
            intro F5 H5 yv sF5 R5 ry
            split at hlc
            · rename_i zs e6 hrec
              cases hlc
              obtain ⟨g1, g2⟩ := hid_at R5 sD tD fD
              refine ⟨vl, g1, Nat.lt_of_le_of_lt hl (Nat.lt_of_lt_of_le hi hz), F5, wipeE e5 vs, ac ++ [y], vl ++ [yv], zs, ((s.trans s2).trans sF4).trans sF5, ?_, (ra.mono (s2.trans (sF4.trans sF5))).app (reps_cons.mpr ⟨yv, [], rfl, ry, reps_nil.mpr rfl⟩), by rw [List.length_append]; exact Nat.succ_le_succ hl, hrec, by rw [← hac, List.append_assoc]; rfl⟩
              have R6 := Rl.hidSet (A := A) (o' := .lst (vl ++ [yv])) R5 sD tD fD (fun c q z => by unfold LamX.CodeO at z; cases z)
              have R7 := Rl.wipes (A := A.hid Da (.lst (vl ++ [yv]))) R6 (vs := vs) hv
              rw [hw2] at R7
              exact R7
            · cases hlc
          · cases hlc
        · rename_i e4 hc
          rw [hc]
          intro F4 H4 b sF4 R4 rb
          obtain rfl : b = false := rb
          rw [if_neg (by decide)]
          have R7 := Rl.wipes (A := A.hid Da (.lst vl)) R4 (vs := vs) hv
          rw [hw2] at R7
          exact ⟨F4, wipeE e4 vs, ac, vl, rest, (s.trans s2).trans sF4, R7, ra.mono (s2.trans sF4), Nat.le_succ_of_le hl, hlc, hac⟩
        · cases hlc
    · rintro H ⟨F, e, ac, vl, rest, s, R, ra, hl, hlc, hac⟩
      rw [List.drop_length] at hlc
      cases hlc
      rw [List.append_nil] at hac
      subst hac
      have R2 := Rl.unhid (A := A) R bD sD tD fD
      obtain ⟨g1, g2⟩ := hid_at R sD tD fD
      have sF : Same F (upd F Da (.lst vl)) := same_new g2
      exact h1 (upd F Da (.lst vl)) H (.ref Da) (s.trans sF) (Rl.restore R1 R2 (s.trans sF) hv) (rep_lst.mpr ⟨Da, vl, rfl, upd_same, ra.mono sF, Nat.le_trans hl hz⟩)
theorem n_lc (hc : X.calm = true) (hN : X.N.Nodup) (hi : PI X tg iter (TIx A wi)) (ok : BlkOk X.N X.env.scope scope own) (hv : ∀ v ∈ own.map (·.2), v < A.B.n ∧ (A.B.S ≠ none → v ≠ 0)) (hraw : RawG X.K g graw (own.map (·.2)) A.B.n A.B.S)
    (hg : ∀ (s : Shared) (H : Hp) (C : Addr) (cl : List (Str × Addr)) (fp : List Addr), PG (X.blk s H scope (compEnvC scope cl C X.env) fp) tg graw)
    (ht : ∀ (Da : Addr) (o : HO) (s : Shared) (H : Hp) (C : Addr) (cl : List (Str × Addr)) (fp : List Addr), PTs (X.blk s H scope (compEnvC scope cl C X.env) fp) ifs (TTx (A.hid Da o) wc))
    (he : ∀ (Da : Addr) (o : HO) (s : Shared) (H : Hp) (C : Addr) (cl : List (Str × Addr)) (fp : List Addr), PE (X.blk s H scope (compEnvC scope cl C X.env) fp) elt (TEx (A.hid Da o) we))
    (hs : ∀ x, foldedSetIterable iter X.env x = pure x := by intro _; rfl) : PE X (.ListComp elt [⟨tg, iter, ifs, 0⟩] scope pos) (TEx A (wLc wi g wc we (own.map (·.2)))) :=
  pe_imp (pe_lc hc hN hi ok hg (fun s H C cl fp => pts_hid fun Da o _ => ht Da o s H C cl fp) (fun s H C cl fp => pe_hid fun Da o _ => he Da o s H C cl fp) hs) fun σ H Q h => lc_read hv hraw h
/-- .. the list that grows is new -/
theorem n_lcD (hc : X.calm = true) (hN : X.N.Nodup) (hi : PI X tg iter (TIx A wi)) (ok : BlkOk X.N X.env.scope scope own) (hv : ∀ v ∈ own.map (·.2), v < A.B.n ∧ (A.B.S ≠ none → v ≠ 0)) (hraw : RawG X.K g graw (own.map (·.2)) A.B.n A.B.S)
    (hg : ∀ (s : Shared) (H : Hp) (C : Addr) (cl : List (Str × Addr)) (fp : List Addr), PG (X.blk s H scope (compEnvC scope cl C X.env) fp) tg graw)
    (ht : ∀ (Da : Addr) (o : HO) (_ : A.B.H Da = none) (s : Shared) (H : Hp) (C : Addr) (cl : List (Str × Addr)) (fp : List Addr), PTs (X.blk s H scope (compEnvC scope cl C X.env) fp) ifs (TTx (A.hid Da o) wc))
    (he : ∀ (Da : Addr) (o : HO) (_ : A.B.H Da = none) (s : Shared) (H : Hp) (C : Addr) (cl : List (Str × Addr)) (fp : List Addr), PE (X.blk s H scope (compEnvC scope cl C X.env) fp) elt (TEx (A.hid Da o) we))
    (hs : ∀ x, foldedSetIterable iter X.env x = pure x := by intro _; rfl) : PE X (.ListComp elt [⟨tg, iter, ifs, 0⟩] scope pos) (TEx A (wLc wi g wc we (own.map (·.2)))) :=
  pe_imp (pe_lc hc hN hi ok hg (fun s H C cl fp => pts_hid (Y := X.blk s H scope (compEnvC scope cl C X.env) fp) (A := A) (wc := wc) fun Da o d => ht Da o d s H C cl fp) (fun s H C cl fp => pe_hid (Y := X.blk s H scope (compEnvC scope cl C X.env) fp) (A := A) (we := we) fun Da o d => he Da o d s H C cl fp) hs) fun σ H Q h => lc_read hv hraw h
/-- y = [..] -/
theorem n_asLc {i : Nat} {y : Str} {py spos : Pos} (hf : Free A i) (hc : X.calm = true) (hN : X.N.Nodup) (hy : X.N[i]? = some y) (hyl : X.env.scope.names.lookup y = some .local) (hsw : swapsWith (.ListComp elt [⟨tg, iter, ifs, 0⟩] scope pos) (some (.Name y py)) spos.line X.env = pure true)
    (hi : PI X tg iter (TIx A wi)) (ok : BlkOk X.N X.env.scope scope own) (hv : ∀ v ∈ own.map (·.2), v < A.B.n ∧ (A.B.S ≠ none → v ≠ 0)) (hraw : RawG X.K g graw (own.map (·.2)) A.B.n A.B.S)
    (hg : ∀ (s : Shared) (H : Hp) (C : Addr) (cl : List (Str × Addr)) (fp : List Addr), PG (X.blk s H scope (compEnvC scope cl C X.env) fp) tg graw)
    (ht : ∀ (Da : Addr) (o : HO) (s : Shared) (H : Hp) (C : Addr) (cl : List (Str × Addr)) (fp : List Addr), PTs (X.blk s H scope (compEnvC scope cl C X.env) fp) ifs (TTx (A.hid Da o) wc))
    (he : ∀ (Da : Addr) (o : HO) (s : Shared) (H : Hp) (C : Addr) (cl : List (Str × Addr)) (fp : List Addr), PE (X.blk s H scope (compEnvC scope cl C X.env) fp) elt (TEx (A.hid Da o) we))
    (hs : ∀ x, foldedSetIterable iter X.env x = pure x := by intro _; rfl) : PS X (.Assign [.Name y py] (.ListComp elt [⟨tg, iter, ifs, 0⟩] scope pos) spos) (TSx A (wAs (gN i) (wLc wi g wc we (own.map (·.2))))) :=
  ps_imp (ps_setLc hc hN hy hyl hsw hi ok hg (fun s H C cl fp => pts_hid fun Da o _ => ht Da o s H C cl fp) (fun s H C cl fp => pe_hid fun Da o _ => he Da o s H C cl fp) hs) fun D σ H ⟨F, e, R, h⟩ =>
    lc_read (Q := fun x H1 => gName i x σ H1 D.nx) hv hraw ⟨F, e, R, (FinS.bind (R := Rep X.K) h).imp fun v H1 ⟨F1, d, e1, s1, R1, r1, h1⟩ => h1 F1 H1 _ (Same.refl F1) (R1.setV (by rw [R1.ln]; exact hf.1) hf.2 r1)⟩
end
end Ly
set_option maxHeartbeats 1000000
/-! Ly7: defs, their calls, errors; lists and dicts of one's own. -/
namespace Ly
open PySem PySem.Spec PyProof.Rows L2

/-! ### defs -/
inductive FR where
  | ok (d : Dt)
  | er (c : Str)
abbrev Fn := List Dt → Option FR
def iniE (n : Nat) : List Dt → En
  | [] => List.replicate n none
  | d :: ds => some (.v d) :: iniE (n - 1) ds
theorem iniE_len : ∀ (n : Nat) (ds : List Dt), ds.length ≤ n → (iniE n ds).length = n
  | n, [], _ => by simp [iniE]
  | n, d :: ds, h => by
    have h1 : ds.length ≤ n - 1 := by simp at h; omega
    have h2 : 1 ≤ n := by simp at h; omega
    show (iniE (n - 1) ds).length + 1 = n
    rw [iniE_len (n - 1) ds h1]; omega
theorem gt_rep : ∀ (n i : Nat), gt (List.replicate n none) i = none
  | 0, _ => rfl
  | n + 1, 0 => rfl
  | n + 1, i + 1 => gt_rep n i
theorem gt_ini : ∀ {n i : Nat} {ds : List Dt} {s : Sl}, gt (iniE n ds) i = some s → ∃ d, ds[i]? = some d ∧ s = .v d
  | n, i, [], s, h => by rw [iniE, gt_rep] at h; cases h
  | n, 0, d :: ds, s, h => by
    have h : some (Sl.v d) = some s := h
    cases h; exact ⟨d, rfl, rfl⟩
  | n, i + 1, d :: ds, s, h => gt_ini (n := n - 1) (i := i) (ds := ds) h
/-- what a def gives: k parameters, n slots -/
def semOf (k n : Nat) (w : WSt) : Fn := fun ds => if ds.length = k then (match w (iniE n ds) with
  | some (.rt (.v d) _) => some (.ok d)
  | some (.rt (.m xs) _) => some (.ok (.lst xs))
  | some (.nx _) => some (.ok .non)
  | some (.er c) => some (.er c)
  | _ => none) else none
def FinF (K : PySem.W.Frag) (B : Bs) (E : XK) (cl : Str → Option Addr) (Q : VK) : Option FR → Prop
  | some (.ok d) => ∀ F' H' v, Rl K B F' H' [] [] → Rep K F' d v → Q v H'
  | some (.er c) => ∀ a F' H', cl c = some a → Rl K B F' H' [] [] → E (.ref a) none H'
  | none => False
def spP (K : PySem.W.Frag) (T : List (Addr × Str)) (cl : Str → Option Addr) (k : Nat) (f : Fn) : Sp := fun vs H Q E => vs.length = k ∧ ∃ F ds, Same F H ∧ Reps K F ds vs ∧ LamX.Tabs T H ∧ NoT F ∧ FinF K ⟨F, H, none, T, 0⟩ E cl Q (f ds)
section
variable {K : PySem.W.Frag} {F F' H H' : Hp} {T : List (Addr × Str)}
theorem Rl.bare {n : Nat} {σ : St} {e : En} (R : Rl K ⟨F, H, none, T, n⟩ F' H' σ e) : Rl K ⟨F, H, none, T, 0⟩ F' H' [] [] :=
  ⟨R.fh, R.f0, R.h0, R.th, R.nf, R.tbs, R.tF, rfl, rfl, fun i s h => (nomatch h), fun i j s s' p h => (nomatch h), fun p h => (nomatch h), fun p h => (nomatch h)⟩
theorem Rl.ini {σ : St} {n : Nat} {ds : List Dt} {vs : List V} (s : Same F H) (r : Reps K F ds vs) (tb : LamX.Tabs T H) (tF : NoT F) (hl : ds.length ≤ n) (hσ : σ.length = n) (hs : ∀ (i : Nat) (v : V), vs[i]? = some v → σ[i]? = some (some v)) :
    Rl K ⟨F, H, none, T, n⟩ F H σ (iniE n ds) :=
  ⟨s, Same.refl F, fun b o hb _ _ => hb, fun b o hb => ⟨o, hb⟩, fun b o _ hf => hf, tb, tF, by rw [hσ, iniE_len n ds hl], iniE_len n ds hl, fun i sl hi => by
    obtain ⟨d, h1, rfl⟩ := gt_ini hi
    obtain ⟨v, h2, h3⟩ := r.get h1
    exact ⟨v, hs i v h2, h3⟩, fun i j s s' p h1 h2 o1 o2 => by
    obtain ⟨d, _, rfl⟩ := gt_ini h1
    exact o1.elim, fun p h => (nomatch h), fun p h => (nomatch h)⟩
theorem start_len {N : List Str} {vs : List V} (h : vs.length ≤ N.length) : (L2.start N vs).length = N.length := by
  unfold L2.start
  rw [List.length_append, List.length_map, List.length_replicate]; omega
theorem start_get {N : List Str} {vs : List V} {i : Nat} {v : V} (h : vs[i]? = some v) : (L2.start N vs)[i]? = some (some v) := by
  unfold L2.start
  have hi := (List.getElem?_eq_some_iff.mp h).1
  rw [List.getElem?_append_left (by simpa using hi), List.getElem?_map, h]; rfl
/-- an own thing handed out becomes a value -/
theorem Rl.out {n : Nat} {σ : St} {e : En} {xs : List Dt} {v : V} (R : Rl K ⟨F, H, none, T, n⟩ F' H' σ e) (h : SlR K ⟨F, H, none, T, n⟩ F' H' (.m xs) v) (hb : ∀ p, v = .ref p → H p = none) :
    ∃ F'', Rl K ⟨F, H, none, T, 0⟩ F'' H' [] [] ∧ Rep K F'' (.lst xs) v := by
  obtain ⟨p, vs, rfl, h1, h2, h3, h4, h5⟩ := h
  have sF : Same F' (upd F' p (.lst vs)) := same_new h1
  have bp := hb p rfl
  refine ⟨upd F' p (.lst vs), ⟨fun b o q => ?_, R.f0.trans sF, R.h0, R.th, fun b o hb hf => ?_, R.tbs, R.tF.upd (fun q z => by cases z), rfl, rfl, fun i s h => (nomatch h), fun i j s s' p h => (nomatch h), fun p h => (nomatch h), fun p h => (nomatch h)⟩, rep_lst.mpr ⟨p, vs, rfl, upd_same, h3.mono sF, h4⟩⟩
  · by_cases z : b = p
    · subst z; rw [upd_same] at q; cases q; exact h2
    · rw [upd_ne z] at q; exact R.fh _ _ q
  · rw [upd_ne (ne_of_none hb bp)]; exact R.nf b o hb hf
end
section
variable {P : Program} {w : World} {K : PySem.W.Frag} {mg : Str → Option Value} {base : Heap}
/-- the def at f keeps the promise that its body's meaning tells -/
theorem fn_pure {x qual : Str} {params : Arguments} {body : List Stmt} {scope : Scope} {f : Addr} {fd : FuncData} {N ps : List Str} {k : Nat} (n : Nat) (T : List (Addr × Str)) (cl : Str → Option Addr) (ws : WSt)
    (F : FunD K x qual params body scope [] [] f fd) (S : FnScope N ps scope) (hn : N.length = n)
    (hbody : ∀ (cdv : Value) (A : Around) (outer : List Env) (s : Shared) (H : Hp) (E : XK) (Fz : Hp), Room k (A.deeper (envOfC qual scope s.heap.objs.size f cdv)) →
      PSs (cxOf (L2N.CX P w) P w K mg base N qual scope f cdv A outer s H E) body (TSx (K := K) ⟨⟨Fz, H, none, T, n⟩, E, cl⟩ ws)) :
    FnOk P w K mg base (L2N.CX P w) (k + 1) f fd ps (spP K T cl ps.length (semOf ps.length n ws)) := by
  refine F.ok S (fun vs H Q E h => h.1) fun cdv A outer s H vs Q E hr ⟨hl, Fz, ds, sm, r, tb, tF, hq⟩ => ⟨_, hbody cdv A outer s H E Fz hr, ?_⟩
  have hds : ds.length = vs.length := r.len
  have hpl : ps.length ≤ N.length := by have := congrArg List.length S.pre; rw [List.length_take] at this; omega
  refine ⟨Fz, iniE n ds, Rl.ini sm r tb tF (by omega) (by rw [start_len (by omega), hn]) (fun i v => start_get), ?_⟩
  unfold semOf at hq
  rw [if_pos (by omega)] at hq
  revert hq
  cases hw : ws (iniE n ds) with
  | none => exact fun h => h
  | some o =>
    cases o with
    | nx e1 => exact fun h F' H' σ' _ R' => h F' H' _ R'.bare (rep_at.mpr rfl)
    | rt t e1 =>
      cases t with
      | v d => exact fun h F' H' σ' v _ R' r' _ => h F' H' v R'.bare r'
      | m xs =>
        exact fun h F' H' σ' v _ R' r' hb => by
          obtain ⟨F'', q1, q2⟩ := R'.out r' (hb trivial)
          exact h F'' H' v q1 q2
      | k kvs => exact fun h => h.elim
    | bk e1 => exact fun h => h.elim
    | ct e1 => exact fun h => h.elim
    | er c => exact fun h a F' H' σ' e' hc R' => h a F' H' hc R'.bare
end
/-- a module's def with its meaning -/
structure Gf (P : Program) (w : World) (K : PySem.W.Frag) (mg : Str → Option Value) (base : Heap) (T : List (Addr × Str)) (cl : Str → Option Addr) (j : Nat) (x : Str) (k : Nat) (f : Fn) : Prop where
  ex : ∃ (fa : Addr) (fd : FuncData) (ps : List Str), FnOk P w K mg base (L2N.CX P w) j fa fd ps (spP K T cl k f) ∧ mg x = some (.ref fa) ∧ PySem.W.keepIn K (.ref fa) = true ∧ Binds K fd ps []
theorem Gf.mono {P : Program} {w : World} {K : PySem.W.Frag} {mg : Str → Option Value} {base : Heap} {T : List (Addr × Str)} {cl : Str → Option Addr} {j j' : Nat} {x : Str} {k : Nat} {f : Fn} (h : Gf P w K mg base T cl j x k f) (hj : j ≤ j') : Gf P w K mg base T cl j' x k f := by
  obtain ⟨fa, fd, ps, a, b⟩ := h.ex
  exact ⟨fa, fd, ps, a.mono hj, b⟩
/-- .. a meaning that tells less -/
theorem Gf.imp {P : Program} {w : World} {K : PySem.W.Frag} {mg : Str → Option Value} {base : Heap} {T : List (Addr × Str)} {cl : Str → Option Addr} {j : Nat} {x : Str} {k : Nat} {f f' : Fn} (h : Gf P w K mg base T cl j x k f) (hf : ∀ ds r, f' ds = some r → f ds = some r) : Gf P w K mg base T cl j x k f' := by
  obtain ⟨fa, fd, ps, a, b⟩ := h.ex
  refine ⟨fa, fd, ps, a.imp fun vs H Q E ⟨h1, F, ds, h2, h3, h4, h5, h6⟩ => ⟨h1, F, ds, h2, h3, h4, h5, ?_⟩, b⟩
  cases hr : f' ds with
  | none => rw [hr] at h6; exact h6.elim
  | some r => rw [hr] at h6; rw [hf ds r hr]; exact h6
def wCall (f : Fn) (ws : WAx) : WEx := fun e => bnd (ws e) fun ds e1 => match f ds with
  | some (.ok d) => some (.ok d e1)
  | some (.er c) => some (.er c)
  | none => none
theorem passN0 {X : Cx} : Passes (L2N.CX X.prog X.w) X (fun _ _ _ => False) := fun _ _ _ _ _ _ _ h => by
  obtain ⟨_, _, _, _, _, _, _, _, _, _, _, _, z⟩ := h
  exact z.elim
section
variable {X : Cx} {A : Ax X.K} {a : Expr} {es : List Expr} {ws : WAx} {pos p : Pos} {x : Str} {j k : Nat} {f : Fn}
theorem call_fin {σ : St} {F H1 : Hp} {e1 : En} {Q : VK} {ds : List Dt} {vs : List V} (R1 : Rl X.K A.B F H1 σ e1) (r1 : Reps X.K F ds vs)
    (h1 : FinG A (Rep X.K) σ F Q (match f ds with | some (.ok d) => some (.ok d e1) | some (.er c) => some (.er c) | none => none)) (hl : vs.length = k) : spP X.K A.B.T A.cl k f vs H1 Q A.E := by
  refine ⟨hl, F, ds, R1.fh, r1, R1.tbs, R1.tF, ?_⟩
  revert h1
  cases hf : f ds with
  | none => exact fun h => h
  | some r =>
    cases r with
    | ok d => exact fun h F' H' v R' r' => h F' H' v (R1.call R').2 (R1.call R').1 r'
    | er c => exact fun h ad F' H' hc R' => h ad F' H' σ e1 hc (R1.call R').1
/-- f(a, ..) -/
theorem n_call (G : Gf X.prog X.w X.K X.mg X.base A.B.T A.cl j x k f) (hr : Room j X.A) (hx : Passes (L2N.CX X.prog X.w) X A.E) (hg : Gl X x) (ha : PA X (a :: es) (TAx A ws)) (hk : ∀ e ds e1, ws e = some (.ok ds e1) → ds.length = k)
    (hdb : (x == ("__debug__" : Str)) = false := by decide) (he : starEach (a :: es) X.env = (false, eval a X.env) :: starEach es X.env := by rfl) (hpl : (backTo pos (starEach es X.env)).any (·.1) = false := by rfl) :
    PE X (.Call (.Name x p) (a :: es) [] pos) (TEx A (wCall f ws)) := by
  obtain ⟨fa, fd, ps, F, hm, hkp, hb⟩ := G.ex
  refine pe_imp (pe_call F hr hg hm hkp hb .nil hx ha hdb he hpl) fun σ H Q ⟨F, e, R, h⟩ => ⟨F, e, R, (FinG.bindE (R := Reps X.K) h).imp fun vs H1 ⟨F1, ds, e1, hw, s1, R1, r1, h1⟩ => ?_⟩
  rw [List.append_nil]
  exact call_fin R1 r1 h1 (by rw [← r1.len]; exact hk e ds e1 hw)
/-- f() -/
theorem n_call0 (G : Gf X.prog X.w X.K X.mg X.base A.B.T A.cl j x 0 f) (hr : Room j X.A) (hx : Passes (L2N.CX X.prog X.w) X A.E) (hg : Gl X x) (hdb : (x == ("__debug__" : Str)) = false := by decide) :
    PE X (.Call (.Name x p) [] [] pos) (TEx A (wCall f wNil)) := by
  obtain ⟨fa, fd, ps, F, hm, hkp, hb⟩ := G.ex
  exact pe_imp (pe_call0 F hr hg hm hkp hb .nil hx hdb) fun σ H Q ⟨F, e, R, h⟩ => call_fin R (reps_nil.mpr rfl) h rfl
theorem wl0 : ∀ e ds e1, wNil e = some (.ok ds e1) → ds.length = 0 := fun e ds e1 h => by cases h; rfl
theorem wl1 {wa : WEx} {n : Nat} (hn : ∀ e ds e1, ws e = some (.ok ds e1) → ds.length = n) : ∀ e ds e1, wCons wa ws e = some (.ok ds e1) → ds.length = n + 1 := fun e ds e1 h => by
  unfold wCons bnd at h
  split at h
  · dsimp only at h
    split at h
    · rename_i h2
      cases h
      simp [hn _ _ _ h2]
    · cases h
    · cases h
  · cases h
  · cases h
/-- raise C('..') -/
def wRaise (c : Str) : WSt := fun _ => some (.er c)
theorem n_raise {c : Str} {C : Addr} {e : Expr} (hc : X.calm = true) (tk : L2N.Takes X (fun cls d _ H => A.E cls d H)) (he : L2N.PMk X e (fun _ H Q => Q (.ref C) none H)) (hcl : A.cl c = some C) : PS X (.Raise (some e) none pos) (TSx A (wRaise c)) :=
  ps_imp (L2N.ps_raise hc tk he) fun D σ H ⟨F, e, R, h⟩ => h C F H σ e hcl R
end
/-- a module's exception class -/
structure Gx (K : PySem.W.Frag) (mg : Str → Option Value) (cl : Str → Option Addr) (x : Str) : Prop where
  ex : ∃ C, mg x = some (.ref C) ∧ cl x = some C ∧ PySem.W.excIn K C He.veBase "ValueError.__new__" = true ∧ PySem.W.keepIn K (.ref C) = true ∧ PySem.W.subIn K (.ref C) (.type "BaseException") = some true ∧ PySem.W.typeIn K (.ref C) = some (.type "type")
theorem n_raiseX {X : Cx} {A : Ax X.K} {x m : Str} {j : Nat} {p p2 p3 pos : Pos} (G : Gx X.K X.mg A.cl x) (hc : X.calm = true) (tk : L2N.Takes X (fun cls d _ H => A.E cls d H)) (hg : Gl X x) (hdb : (x == ("__debug__" : Str)) = false := by decide) :
    PS X (.Raise (some (.Call (.Name x p) [.Constant (.str m) j p2] [] p3)) none pos) (TSx A (wRaise x)) := by
  obtain ⟨C, g1, g2, g3, g4, g5, g6⟩ := G.ex
  exact n_raise hc tk (L2N.pmk_own PySem.F.excBase_ValueError g3 g1 g4 (raises_own g5 g6) hg hdb) g2
/-! ### what a def's context gives -/
theorem takesN {P : Program} {w : World} {K : PySem.W.Frag} {mg : Str → Option Value} {base : Heap} {N : List Str} {qual : Str} {scope : Scope} {f : Addr} {cd : Value} {A : Around} {outer : List Env} {s : Shared} {H : Hp} {E : XK} :
    L2N.Takes (cxOf (L2N.CX P w) P w K mg base N qual scope f cd A outer s H E) (fun cls d _ H => E cls d H) := L2N.takes_of rfl rfl rfl rfl
theorem passN {P : Program} {w : World} {K : PySem.W.Frag} {mg : Str → Option Value} {base : Heap} {N : List Str} {qual : Str} {scope : Scope} {f : Addr} {cd : Value} {A : Around} {outer : List Env} {s : Shared} {H : Hp} {E : XK} :
    Passes (L2N.CX P w) (cxOf (L2N.CX P w) P w K mg base N qual scope f cd A outer s H E) E := L2N.passes_call takesN fun _ _ _ _ h => h
theorem ownN {P : Program} {w : World} {K : PySem.W.Frag} {mg : Str → Option Value} {base : Heap} {N : List Str} {qual : Str} {scope : Scope} {f : Addr} {cd : Value} {A : Around} {outer : List Env} {s : Shared} {H : Hp} {E : XK} :
    PassesOwn (model P w) (cxOf (L2N.CX P w) P w K mg base N qual scope f cd A outer s H E).A (cxOf (L2N.CX P w) P w K mg base N qual scope f cd A outer s H E).env (cxOf (L2N.CX P w) P w K mg base N qual scope f cd A outer s H E).xe :=
  passes_of (X := cxOf (L2N.CX P w) P w K mg base N qual scope f cd A outer s H E) rfl
end Ly
set_option maxHeartbeats 1000000
/-! Ly8: built-in functions, subscripts, slices. -/
namespace Ly
open PySem PySem.Spec PyProof.Rows L2

theorem dt_tup {K : PySem.W.Frag} {F : Hp} {xs : List Dt} {u : V} (r : Rep K F (.tup xs) u) : ∃ a vs, u = .ref a ∧ SqT K F a vs ∧ Reps K F xs vs ∧ vs.length ≤ sizeLine := rep_tup.mp r
/-! ### len, isinstance -/
def fLen : List Dt → Option Dt
  | [.lst xs] => some (.int (xs.length : Nat))
  | [.tup xs] => some (.int (xs.length : Nat))
  | [.scr ns] => some (.int (ns.length : Nat))
  | [.dic kvs] => some (.int (kvs.length : Nat))
  | [.at (.str x)] => if x.length ≤ sizeLine then some (.int (x.length : Nat)) else none
  | _ => none
def rLenD : List V → Hp → VK → Prop := fun xs H Q => ∃ a kvs, xs = [.ref a] ∧ Rd H a (.dK kvs) ∧ Q (.int (kvs.length : Nat)) H
theorem call_lenDx {X : Cx} : CallR X (.builtin "len") rLenD := fun pins s σ H xs us Q I r ⟨a, kvs, e, h, q⟩ => by
  subst e
  obtain ⟨u, rfl, ru⟩ := vals1 r
  obtain rfl : u = .ref a := ru
  exact d_len I h fun t s' I' => ⟨.int _, H, I', ⟨t, rfl⟩, q⟩
section
variable {X : Cx} {A : Ax X.K} {a b c : Expr} {es : List Expr} {wa wb wc : WEx} {ws : WAx} {pos p : Pos}
theorem caS_len : CaS A fLen (fun vs H Q => (∃ x n, vs = [x] ∧ LenV X.K x H n ∧ Q (.int n) H) ∨ rLenD vs H Q) := fun σ F H e Q vs ds d R r hf h => by
  unfold fLen at hf
  split at hf
  · cases hf
    obtain ⟨v, rfl, r2⟩ := reps1 r
    obtain ⟨ad, us, rfl, f, q, l⟩ := rep_lst.mp r2
    rw [q.len] at h
    exact .inl ⟨_, _, rfl, .inl ⟨us, SqL.of (R.fh _ _ f), rfl⟩, goes_at h R⟩
  · cases hf
    obtain ⟨v, rfl, r2⟩ := reps1 r
    obtain ⟨ad, us, rfl, f, q, l⟩ := rep_tup.mp r2
    rw [q.len] at h
    exact .inl ⟨_, _, rfl, .inr ⟨us, sqt_mono R.fh f, rfl⟩, goes_at h R⟩
  · cases hf
    obtain ⟨v, rfl, r2⟩ := reps1 r
    obtain ⟨ad, rfl, f, l⟩ := rep_scr.mp r2
    exact .inl ⟨_, _, rfl, .inl ⟨_, sql_mono R.fh f, (List.length_map ..).symm⟩, goes_at h R⟩
  · cases hf
    obtain ⟨v, rfl, r2⟩ := reps1 r
    obtain ⟨ad, rfl, f, l⟩ := rep_dic.mp r2
    exact .inr ⟨ad, _, rfl, .inl (R.fh _ _ f), goes_at h R⟩
  · split at hf
    · rename_i hl
      cases hf
      obtain ⟨v, rfl, r2⟩ := reps1 r
      rw [rep_at] at r2; subst r2
      exact .inl ⟨_, _, rfl, ⟨hl, rfl⟩, goes_at h R⟩
    · cases hf
  · cases hf
theorem n_len (hg : Gl X "len") (hm : X.mg "len" = none) (ha : PA X [a] (TAx A ws)) (he : starEach [a] X.env = (false, eval a X.env) :: starEach [] X.env := by rfl) (hpl : (backTo pos (starEach [] X.env)).any (·.1) = false := by rfl) :
    PE X (.Call (.Name "len" p) [a] [] pos) (TEx A (wB fLen ws)) := n_cb (CallR.or call_len call_lenDx) caS_len hg hm PySem.boot_len ha (he := he) (hpl := hpl)
def tyN : Dt → Option String
  | .at .non => some "NoneType"
  | .at (.bl _) => some "bool"
  | .at (.int _) => some "int"
  | .at (.str _) => some "str"
  | .lst _ => some "list"
  | .tup _ => some "tuple"
  | .dic _ => some "dict"
  | _ => none
def kitC (a : String) (b : String) : Option Bool := kitB a b
def fIsi : List Dt → Option Dt
  | [d, .at (.ty n)] => (match tyN d with
    | some m => (match kitC m n with
      | some r => some (.bl r)
      | none => none)
    | none => none)
  | _ => none
theorem tyX_of {K : PySem.W.Frag} {F H : Hp} {d : Dt} {x : V} {m : String} (s : Same F H) (r : Rep K F d x) (h : tyN d = some m) : TyX K H x (.type m) := by
  cases d with
  | «at» v =>
    rw [rep_at] at r; subst r
    cases x <;> simp only [tyN, Option.some.injEq, reduceCtorEq] at h <;> subst h
    · exact .base .non
    · exact .base (.bl _)
    · exact .base (.int _)
    · exact .base (.str _)
  | lst xs =>
    obtain ⟨a, vs, rfl, f, _⟩ := rep_lst.mp r
    simp only [tyN, Option.some.injEq] at h; subst h
    exact .base (.lst (s _ _ f))
  | tup xs =>
    obtain ⟨a, vs, rfl, f, _⟩ := rep_tup.mp r
    simp only [tyN, Option.some.injEq] at h; subst h
    rcases f with (f | ⟨o, f⟩) | ⟨o, its, n, f, c, _⟩
    · exact .base (.tup (s _ _ f))
    · exact .fTuple (s _ _ f)
    · exact .kTuple f c
  | dic kvs =>
    obtain ⟨a, rfl, f, _⟩ := rep_dic.mp r
    simp only [tyN, Option.some.injEq] at h; subst h
    exact .base (.dK (s _ _ f))
  | scr ns => simp only [tyN, reduceCtorEq] at h
theorem caS_isi : CaS A fIsi (rIsi X.K) := fun σ F H e Q vs ds d R r hf h => by
  unfold fIsi at hf
  split at hf
  · rename_i d1 n
    split at hf
    · rename_i m hm
      split at hf
      · rename_i b hk
        cases hf
        obtain ⟨v, u, rfl, r2, r3⟩ := reps2 r
        rw [rep_at] at r3; subst r3
        exact ⟨_, _, _, _, b, rfl, .ty n, tyX_of R.fh r2 hm, kit_ty hk, goes_at h R⟩
      · cases hf
    · cases hf
  · cases hf
theorem n_isi (hg : Gl X "isinstance") (hm : X.mg "isinstance" = none) (ha : PA X [a, b] (TAx A ws)) (hv : bootBuiltins "isinstance" = some (.builtin "isinstance") := by decide +kernel) (he : starEach [a, b] X.env = (false, eval a X.env) :: starEach [b] X.env := by rfl) (hpl : (backTo pos (starEach [b] X.env)).any (·.1) = false := by rfl) :
    PE X (.Call (.Name "isinstance" p) [a, b] [] pos) (TEx A (wB fIsi ws)) := n_cb call_isi caS_isi hg hm hv ha (he := he) (hpl := hpl)
/-- isinstance(x, (T1, T2)) -/
def kitAll (m : String) : List String → Option Bool
  | [] => some false
  | n :: ns => (match kitC m n with
    | some true => some true
    | some false => kitAll m ns
    | none => none)
theorem kitAll_ok {K : PySem.W.Frag} {m : String} : ∀ {ns : List String} {b : Bool}, kitAll m ns = some b → PySem.W.kitAny K (.type m) (ns.map Value.type) = some b
  | [], b, h => by
    simp only [kitAll, Option.some.injEq] at h; subst h
    exact kitAny_nil
  | n :: ns, b, h => by
    simp only [kitAll] at h
    rw [List.map_cons]
    split at h
    · rename_i hk
      cases h
      exact kitAny_cons (kit_ty hk) (fun z => by cases z) (fun _ => rfl)
    · rename_i hk
      exact kitAny_cons (kit_ty hk) (fun _ => kitAll_ok h) (fun z => by cases z)
    · cases h
def wIsiT (w : WEx) (ns : List String) : WEx := fun e => bnd (w e) fun d e1 => match tyN d with
  | some m => (match kitAll m ns with
    | some r => some (.ok (.bl r) e1)
    | none => none)
  | none => none
theorem reps_tys {K : PySem.W.Frag} {F : Hp} : ∀ {ns : List String} {vs : List V}, Reps K F (ns.map fun n => Dt.at (.ty n)) vs → vs = ns.map V.ty
  | [], vs, h => by rw [List.map_nil, reps_nil] at h; exact h
  | n :: ns, vs, h => by
    rw [List.map_cons] at h
    obtain ⟨v, r, rfl, h1, h2⟩ := reps_cons.mp h
    rw [rep_at] at h1; subst h1
    rw [reps_tys h2]; rfl
theorem clsV_all : ∀ ns : List String, Paired ClsV (ns.map V.ty) (ns.map Value.type)
  | [] => .nil
  | n :: ns => .cons (.ty n) (clsV_all ns)
theorem n_isiT {ns : List String} {k : Nat} {p2 : Pos} (hg : Gl X "isinstance") (hm : X.mg "isinstance" = none) (ha : PE X a (TEx A wa)) (hts : PA X es (TAx A ws)) (hw : ∀ e, ws e = some (.ok (ns.map fun n => Dt.at (.ty n)) e)) (hl : ns.length ≤ 100)
    (hv : bootBuiltins "isinstance" = some (.builtin "isinstance") := by decide +kernel)
    (hs : starEach [a, .Tuple es k p2] X.env = (false, eval a X.env) :: starEach [.Tuple es k p2] X.env := by rfl) (hs2 : starEach [.Tuple es k p2] X.env = (false, eval (.Tuple es k p2) X.env) :: starEach [] X.env := by rfl) (hpl : (backTo pos (starEach [.Tuple es k p2] X.env)).any (·.1) = false := by rfl) :
    PE X (.Call (.Name "isinstance" p) [a, .Tuple es k p2] [] pos) (TEx A (wIsiT wa ns)) :=
  pe_imp (pe_callB call_isiT hg hm hv (pa_cons ha (pa_cons (pe_tup hts) pa_nil hs2) hs) (he := hs) (hpl := hpl)) fun σ H Q ⟨F, e, R, h⟩ => ⟨F, e, R, (FinG.bind (R := Rep X.K) h).imp fun v H1 ⟨F1, d, e1, s1, R1, r1, h1⟩ => by
    refine ⟨F1, e1, R1, ?_⟩
    rw [hw e1]
    intro F2 H2 vs s2 R2 r2
    have hvs := reps_tys r2
    subst hvs
    refine ⟨by rw [List.length_map]; exact Nat.le_trans hl (by decide), fun q hq => ?_⟩
    have R3 := R2.new (o := .tup (ns.map V.ty)) hq
    have s3 : Same F2 (upd F2 q (.tup (ns.map V.ty))) := same_new (same_none R2.fh hq)
    split at h1
    · rename_i m hm
      split at h1
      · rename_i b hk
        exact ⟨v, q, _, _, _, b, rfl, upd_same, clsV_all ns, tyX_of R3.fh ((r1.mono s2).mono s3) hm, kitAll_ok hk, h1 _ _ _ (s2.trans s3) R3 (rep_at.mpr rfl)⟩
      · exact h1.elim
    · exact h1.elim⟩
end

/-! ### sum, all, abs, min, max, int .. -/
def intsOf : List Dt → Option (List Int)
  | [] => some []
  | .at (.int i) :: r => (match intsOf r with | some is => some (i :: is) | none => none)
  | _ :: _ => none
theorem intsOf_map : ∀ ns : List Int, intsOf (ns.map Dt.int) = some ns
  | [] => rfl
  | n :: ns => by
    show (match intsOf (ns.map Dt.int) with | some is => some (n :: is) | none => none) = some (n :: ns)
    rw [intsOf_map ns]
theorem intsOf_inv : ∀ {ds : List Dt} {ns : List Int}, intsOf ds = some ns → ds = ns.map Dt.int
  | [], ns, h => by simp only [intsOf, Option.some.injEq] at h; subst h; rfl
  | .at v :: r, ns, h => by
    cases v <;> simp only [intsOf, reduceCtorEq] at h
    split at h
    · rename_i us hu
      cases h
      rw [intsOf_inv hu]; rfl
    · cases h
  | .lst _ :: _, ns, h => by simp only [intsOf, reduceCtorEq] at h
  | .tup _ :: _, ns, h => by simp only [intsOf, reduceCtorEq] at h
  | .dic _ :: _, ns, h => by simp only [intsOf, reduceCtorEq] at h
  | .scr _ :: _, ns, h => by simp only [intsOf, reduceCtorEq] at h
def bolsOf : List Dt → Option (List Bool)
  | [] => some []
  | .at (.bl i) :: r => (match bolsOf r with | some is => some (i :: is) | none => none)
  | _ :: _ => none
theorem bolsOf_map : ∀ ns : List Bool, bolsOf (ns.map Dt.bl) = some ns
  | [] => rfl
  | n :: ns => by
    show (match bolsOf (ns.map Dt.bl) with | some is => some (n :: is) | none => none) = some (n :: ns)
    rw [bolsOf_map ns]
theorem bolsOf_inv : ∀ {ds : List Dt} {ns : List Bool}, bolsOf ds = some ns → ds = ns.map Dt.bl
  | [], ns, h => by simp only [bolsOf, Option.some.injEq] at h; subst h; rfl
  | .at v :: r, ns, h => by
    cases v <;> simp only [bolsOf, reduceCtorEq] at h
    split at h
    · rename_i us hu
      cases h
      rw [bolsOf_inv hu]; rfl
    · cases h
  | .lst _ :: _, ns, h => by simp only [bolsOf, reduceCtorEq] at h
  | .tup _ :: _, ns, h => by simp only [bolsOf, reduceCtorEq] at h
  | .dic _ :: _, ns, h => by simp only [bolsOf, reduceCtorEq] at h
  | .scr _ :: _, ns, h => by simp only [bolsOf, reduceCtorEq] at h
theorem reps_bls {K : PySem.W.Frag} {F : Hp} {bs : List Bool} {vs : List V} (h : Reps K F (bs.map Dt.bl) vs) : vs = bs.map V.bl := by
  have e : bs.map Dt.bl = (bs.map V.bl).map Dt.at := by rw [List.map_map]; rfl
  rw [e, reps_ats] at h
  exact h
def oInt : Option Int → Option Dt
  | some i => some (.int i)
  | none => none
def fSum : List Dt → Option Dt
  | [.lst xs] => (match intsOf xs with | some ns => some (.int ns.sum) | none => none)
  | [.tup xs] => (match intsOf xs with | some ns => some (.int ns.sum) | none => none)
  | _ => none
def rSumT (K : PySem.W.Frag) : List V → Hp → VK → Prop := fun vs H Q => ∃ (a : Addr) (ns : List Int), vs = [V.ref a] ∧ SqT K H a (ns.map V.int) ∧ Q (.int ns.sum) H
theorem cr_sumT {X : Cx} (hc : X.calm = true) : CallR X (.builtin "sum") (rSumT X.K) := by
  intro pins s σ H vs us Q I r h
  obtain ⟨a, ns, rfl, hs, q⟩ := h
  obtain ⟨its, rv, ⟨ob, p1, p2⟩, hz⟩ := I.tuple hs
  rw [Vals.ref1 r]
  have hT : s.heap.IsTuple a its.toArray := ⟨ob, p1, p2⟩
  have hi := rv.ints
  obtain ⟨xs, e⟩ := hi.allInts.items
  have hn : numsOf (intItems xs).toList = ns := by rw [← e]; exact hi.numsOf
  rw [nums_intItems] at hn
  rw [e] at hT
  have al : a < s.heap.objs.size := Heap.lt_size p1
  refine PySem.call_sum_walkG (wpAny_pyIter_tuple hT ?_)
  have hit : ({ s with heap := s.heap.push { cls := .type "tuple_iterator", data := .fields #[.ref a, .int 0 0] } } : Shared).heap.IsTupleIter s.heap.objs.size a 0 := ⟨_, Heap.get?_push_size _ rfl, rfl, rfl⟩
  have hT2 : ({ s with heap := s.heap.push { cls := .type "tuple_iterator", data := .fields #[.ref a, .int 0 0] } } : Shared).heap.IsTuple a (intItems xs) := hT.at fun o q => Heap.get?_push_of_some _ q
  refine ⟨_, _, _, _, _, _, numAt xs, rfl, Walks.tuple (A := X.A.in1) (I.ok.hd hc) _ a (Nat.ne_of_lt al) (intItems xs), ⟨hit, hT2⟩, ?_, (fun _ _ => intItems_at), fun h' tk t' hk => ?_⟩
  · intro b hb
    show b < (s.heap.push _).objs.size
    rw [Heap.size_push]
    rcases (show b = s.heap.objs.size ∨ b = a by simpa using hb) with z | z
    · rw [z]; exact Nat.lt_succ_self _
    · rw [z]; exact Nat.lt_succ_of_lt al
  · refine ⟨.int ns.sum, H, I.kept fun b o eo => hk b o (fun hm => ?_) (Heap.get?_push_of_some _ eo), ?_, q⟩
    · have : b = s.heap.objs.size := by simpa using hm
      rw [this] at eo
      exact Nat.lt_irrefl _ (Heap.lt_size eo)
    · refine ⟨t', ?_⟩
      show Value.int _ _ = _
      rw [show (intItems xs).size = xs.size by simp [intItems], preSum_eq, List.take_of_length_le (by simp), hn]
def fAll : List Dt → Option Dt
  | [.lst xs] => (match bolsOf xs with | some bs => some (.bl (bs.all id)) | none => none)
  | _ => none
def fAbs : List Dt → Option Dt
  | [.at (.int i)] => some (.int (if i < 0 then -i else i))
  | _ => none
def fMax2 : List Dt → Option Dt
  | [.at (.int i), .at (.int j)] => some (.int (if j > i then j else i))
  | _ => none
def fMin2 : List Dt → Option Dt
  | [.at (.int i), .at (.int j)] => some (.int (if j < i then j else i))
  | _ => none
def maxL : Int → List Int → Int
  | m, [] => m
  | m, x :: r => maxL (if x > m then x else m) r
def minL : Int → List Int → Int
  | m, [] => m
  | m, x :: r => minL (if x < m then x else m) r
theorem maxL_ok : ∀ (m : Int) (r : List Int), maxL m r ∈ m :: r ∧ ∀ y ∈ m :: r, y ≤ maxL m r
  | m, [] => by simp [maxL]
  | m, x :: r => by
    obtain ⟨h1, h2⟩ := maxL_ok (if x > m then x else m) r
    simp only [maxL]
    have hm : (if x > m then x else m) ≤ maxL (if x > m then x else m) r := h2 _ (by simp)
    refine ⟨?_, fun y hy => ?_⟩
    · rcases List.mem_cons.mp h1 with e | e
      · rw [e]
        split
        · simp
        · simp
      · exact List.mem_cons_of_mem _ (List.mem_cons_of_mem _ e)
    · rcases List.mem_cons.mp hy with e | hy
      · subst e; split at hm <;> rename_i hc <;> (first | (rw [if_pos hc]; omega) | (rw [if_neg hc]; omega))
      · rcases List.mem_cons.mp hy with e | hy
        · subst e; split at hm <;> rename_i hc <;> (first | (rw [if_pos hc]; omega) | (rw [if_neg hc]; omega))
        · exact h2 y (List.mem_cons_of_mem _ hy)
theorem minL_ok : ∀ (m : Int) (r : List Int), minL m r ∈ m :: r ∧ ∀ y ∈ m :: r, minL m r ≤ y
  | m, [] => by simp [minL]
  | m, x :: r => by
    obtain ⟨h1, h2⟩ := minL_ok (if x < m then x else m) r
    simp only [minL]
    have hm : minL (if x < m then x else m) r ≤ (if x < m then x else m) := h2 _ (by simp)
    refine ⟨?_, fun y hy => ?_⟩
    · rcases List.mem_cons.mp h1 with e | e
      · rw [e]
        split
        · simp
        · simp
      · exact List.mem_cons_of_mem _ (List.mem_cons_of_mem _ e)
    · rcases List.mem_cons.mp hy with e | hy
      · subst e; split at hm <;> rename_i hc <;> (first | (rw [if_pos hc]; omega) | (rw [if_neg hc]; omega))
      · rcases List.mem_cons.mp hy with e | hy
        · subst e; split at hm <;> rename_i hc <;> (first | (rw [if_pos hc]; omega) | (rw [if_neg hc]; omega))
        · exact h2 y (List.mem_cons_of_mem _ hy)
def fMax : List Dt → Option Dt
  | [.lst xs] => (match intsOf xs with | some (m :: r) => some (.int (maxL m r)) | _ => none)
  | _ => none
def fMin : List Dt → Option Dt
  | [.lst xs] => (match intsOf xs with | some (m :: r) => some (.int (minL m r)) | _ => none)
  | _ => none
def fInt : List Dt → Option Dt
  | [.at (.int i)] => some (.int i)
  | [.at (.bl k)] => some (.int (if k then 1 else 0))
  | _ => none
def fTupO : List Dt → Option Dt
  | [.lst xs] => some (.tup xs)
  | [.tup xs] => some (.tup xs)
  | _ => none
def fLstO : List Dt → Option Dt
  | [.lst xs] => some (.lst xs)
  | [.tup xs] => some (.lst xs)
  | _ => none
def fStr : List Dt → Option Dt
  | [.at (.int i)] => if i.natAbs.log2 < 1920 then some (.str (toString i)) else none
  | _ => none
def fSorted : List Dt → Option Dt
  | [.lst xs] => (match intsOf xs with | some ns => some (.lst ((ns.mergeSort (· ≤ ·)).map Dt.int)) | none => none)
  | _ => none
theorem sorted_uni {a b : List Int} (p : a.Perm b) (ha : a.Pairwise (· ≤ ·)) : a = b.mergeSort (· ≤ ·) := by
  have hb : (b.mergeSort (· ≤ ·)).Pairwise (· ≤ ·) := by
    have := List.pairwise_mergeSort (le := fun (x y : Int) => decide (x ≤ y)) (fun a b c h1 h2 => by simp at *; omega) (fun a b => by simp; omega) b
    simpa using this
  exact List.Perm.eq_of_pairwise (le := (· ≤ ·)) (fun x y _ _ h1 h2 => by omega) ha hb (p.trans (List.mergeSort_perm b _).symm)
section
variable {X : Cx} {A : Ax X.K} {a b c : Expr} {es : List Expr} {wa wb wc : WEx} {ws : WAx} {pos p : Pos}
theorem lst_ints {K : PySem.W.Frag} {F H : Hp} {xs : List Dt} {ns : List Int} {v : V} (s : Same F H) (r : Rep K F (.lst xs) v) (h : intsOf xs = some ns) : ∃ a, v = .ref a ∧ SqL K H a (ns.map V.int) := by
  obtain ⟨a, vs, rfl, f, q, l⟩ := rep_lst.mp r
  rw [intsOf_inv h, reps_ints] at q; subst q
  exact ⟨a, rfl, SqL.of (s _ _ f)⟩
theorem caS_sum : CaS A fSum (fun vs H Q => rSum X.K vs H Q ∨ rSumT X.K vs H Q) := fun σ F H e Q vs ds d R r hf h => by
  unfold fSum at hf
  split at hf
  · split at hf
    · rename_i ns hn
      cases hf
      obtain ⟨v, rfl, r2⟩ := reps1 r
      obtain ⟨ad, rfl, f⟩ := lst_ints R.fh r2 hn
      exact .inl ⟨ad, ns, rfl, f, goes_at h R⟩
    · cases hf
  · split at hf
    · rename_i ns hn
      cases hf
      obtain ⟨v, rfl, r2⟩ := reps1 r
      obtain ⟨ad, us, rfl, f, q, l⟩ := rep_tup.mp r2
      rw [intsOf_inv hn, reps_ints] at q; subst q
      exact .inr ⟨ad, ns, rfl, sqt_mono R.fh f, goes_at h R⟩
    · cases hf
  · cases hf
theorem n_sum (hc : X.calm = true) (hg : Gl X "sum") (hm : X.mg "sum" = none) (ha : PA X [a] (TAx A ws)) (hv : bootBuiltins "sum" = some (.builtin "sum") := by decide +kernel) (he : starEach [a] X.env = (false, eval a X.env) :: starEach [] X.env := by rfl) (hpl : (backTo pos (starEach [] X.env)).any (·.1) = false := by rfl) :
    PE X (.Call (.Name "sum" p) [a] [] pos) (TEx A (wB fSum ws)) := n_cb (CallR.or (cr_sum hc) (cr_sumT hc)) caS_sum hg hm hv ha (he := he) (hpl := hpl)
theorem n_all (hc : X.calm = true) (hg : Gl X "all") (hm : X.mg "all" = none) (ha : PA X [a] (TAx A ws)) (hv : bootBuiltins "all" = some (.builtin "all") := by decide +kernel) (he : starEach [a] X.env = (false, eval a X.env) :: starEach [] X.env := by rfl) (hpl : (backTo pos (starEach [] X.env)).any (·.1) = false := by rfl) :
    PE X (.Call (.Name "all" p) [a] [] pos) (TEx A (wB fAll ws)) := n_cb (cr_all hc) (fun σ F H e Q vs ds d R r hf h => by
  unfold fAll at hf
  split at hf
  · split at hf
    · rename_i bs hn
      cases hf
      obtain ⟨v, rfl, r2⟩ := reps1 r
      obtain ⟨ad, us, rfl, f, q, l⟩ := rep_lst.mp r2
      rw [bolsOf_inv hn] at q
      rw [reps_bls q] at f
      exact ⟨ad, bs, rfl, SqL.of (R.fh _ _ f), goes_at h R⟩
    · cases hf
  · cases hf) hg hm hv ha (he := he) (hpl := hpl)
theorem n_abs (hg : Gl X "abs") (hm : X.mg "abs" = none) (ha : PA X [a] (TAx A ws)) (hv : bootBuiltins "abs" = some (.builtin "abs") := by decide +kernel) (he : starEach [a] X.env = (false, eval a X.env) :: starEach [] X.env := by rfl) (hpl : (backTo pos (starEach [] X.env)).any (·.1) = false := by rfl) :
    PE X (.Call (.Name "abs" p) [a] [] pos) (TEx A (wB fAbs ws)) := n_cb call_abs (fun σ F H e Q vs ds d R r hf h => by
  unfold fAbs at hf
  split at hf
  · cases hf
    obtain ⟨v, rfl, r2⟩ := reps1 r
    exact ⟨_, by rw [rep_at.mp r2], goes_at h R⟩
  · cases hf) hg hm hv ha (he := he) (hpl := hpl)
theorem n_max2 (hc : X.calm = true) (hg : Gl X "max") (hm : X.mg "max" = none) (ha : PA X [a, b] (TAx A ws)) (hv : bootBuiltins "max" = some (.builtin "max") := by decide +kernel) (he : starEach [a, b] X.env = (false, eval a X.env) :: starEach [b] X.env := by rfl) (hpl : (backTo pos (starEach [b] X.env)).any (·.1) = false := by rfl) :
    PE X (.Call (.Name "max" p) [a, b] [] pos) (TEx A (wB fMax2 ws)) := n_cb (call_max2 hc) (fun σ F H e Q vs ds d R r hf h => by
  unfold fMax2 at hf
  split at hf
  · cases hf
    obtain ⟨v, u, rfl, r2, r3⟩ := reps2 r
    exact ⟨_, _, by rw [rep_at.mp r2, rep_at.mp r3], goes_at h R⟩
  · cases hf) hg hm hv ha (he := he) (hpl := hpl)
theorem n_min2 (hc : X.calm = true) (hg : Gl X "min") (hm : X.mg "min" = none) (ha : PA X [a, b] (TAx A ws)) (hv : bootBuiltins "min" = some (.builtin "min") := by decide +kernel) (he : starEach [a, b] X.env = (false, eval a X.env) :: starEach [b] X.env := by rfl) (hpl : (backTo pos (starEach [b] X.env)).any (·.1) = false := by rfl) :
    PE X (.Call (.Name "min" p) [a, b] [] pos) (TEx A (wB fMin2 ws)) := n_cb (call_min2 hc) (fun σ F H e Q vs ds d R r hf h => by
  unfold fMin2 at hf
  split at hf
  · cases hf
    obtain ⟨v, u, rfl, r2, r3⟩ := reps2 r
    exact ⟨_, _, by rw [rep_at.mp r2, rep_at.mp r3], goes_at h R⟩
  · cases hf) hg hm hv ha (he := he) (hpl := hpl)
theorem n_max1 (hc : X.calm = true) (hg : Gl X "max") (hm : X.mg "max" = none) (ha : PA X [a] (TAx A ws)) (hv : bootBuiltins "max" = some (.builtin "max") := by decide +kernel) (he : starEach [a] X.env = (false, eval a X.env) :: starEach [] X.env := by rfl) (hpl : (backTo pos (starEach [] X.env)).any (·.1) = false := by rfl) :
    PE X (.Call (.Name "max" p) [a] [] pos) (TEx A (wB fMax ws)) := n_cb (cr_max hc) (fun σ F H e Q vs ds d R r hf h => by
  unfold fMax at hf
  split at hf
  · split at hf
    · rename_i m rr hn
      cases hf
      obtain ⟨v, rfl, r2⟩ := reps1 r
      obtain ⟨ad, rfl, f⟩ := lst_ints R.fh r2 hn
      refine ⟨ad, m :: rr, rfl, f, by simp, fun k h1 h2 => ?_⟩
      obtain ⟨g1, g2⟩ := maxL_ok m rr
      have : k = maxL m rr := Int.le_antisymm (g2 k h1) (h2 _ g1)
      rw [this]; exact goes_at h R
    · cases hf
  · cases hf) hg hm hv ha (he := he) (hpl := hpl)
theorem n_min1 (hc : X.calm = true) (hg : Gl X "min") (hm : X.mg "min" = none) (ha : PA X [a] (TAx A ws)) (hv : bootBuiltins "min" = some (.builtin "min") := by decide +kernel) (he : starEach [a] X.env = (false, eval a X.env) :: starEach [] X.env := by rfl) (hpl : (backTo pos (starEach [] X.env)).any (·.1) = false := by rfl) :
    PE X (.Call (.Name "min" p) [a] [] pos) (TEx A (wB fMin ws)) := n_cb (cr_min hc) (fun σ F H e Q vs ds d R r hf h => by
  unfold fMin at hf
  split at hf
  · split at hf
    · rename_i m rr hn
      cases hf
      obtain ⟨v, rfl, r2⟩ := reps1 r
      obtain ⟨ad, rfl, f⟩ := lst_ints R.fh r2 hn
      refine ⟨ad, m :: rr, rfl, f, by simp, fun k h1 h2 => ?_⟩
      obtain ⟨g1, g2⟩ := minL_ok m rr
      have : k = minL m rr := Int.le_antisymm (h2 _ g1) (g2 k h1)
      rw [this]; exact goes_at h R
    · cases hf
  · cases hf) hg hm hv ha (he := he) (hpl := hpl)
theorem n_intO (hg : Gl X "int") (hm : X.mg "int" = none) (ha : PA X [a] (TAx A ws)) (hv : bootBuiltins "int" = some (.type "int") := by decide +kernel) (he : starEach [a] X.env = (false, eval a X.env) :: starEach [] X.env := by rfl) (hpl : (backTo pos (starEach [] X.env)).any (·.1) = false := by rfl) :
    PE X (.Call (.Name "int" p) [a] [] pos) (TEx A (wB fInt ws)) := n_ct call_int1 (fun σ F H e Q vs ds d R r hf h => by
  unfold fInt at hf
  split at hf
  · cases hf
    obtain ⟨v, rfl, r2⟩ := reps1 r
    exact .inl ⟨_, by rw [rep_at.mp r2], goes_at h R⟩
  · cases hf
    obtain ⟨v, rfl, r2⟩ := reps1 r
    exact .inr ⟨_, by rw [rep_at.mp r2], goes_at h R⟩
  · cases hf) hg hm hv ha (he := he) (hpl := hpl)
theorem n_tupO (hg : Gl X "tuple") (hm : X.mg "tuple" = none) (ha : PA X [a] (TAx A ws)) (hv : bootBuiltins "tuple" = some (.type "tuple") := by decide +kernel) (he : starEach [a] X.env = (false, eval a X.env) :: starEach [] X.env := by rfl) (hpl : (backTo pos (starEach [] X.env)).any (·.1) = false := by rfl) :
    PE X (.Call (.Name "tuple" p) [a] [] pos) (TEx A (wB fTupO ws)) := n_ct call_tuple_of (fun σ F H e Q vs ds d R r hf h => by
  unfold fTupO at hf
  split at hf
  · cases hf
    obtain ⟨v, rfl, r2⟩ := reps1 r
    obtain ⟨ad, us, rfl, f, q, l⟩ := rep_lst.mp r2
    exact ⟨ad, us, rfl, .inl ⟨SqL.of (R.fh _ _ f), goes_tup h R q l⟩⟩
  · cases hf
    obtain ⟨v, rfl, r2⟩ := reps1 r
    obtain ⟨ad, us, rfl, f, q, l⟩ := rep_tup.mp r2
    exact ⟨ad, us, rfl, .inr ⟨sqt_mono R.fh f, h F H _ (Same.refl F) R r2⟩⟩
  · cases hf) hg hm hv ha (he := he) (hpl := hpl)
theorem n_lstO (hg : Gl X "list") (hm : X.mg "list" = none) (ha : PA X [a] (TAx A ws)) (hv : bootBuiltins "list" = some (.type "list") := by decide +kernel) (he : starEach [a] X.env = (false, eval a X.env) :: starEach [] X.env := by rfl) (hpl : (backTo pos (starEach [] X.env)).any (·.1) = false := by rfl) :
    PE X (.Call (.Name "list" p) [a] [] pos) (TEx A (wB fLstO ws)) := n_ct call_list_of (fun σ F H e Q vs ds d R r hf h => by
  unfold fLstO at hf
  split at hf
  · cases hf
    obtain ⟨v, rfl, r2⟩ := reps1 r
    obtain ⟨ad, us, rfl, f, q, l⟩ := rep_lst.mp r2
    exact ⟨ad, us, rfl, .inl (SqL.of (R.fh _ _ f)), goes_lst h R q l⟩
  · cases hf
    obtain ⟨v, rfl, r2⟩ := reps1 r
    obtain ⟨ad, us, rfl, f, q, l⟩ := rep_tup.mp r2
    exact ⟨ad, us, rfl, .inr (sqt_mono R.fh f), goes_lst h R q l⟩
  · cases hf) hg hm hv ha (he := he) (hpl := hpl)
theorem n_strO (hg : Gl X "str") (hm : X.mg "str" = none) (ha : PA X [a] (TAx A ws)) (hv : bootBuiltins "str" = some (.type "str") := by decide +kernel) (he : starEach [a] X.env = (false, eval a X.env) :: starEach [] X.env := by rfl) (hpl : (backTo pos (starEach [] X.env)).any (·.1) = false := by rfl) :
    PE X (.Call (.Name "str" p) [a] [] pos) (TEx A (wB fStr ws)) := n_ct call_str_int (fun σ F H e Q vs ds d R r hf h => by
  unfold fStr at hf
  split at hf
  · split at hf
    · rename_i hl
      cases hf
      obtain ⟨v, rfl, r2⟩ := reps1 r
      exact ⟨_, by rw [rep_at.mp r2], hl, goes_at h R⟩
    · cases hf
  · cases hf) hg hm hv ha (he := he) (hpl := hpl)
theorem n_sorted (hg : Gl X "sorted") (hm : X.mg "sorted" = none) (ha : PA X [a] (TAx A ws)) (hv : bootBuiltins "sorted" = some (.builtin "sorted") := by decide +kernel) (he : starEach [a] X.env = (false, eval a X.env) :: starEach [] X.env := by rfl) (hpl : (backTo pos (starEach [] X.env)).any (·.1) = false := by rfl) :
    PE X (.Call (.Name "sorted" p) [a] [] pos) (TEx A (wB fSorted ws)) := n_cb cr_sortedI (fun σ F H e Q vs ds d R r hf h => by
  unfold fSorted at hf
  split at hf
  · split at hf
    · rename_i ns hn
      cases hf
      obtain ⟨v, rfl, r2⟩ := reps1 r
      obtain ⟨ad, us, rfl, f, q, l⟩ := rep_lst.mp r2
      rw [intsOf_inv hn, reps_ints] at q; subst q
      refine ⟨ad, ns, rfl, SqL.of (R.fh _ _ f), fun ns' pa pe so hp => ?_⟩
      rw [sorted_uni pe so]
      exact goes_lst h R (reps_ints.mpr rfl) (by rw [List.length_map, List.length_mergeSort]; simpa using l) pa hp
    · cases hf
  · cases hf) hg hm hv ha (he := he) (hpl := hpl)
end
end Ly
set_option maxHeartbeats 1000000
/-! Ly9: subscripts, slices; lists and dicts of one's own. -/
namespace Ly
open PySem PySem.Spec PyProof.Rows L2

/-! ### subscripts, slices -/
def fIx : Dt → Dt → Option Dt
  | .lst xs, .at (.int i) => atI xs i
  | .tup xs, .at (.int i) => atI xs i
  | .scr ns, .at (.int i) => atI (ns.map Dt.int) i
  | _, _ => none
theorem atI_reps {K : PySem.W.Frag} {F : Hp} {ds : List Dt} {vs : List V} {i : Int} {d : Dt} (r : Reps K F ds vs) (h : atI ds i = some d) : ∃ v, atI vs i = some v ∧ Rep K F d v := by
  unfold atI at h ⊢
  rw [r.len] at h
  cases hj : ixN vs.length i with
  | none => rw [hj] at h; cases h
  | some j =>
    rw [hj] at h
    obtain ⟨v, h1, h2⟩ := r.get (show ds[j]? = some d from h)
    exact ⟨v, h1, h2⟩
def cutG {α : Type} (xs : List α) (lo hi : Option Int) : List α := (xs.drop (HT.sIx xs.length 0 lo)).take (HT.sIx xs.length xs.length hi - HT.sIx xs.length 0 lo)
theorem reps_cut {K : PySem.W.Frag} {F : Hp} {ds : List Dt} {vs : List V} {lo hi : Option Int} (r : Reps K F ds vs) : Reps K F (cutG ds lo hi) (cutV vs lo hi) := by
  unfold cutG cutV
  rw [r.len]
  exact (r.drop _).take _
theorem cutG_all {α : Type} {xs : List α} {lo hi : Option Int} (h : HT.sIx xs.length 0 lo = 0 ∧ HT.sIx xs.length xs.length hi = xs.length) : cutG xs lo hi = xs := by
  unfold cutG
  rw [h.1, h.2, List.drop_zero, Nat.sub_zero, List.take_length]
abbrev WPx := En → Option (Rt (Option Int))
def RP : Hp → Option Int → Option Int → Prop := fun _ a b => b = a
def wP0 : WPx := fun e => some (.ok none e)
def intOf : Dt → Option (Option Int)
  | .at (.int i) => some (some i)
  | _ => none
def wP1 (w : WEx) : WPx := fun e => bnd (w e) fun d e1 => pur (intOf d) e1
def fSl (d : Dt) (lo hi : Option Int) : Option Dt := match d with
  | .lst xs => some (.lst (cutG xs lo hi))
  | .tup xs => some (.tup (cutG xs lo hi))
  | .at (.str z) => if z.length ≤ sizeLine then some (.str (cutS z lo hi)) else none
  | _ => none
def wSl (w : WEx) (l h : WPx) : WEx := fun e => bnd (w e) fun d e1 => bnd (l e1) fun lo e2 => bnd (h e2) fun hi e3 => pur (fSl d lo hi) e3
section
variable {X : Cx} {A : Ax X.K} {a b c : Expr} {es : List Expr} {wa wb wc : WEx} {ws : WAx} {pos p p2 : Pos} {lo hi : Option Expr} {wl wh : WPx}
theorem opS_ix : OpS A fIx (rIx X.K) := fun σ F H e Q x y d1 d2 d R r1 r2 hf h => by
  unfold fIx at hf
  split at hf
  · rw [rep_at] at r2; subst r2
    obtain ⟨ad, vs, rfl, f, q, l⟩ := rep_lst.mp r1
    obtain ⟨v, g1, g2⟩ := atI_reps q hf
    exact .inl ⟨ad, vs, _, v, rfl, rfl, SqL.of (R.fh _ _ f), g1, h F H v (Same.refl F) R g2⟩
  · rw [rep_at] at r2; subst r2
    obtain ⟨ad, vs, rfl, f, q, l⟩ := rep_tup.mp r1
    obtain ⟨v, g1, g2⟩ := atI_reps q hf
    exact .inr (.inl ⟨ad, vs, _, v, rfl, rfl, sqt_mono R.fh f, g1, h F H v (Same.refl F) R g2⟩)
  · rw [rep_at] at r2; subst r2
    obtain ⟨ad, rfl, f, l⟩ := rep_scr.mp r1
    obtain ⟨v, g1, g2⟩ := atI_reps (reps_ints.mpr rfl : Reps X.K F _ _) hf
    exact .inl ⟨ad, _, _, v, rfl, rfl, sql_mono R.fh f, g1, h F H v (Same.refl F) R g2⟩
  · cases hf
theorem n_ix (ha : PE X a (TEx A wa)) (hb : PE X b (TEx A wb)) (hs : PlainIx b := by exact fun _ _ => rfl) : PE X (.Subscript a b pos) (TEx A (wO fIx wa wb)) := pe_imp (pe_ix ix_seq ha hb hs) fun _ _ _ h => tx_op opS_ix h
abbrev TPx (A : Ax X.K) (w : WPx) : TO := TxG A RP w
theorem n_p0 : PO X none (TPx A wP0) := ⟨fun pins s σ H Q I ⟨F, e, R, h⟩ => po_none.run pins s σ H Q I (h F H none (Same.refl F) R rfl)⟩
theorem n_p1 (ha : PE X a (TEx A wa)) : PO X (some a) (TPx A (wP1 wa)) := ⟨fun pins s σ H Q I ⟨F, e, R, h⟩ => (po_some ha).run pins s σ H Q I ⟨F, e, R, (FinG.bind (R := Rep X.K) h).imp fun v H1 ⟨F1, d, e1, s1, R1, r1, h1⟩ => by
  cases ho : intOf d with
  | none => rw [ho] at h1; exact h1.elim
  | some o =>
    rw [ho] at h1
    unfold intOf at ho
    split at ho
    · cases ho
      exact ⟨_, rep_at.mp r1, h1 F1 H1 _ (Same.refl F1) R1 rfl⟩
    · cases ho⟩⟩
theorem n_sl (ha : PE X a (TEx A wa)) (hl : PO X lo (TPx A wl)) (hh : PO X hi (TPx A wh)) : PE X (.Subscript a (.Slice lo hi none p2) pos) (TEx A (wSl wa wl wh)) :=
  pe_imp (pe_slice (SlR.or sl_list (SlR.or sl_tupA sl_str)) ha hl hh) fun σ H Q ⟨F, e, R, h⟩ => ⟨F, e, R, (FinG.bind (R := Rep X.K) h).imp fun x H1 ⟨F1, d1, e1, s1, R1, r1, h1⟩ => ⟨F1, e1, R1, (FinG.bind (R := RP) h1).imp fun l H2 ⟨F2, l2, e2, s2, R2, r2, h2⟩ => ⟨F2, e2, R2, (FinG.bind (R := RP) h2).imp fun u H3 ⟨F3, u2, e3, s3, R3, r3, h3⟩ => by
    obtain rfl : l = l2 := r2
    obtain rfl : u = u2 := r3
    obtain ⟨d, hf, hg⟩ := fin_pur h3
    have r4 := (r1.mono s2).mono s3
    unfold fSl at hf
    split at hf
    · cases hf
      obtain ⟨ad, vs, rfl, f, q, z⟩ := rep_lst.mp r4
      exact .inl ⟨ad, vs, rfl, SqL.of (R3.fh _ _ f), goes_lst hg R3 (reps_cut q) (Nat.le_trans (cutV_length _ _ _) z)⟩
    · cases hf
      obtain ⟨ad, vs, rfl, f, q, z⟩ := rep_tup.mp r4
      refine .inr (.inl ⟨ad, vs, rfl, sqt_mono R3.fh f, fun hw => ?_, fun _ => goes_tup hg R3 (reps_cut q) (Nat.le_trans (cutV_length _ _ _) z)⟩)
      have : cutG _ l u = _ := cutG_all (xs := _) (by rw [← q.len] at hw; exact hw)
      rw [this] at hg
      exact hg F3 H3 _ (Same.refl F3) R3 r4
    · split at hf
      · rename_i hz
        cases hf
        rw [rep_at] at r4; subst r4
        exact .inr (.inr ⟨_, rfl, hz, goes_at hg R3⟩)
      · cases hf
    · cases hf⟩⟩⟩
/-- xs[::-1] of a list -/
def fRevL : Dt → Option Dt
  | .lst xs => some (.lst xs.reverse)
  | _ => none
theorem n_revL {k : Nat} {p1 p3 p4 : Pos} (ha : PE X a (TEx A wa)) : PE X (.Subscript a (.Slice none none (some (.UnaryOp .USub (.Constant (.int 1) k p1) p4)) p3) pos) (TEx A (wU fRevL wa)) :=
  pe_imp (pe_revL ha) fun σ H Q ⟨F, e, R, h⟩ => ⟨F, e, R, (FinG.bind (R := Rep X.K) h).imp fun v H1 ⟨F1, d1, e1, s1, R1, r1, h1⟩ => by
    obtain ⟨d, hf, hg⟩ := fin_pur h1
    unfold fRevL at hf
    split at hf
    · cases hf
      obtain ⟨ad, vs, rfl, f, q, z⟩ := rep_lst.mp r1
      exact ⟨ad, vs, rfl, SqL.of (R1.fh _ _ f), goes_lst hg R1 q.rev (by rw [List.length_reverse]; exact z)⟩
    · cases hf⟩
end

/-! ### a list of one's own: in a slot -/
def wFz (i : Nat) : WEx := fun e => match gt e i with
  | some (.v d) => some (.ok d e)
  | some (.m xs) => some (.ok (.lst xs) (st e i (some (.v (.lst xs)))))
  | some (.k kvs) => some (.ok (.dic kvs) (st e i (some (.v (.dic kvs)))))
  | none => none
def wAsL (i : Nat) (ws : WAx) : WSt := fun e => bns (ws e) fun ds e1 => if ds.length ≤ sizeLine then some (.nx (st e1 i (some (.m ds)))) else none
def wAsD (i : Nat) : WSt := fun e => some (.nx (st e i (some (.k []))))
def isM (e : En) (i : Nat) : Option Unit := match gt e i with
  | some (.m _) => some ()
  | _ => none
def isK (e : En) (i : Nat) : Option Unit := match gt e i with
  | some (.k _) => some ()
  | _ => none
theorem isM_inv {e : En} {i : Nat} {u : Unit} (h : isM e i = some u) : ∃ xs, gt e i = some (.m xs) := by
  unfold isM at h
  split at h
  · exact ⟨_, by assumption⟩
  · cases h
theorem isK_inv {e : En} {i : Nat} {u : Unit} (h : isK e i = some u) : ∃ xs, gt e i = some (.k xs) := by
  unfold isK at h
  split at h
  · exact ⟨_, by assumption⟩
  · cases h
def wIxO (i : Nat) (w : WEx) : WEx := fun e => bnd (pur (isM e i) e) fun _ e0 => bnd (w e0) fun d e1 => match gt e1 i with
  | some (.m xs) => (match d with
    | .at (.int j) => pur (atI xs j) e1
    | _ => none)
  | _ => none
def wSetO (i : Nat) (wi wv : WEx) : WSt := fun e => bns (wv e) fun d e1 => bns (pur (isM e1 i) e1) fun _ e0 => bns (wi e0) fun k e2 => match gt e2 i with
  | some (.m xs) => (match k with
    | .at (.int j) => (match ixN xs.length j with
      | some m => some (.nx (st e2 i (some (.m (xs.set m d)))))
      | none => none)
    | _ => none)
  | _ => none
def wApp (i : Nat) (w : WEx) : WSt := fun e => bns (pur (isM e i) e) fun _ e0 => bns (w e0) fun d e1 => match gt e1 i with
  | some (.m xs) => if xs.length < sizeLine then some (.nx (st e1 i (some (.m (xs ++ [d]))))) else none
  | _ => none
def vOf : Dt → Option V
  | .at v => some v
  | _ => none
theorem vOf_inv {d : Dt} {v : V} (h : vOf d = some v) : d = .at v := by
  unfold vOf at h
  split at h
  · cases h; rfl
  · cases h
def wPutO (i : Nat) (wk wv : WEx) : WSt := fun e => bns (wv e) fun d e1 => bns (pur (isK e1 i) e1) fun _ e0 => bns (wk e0) fun k e2 => match gt e2 i with
  | some (.k kvs) => (match keyOf k, vOf d with
    | some q, some v => if kvs.length < sizeLine then some (.nx (st e2 i (some (.k (putK kvs q v))))) else none
    | _, _ => none)
  | _ => none
def wInO (neg : Bool) (i : Nat) (w : WEx) : WTx := fun e => bnd (w e) fun d e1 => match gt e1 i with
  | some (.k kvs) => (match keyOf d with
    | some q => some (.ok (if neg then !(valV kvs q).isSome else (valV kvs q).isSome) e1)
    | none => none)
  | _ => none
def wGetO (i : Nat) (wk wd : WEx) : WEx := fun e => bnd (pur (isK e i) e) fun _ e0 => bnd (wk e0) fun k e1 => bnd (wd e1) fun d e2 => match gt e2 i with
  | some (.k kvs) => (match keyOf k, vOf d with
    | some q, some v => some (.ok (.at ((valV kvs q).getD v)) e2)
    | _, _ => none)
  | _ => none
def wPopO (i : Nat) (wk wd : WEx) : WEx := fun e => bnd (pur (isK e i) e) fun _ e0 => bnd (wk e0) fun k e1 => bnd (wd e1) fun d e2 => match gt e2 i with
  | some (.k kvs) => (match keyOf k, vOf d with
    | some q, some v => (match valV kvs q with
      | some u => some (.ok (.at u) (st e2 i (some (.k (dropK kvs q)))))
      | none => some (.ok (.at v) e2))
    | _, _ => none)
  | _ => none
section
variable {X : Cx} {A : Ax X.K} {a b c : Expr} {es : List Expr} {wa wb wc : WEx} {ws : WAx} {pos p p2 pos' : Pos} {i : Nat} {x : Str}
/-- what an own slot says -/
theorem own_m {F H : Hp} {σ : St} {e : En} {xs : List Dt} (R : Rl X.K A.B F H σ e) (h : gt e i = some (.m xs)) : ∃ p vs, σ[i]? = some (some (.ref p)) ∧ F p = none ∧ H p = some (.lst vs) ∧ Reps X.K F xs vs ∧ vs.length ≤ sizeLine ∧ Mn A.B p := by
  obtain ⟨v, h1, p, vs, rfl, h2⟩ := R.sl i _ h
  exact ⟨p, vs, h1, h2⟩
theorem own_k {F H : Hp} {σ : St} {e : En} {kvs : List (Key × V)} (R : Rl X.K A.B F H σ e) (h : gt e i = some (.k kvs)) : ∃ p, σ[i]? = some (some (.ref p)) ∧ F p = none ∧ H p = some (.dK kvs) ∧ kvs.length ≤ sizeLine ∧ Mn A.B p := by
  obtain ⟨v, h1, p, rfl, h2⟩ := R.sl i _ h
  exact ⟨p, h1, h2⟩
/-- the name's value, made a value for good -/
theorem n_fz (hf : Free A i) (hN : X.N[i]? = some x := by rfl) (hv : Vis X.env.scope x := by first | exact Or.inl rfl | exact Or.inr (Or.inl rfl) | exact Or.inr (Or.inr rfl)) (hd : (x == ("__debug__" : Str)) = false := by decide)
    (hcd : (x == ("__classdict__" : Str)) = false := by decide) : PE X (.Name x pos) (TEx A (wFz i)) :=
  pe_imp (pe_var hN hv hd hcd) fun σ H Q ⟨F, e, R, h⟩ => by
    unfold wFz at h
    split at h
    · rename_i d hd
      obtain ⟨v, h1, h2⟩ := R.sl i _ hd
      exact ⟨v, h1, h F H v (Same.refl F) R h2⟩
    · rename_i xs hm
      obtain ⟨q, vs, g1, g2, g3, g4, g5, g6⟩ := own_m R hm
      have sF : Same F (upd F q (.lst vs)) := same_new g2
      have rd : Rep X.K (upd F q (.lst vs)) (.lst xs) (.ref q) := rep_lst.mpr ⟨q, vs, rfl, upd_same, g4.mono sF, g5⟩
      exact ⟨.ref q, g1, h _ H _ sF (R.freeze hm trivial hf.2 g1 g3 rd).1 rd⟩
    · rename_i kvs hk
      obtain ⟨q, g1, g2, g3, g4, g6⟩ := own_k R hk
      have sF : Same F (upd F q (.dK kvs)) := same_new g2
      have rd : Rep X.K (upd F q (.dK kvs)) (.dic kvs) (.ref q) := rep_dic.mpr ⟨q, rfl, upd_same, g4⟩
      exact ⟨.ref q, g1, h _ H _ sF (R.freeze hk trivial hf.2 g1 g3 rd).1 rd⟩
    · exact h.elim
/-- x = [..], to be changed later -/
theorem mn_new {F H : Hp} {σ : St} {e : En} (R : Rl X.K A.B F H σ e) {q : Addr} (h : H q = none) : Mn A.B q := by
  refine .inr ?_
  cases hb : A.B.H q with
  | none => rfl
  | some o =>
    obtain ⟨o', ho⟩ := R.th q o hb
    rw [h] at ho; cases ho
theorem n_asL (hf : Free A i) (hN : X.N.Nodup) (hx : X.N[i]? = some x) (hl : Loc X.env.scope x) (ha : PA X es (TAx A ws)) (hs : swapsWith (.List es p) (some (.Name x pos')) pos.line X.env = pure false := by rfl)
    (hff : X.fn x = true ∨ X.env.scope.names.lookup x = some .local := by first | exact .inl rfl | exact .inr rfl | assumption) : PS X (.Assign [.Name x pos'] (.List es p) pos) (TSx A (wAsL i ws)) :=
  ps_imp (ps_set hN hx hl (pe_lst ha) hs hff) fun D σ H ⟨F, e, R, h⟩ => ⟨F, e, R, (FinS.bind (R := Reps X.K) h).imp fun vs H1 ⟨F1, ds, e1, s1, R1, r1, h1⟩ => by
    split at h1
    · rename_i hz
      rw [r1.len] at hz
      refine ⟨hz, fun q hq => h1 F1 _ _ (Same.refl F1) ?_⟩
      exact R1.setO (by rw [R1.ln]; exact hf.1) hf.2 hq ⟨q, vs, rfl, same_none R1.fh hq, upd_same, r1, hz, mn_new R1 hq⟩ trivial
    · exact h1.elim⟩
theorem n_asD (hf : Free A i) (hN : X.N.Nodup) (hx : X.N[i]? = some x) (hl : Loc X.env.scope x) (hs : swapsWith (.Dict [] [] p) (some (.Name x pos')) pos.line X.env = pure false := by rfl)
    (hff : X.fn x = true ∨ X.env.scope.names.lookup x = some .local := by first | exact .inl rfl | exact .inr rfl | assumption) : PS X (.Assign [.Name x pos'] (.Dict [] [] p) pos) (TSx A (wAsD i)) :=
  ps_imp (ps_set hN hx hl pe_dnewK hs hff) fun D σ H ⟨F, e, R, h⟩ q hq => h F _ _ (Same.refl F) (R.setO (by rw [R.ln]; exact hf.1) hf.2 hq ⟨q, rfl, same_none R.fh hq, upd_same, Nat.zero_le _, mn_new R hq⟩ trivial)
/-- x, y = [], {} -/
def wAsLD (i j : Nat) : WSt := fun e => some (.nx (st (st e i (some (.m []))) j (some (.k []))))
theorem n_asLD {j : Nat} {y : Str} {px py pt pq pr : Pos} {kt k2 : Nat} {pt2 : Pos} (hf : Free A i) (hfj : Free A j) (hc : X.calm = true) (hN : X.N.Nodup) (hx : X.N[i]? = some x) (hy : X.N[j]? = some y) (hij : i ≠ j) (hxl : X.env.scope.names.lookup x = some .local) (hyl : X.env.scope.names.lookup y = some .local)
    (hw : swappedStores [.Tuple [.Name x px, .Name y py] kt pt] (.Tuple [.List [] pq, .Dict [] [] pr] k2 pt2) X.env = pure (some [x, y])) (hs : swapsWithSole [.Tuple [.Name x px, .Name y py] kt pt] (.Tuple [.List [] pq, .Dict [] [] pr] k2 pt2) pos.line X.env = pure false := by rfl)
    (s1 : starEach [.List [] pq, .Dict [] [] pr] X.env = (false, eval (.List [] pq) X.env) :: starEach [.Dict [] [] pr] X.env := by rfl) (s2 : starEach [.Dict [] [] pr] X.env = (false, eval (.Dict [] [] pr) X.env) :: starEach [] X.env := by rfl) :
    PS X (.Assign [.Tuple [.Name x px, .Name y py] kt pt] (.Tuple [.List [] pq, .Dict [] [] pr] k2 pt2) pos) (TSx A (wAsLD i j)) :=
  ps_imp (ps_par hc hN hx hy hij hxl hyl (pa_cons (pe_lst pa_nil) (pa_cons pe_dnewK pa_nil s2) s1) hw hs) fun D σ H ⟨F, e, R, h⟩ => by
    refine ⟨Nat.zero_le _, fun q hq r hr => ⟨.ref q, .ref r, rfl, ?_⟩⟩
    have R1 := R.setO (o := .lst []) (s := .m []) (by rw [R.ln]; exact hf.1) hf.2 hq ⟨q, [], rfl, same_none R.fh hq, upd_same, reps_nil.mpr rfl, Nat.zero_le _, mn_new R hq⟩ trivial
    have R2 := R1.setO (o := .dK []) (s := .k []) (by rw [R1.ln]; exact hfj.1) hfj.2 hr ⟨r, rfl, same_none R1.fh hr, upd_same, Nat.zero_le _, mn_new R1 hr⟩ trivial
    exact h F _ _ (Same.refl F) R2
theorem pure_inv {u : Unit} {o : Option Unit} {β : Type} {e : En} {k : Unit → En → Option (Rt β)} : bnd (pur o e) k = match o with | some u => k u e | none => none := by
  cases o <;> rfl
theorem pure_invS {o : Option Unit} {e : En} {k : Unit → En → Option Ot} : bns (pur o e) k = match o with | some u => k u e | none => none := by
  cases o <;> rfl
theorem n_ixO (ha : PE X a (TEx A wa)) (hN : X.N[i]? = some x := by rfl) (hv : Vis X.env.scope x := by first | exact Or.inl rfl | exact Or.inr (Or.inl rfl) | exact Or.inr (Or.inr rfl)) (hs : PlainIx a := by exact fun _ _ => rfl) (hd : (x == ("__debug__" : Str)) = false := by decide)
    (hcd : (x == ("__classdict__" : Str)) = false := by decide) : PE X (.Subscript (.Name x p) a pos) (TEx A (wIxO i wa)) :=
  pe_imp (pe_ix ix_list (pe_var hN hv hd hcd) ha hs) fun σ H Q ⟨F, e, R, h⟩ => by
    unfold wIxO at h
    cases hi : isM e i with
    | none => rw [hi] at h; exact h.elim
    | some u =>
      rw [hi] at h
      obtain ⟨ys, hy⟩ := isM_inv hi
      obtain ⟨q, us, g1, _⟩ := own_m R hy
      refine ⟨.ref q, g1, F, e, R, (FinG.bind (R := Rep X.K) h).imp fun v H1 ⟨F1, d, e1, s1, R1, r1, h1⟩ => ?_⟩
      split at h1
      · rename_i xs hm
        obtain ⟨q', vs, f1, f2, f3, f4, f5, f6⟩ := own_m R1 hm
        rw [g1] at f1; cases f1
        split at h1
        · rename_i d j
          rw [rep_at] at r1; subst r1
          obtain ⟨dd, hf, hg⟩ := fin_pur h1
          obtain ⟨w, k1, k2⟩ := atI_reps f4 hf
          exact ⟨q, vs, _, w, rfl, rfl, SqL.of f3, k1, hg F1 H1 w (Same.refl F1) R1 k2⟩
        · exact h1.elim
      · exact h1.elim
theorem mut_m {F H : Hp} {σ : St} {e : En} {xs ys : List Dt} {us : List V} {q : Addr} (R : Rl X.K A.B F H σ e) (h : gt e i = some (.m xs)) (g1 : σ[i]? = some (some (.ref q))) (g2 : F q = none) (g4 : Reps X.K F ys us) (g5 : us.length ≤ sizeLine) (g6 : Mn A.B q) :
    Rl X.K A.B F (upd H q (.lst us)) σ (st e i (some (.m ys))) :=
  R.mut h trivial trivial (fun _ _ => ⟨ys, rfl⟩) g1 ⟨q, us, rfl, g2, upd_same, g4, g5, g6⟩ (fun q z => by cases z)
theorem n_setO (ha : PE X a (TEx A wa)) (hb : PE X b (TEx A wb)) (hN : X.N[i]? = some x := by rfl) (hv : Vis X.env.scope x := by first | exact Or.inl rfl | exact Or.inr (Or.inl rfl) | exact Or.inr (Or.inr rfl))
    (hs : swapsWithSole [.Subscript (.Name x p) a p2] b pos.line X.env = pure false := by rfl) (hw : swappedStores [.Subscript (.Name x p) a p2] b X.env = pure none := by rfl)
    (h1 : (assignEach [.Subscript (.Name x p) a p2] X.env).map (·.2) = [assign (.Subscript (.Name x p) a p2) X.env] := by rfl)
    (hga : ∀ v, assign (.Subscript (.Name x p) a p2) X.env v = (do
      let ov ← holding [v] (eval (.Name x p) X.env)
      let iv ← holding [v, ov] (eval a X.env)
      standAt p2
      holding [v, ov, iv] (setItem ov iv v)
      release [v, ov, iv] []) := by intro _; rfl)
    (hd : (x == ("__debug__" : Str)) = false := by decide) (hcd : (x == ("__classdict__" : Str)) = false := by decide) :
    PS X (.Assign [.Subscript (.Name x p) a p2] b pos) (TSx A (wSetO i wa wb)) :=
  ps_imp (ps_asg hb (pg_sub (pe_var hN hv hd hcd) ha set_list hga) hs hw h1) fun D σ H ⟨F, e, R, h⟩ => ⟨F, e, R, (FinS.bind (R := Rep X.K) h).imp fun v H1 ⟨F1, d, e1, s1, R1, r1, h1⟩ => by
    rw [pure_invS] at h1
    cases hi : isM e1 i with
    | none => rw [hi] at h1; exact h1.elim
    | some u =>
      rw [hi] at h1
      obtain ⟨ys, hy⟩ := isM_inv hi
      obtain ⟨q, us, g1, _⟩ := own_m R1 hy
      refine ⟨.ref q, g1, F1, e1, R1, (FinS.bind (R := Rep X.K) h1).imp fun k H2 ⟨F2, dk, e2, s2, R2, r2, h2⟩ => ?_⟩
      split at h2
      · rename_i xs hm
        obtain ⟨q', vs, f1, f2, f3, f4, f5, f6⟩ := own_m R2 hm
        rw [g1] at f1; cases f1
        split at h2
        · split at h2
          · rename_i m hx
            rw [rep_at] at r2; subst r2
            rw [f4.len] at hx
            refine ⟨q, vs, _, m, rfl, rfl, f3, hx, h2 F2 _ σ (Same.refl F2) (mut_m R2 hm g1 f2 (Reps.set m (r1.mono s2) f4) (by rw [List.length_set]; exact f5) f6)⟩
          · exact h2.elim
        · exact h2.elim
      · exact h2.elim⟩
theorem n_app (ha : PE X a (TEx A wa)) (hN : X.N[i]? = some x := by rfl) (hv : Vis X.env.scope x := by first | exact Or.inl rfl | exact Or.inr (Or.inl rfl) | exact Or.inr (Or.inr rfl))
    (hbase : attributeBase (.Name x p) "append" X.env (eval (.Name x p) X.env) = eval (.Name x p) X.env := by rfl)
    (hfew : ((backTo pos' (starEach [a] X.env)).all (fun x => !x.1) && (backToKw pos' (keywordEach [] X.env)).all (fun x => x.1.isSome) && decide (([a] : List Expr).length + ([] : List Keyword).length + (if ([] : List Keyword).isEmpty then 0 else 1) < 30)) = true := by rfl)
    (hline : (p2.endLine == pos'.line) = true := by rfl) (hs : starEach [a] X.env = (false, eval a X.env) :: starEach [] X.env := by rfl) (hplain : (backTo pos' (starEach [] X.env)).any (·.1) = false := by rfl)
    (hsw : swapsWith (.Call (.Attribute (.Name x p) "append" p2) [a] [] pos') none pos.line X.env = pure false := by rfl)
    (hd : (x == ("__debug__" : Str)) = false := by decide) (hcd : (x == ("__classdict__" : Str)) = false := by decide) : PS X (.Expr (.Call (.Attribute (.Name x p) "append" p2) [a] [] pos') pos) (TSx A (wApp i wa)) :=
  ps_imp (ps_expr (pe_bm PySem.F.plainAttrs_list PySem.F.slot_list_append PySem.F.type_list_append mt_append (pe_var hN hv hd hcd) (pa_cons ha pa_nil hs) hbase hfew hline hs hplain) hsw) fun D σ H ⟨F, e, R, h⟩ => by
    unfold wApp at h
    rw [pure_invS] at h
    cases hi : isM e i with
    | none => rw [hi] at h; exact h.elim
    | some u =>
      rw [hi] at h
      obtain ⟨ys, hy⟩ := isM_inv hi
      obtain ⟨q, us, g1, g2, g3, _⟩ := own_m R hy
      refine ⟨.ref q, g1, Or.inl ⟨rfl, us, SqL.of g3⟩, F, e, R, (FinS.bind (R := Rep X.K) h).imp fun v H1 ⟨F1, d, e1, s1, R1, r1, h1⟩ => ?_⟩
      split at h1
      · rename_i xs hm
        obtain ⟨q', vs, f1, f2, f3, f4, f5, f6⟩ := own_m R1 hm
        rw [g1] at f1; cases f1
        split at h1
        · rename_i hl
          rw [f4.len] at hl
          exact ⟨q, vs, v, rfl, rfl, f3, hl, h1 F1 _ σ (Same.refl F1) (mut_m R1 hm g1 f2 (f4.app (reps_cons.mpr ⟨v, [], rfl, r1, reps_nil.mpr rfl⟩)) (by rw [List.length_append]; exact hl) f6)⟩
        · exact h1.elim
      · exact h1.elim
theorem mut_k {F H : Hp} {σ : St} {e : En} {xs ys : List (Key × V)} {q : Addr} (R : Rl X.K A.B F H σ e) (h : gt e i = some (.k xs)) (g1 : σ[i]? = some (some (.ref q))) (g2 : F q = none) (g5 : ys.length ≤ sizeLine) (g6 : Mn A.B q) :
    Rl X.K A.B F (upd H q (.dK ys)) σ (st e i (some (.k ys))) :=
  R.mut h trivial trivial (fun _ z => by cases z) g1 ⟨q, rfl, g2, upd_same, g5, g6⟩ (fun q z => by cases z)
theorem putK_len {kvs : List (Key × V)} {k : Key} {v : V} (h : kvs.length < sizeLine) : (putK kvs k v).length ≤ sizeLine := by
  unfold putK
  split
  · rw [List.length_map]; exact Nat.le_of_lt h
  · rw [List.length_append]; exact h
theorem dropK_len {kvs : List (Key × V)} {k : Key} (h : kvs.length ≤ sizeLine) : (dropK kvs k).length ≤ sizeLine := Nat.le_trans (List.length_filter_le ..) h
theorem n_putO (hu : X.A.units + 1 < cLine) (ha : PE X a (TEx A wa)) (hb : PE X b (TEx A wb)) (hN : X.N[i]? = some x := by rfl) (hv : Vis X.env.scope x := by first | exact Or.inl rfl | exact Or.inr (Or.inl rfl) | exact Or.inr (Or.inr rfl))
    (hs : swapsWith b (some (.Subscript (.Name x p) a p2)) pos.line X.env = pure false := by rfl)
    (hd : (x == ("__debug__" : Str)) = false := by decide) (hcd : (x == ("__classdict__" : Str)) = false := by decide) :
    PS X (.Assign [.Subscript (.Name x p) a p2] b pos) (TSx A (wPutO i wa wb)) :=
  ps_imp (ps_dput hu (pe_var hN hv hd hcd) ha hb hs) fun D σ H ⟨F, e, R, h⟩ => ⟨F, e, R, (FinS.bind (R := Rep X.K) h).imp fun v H1 ⟨F1, d, e1, s1, R1, r1, h1⟩ => by
    rw [pure_invS] at h1
    cases hi : isK e1 i with
    | none => rw [hi] at h1; exact h1.elim
    | some u =>
      rw [hi] at h1
      obtain ⟨ys, hy⟩ := isK_inv hi
      obtain ⟨q, g1, _⟩ := own_k R1 hy
      refine ⟨.ref q, g1, F1, e1, R1, (FinS.bind (R := Rep X.K) h1).imp fun k H2 ⟨F2, dk, e2, s2, R2, r2, h2⟩ => ?_⟩
      split at h2
      · rename_i kvs hm
        obtain ⟨q', f1, f2, f3, f5, f6⟩ := own_k R2 hm
        rw [g1] at f1; cases f1
        split at h2
        · rename_i kk vv hk hvv
          split at h2
          · rename_i hl
            have := keyOf_inv hk; subst this
            have := vOf_inv hvv; subst this
            rw [rep_at] at r2 r1; subst r2; subst r1
            exact ⟨q, _, rfl, .inl ⟨kvs, kk, f3, rfl, hl, rfl⟩, h2 F2 _ σ (Same.refl F2) (mut_k R2 hm g1 f2 (putK_len hl) f6)⟩
          · exact h2.elim
        · exact h2.elim
      · exact h2.elim⟩
theorem n_inO (hu : X.A.units + 1 < cLine) (ha : PE X a (TEx A wa)) (hN : X.N[i]? = some x := by rfl) (hv : Vis X.env.scope x := by first | exact Or.inl rfl | exact Or.inr (Or.inl rfl) | exact Or.inr (Or.inr rfl))
    (hm : behindInMarks .In (.Name x p) = false := by rfl) (hd : (x == ("__debug__" : Str)) = false := by decide) (hcd : (x == ("__classdict__" : Str)) = false := by decide) :
    PT X (.Compare a [.In] [.Name x p] pos) (TTx A (wInO false i wa)) :=
  pt_imp (pt_cmp (pc_din hu ha (pe_var hN hv hd hcd)) hm) fun σ H Q ⟨F, e, R, h⟩ => ⟨F, e, R, (FinG.bind (R := Rep X.K) h).imp fun v H1 ⟨F1, d, e1, s1, R1, r1, h1⟩ => by
    split at h1
    · rename_i kvs hk
      obtain ⟨q, g1, g2, g3, g4, g5⟩ := own_k R1 hk
      split at h1
      · rename_i kk hkk
        have := keyOf_inv hkk; subst this
        rw [rep_at] at r1; subst r1
        exact ⟨.ref q, g1, q, _, rfl, DGet.k g3, _, rfl, h1 F1 H1 _ (Same.refl F1) R1 rfl⟩
      · exact h1.elim
    · exact h1.elim⟩
theorem n_ninO (hu : X.A.units + 1 < cLine) (ha : PE X a (TEx A wa)) (hN : X.N[i]? = some x := by rfl) (hv : Vis X.env.scope x := by first | exact Or.inl rfl | exact Or.inr (Or.inl rfl) | exact Or.inr (Or.inr rfl))
    (hm : behindInMarks .NotIn (.Name x p) = false := by rfl) (hd : (x == ("__debug__" : Str)) = false := by decide) (hcd : (x == ("__classdict__" : Str)) = false := by decide) :
    PT X (.Compare a [.NotIn] [.Name x p] pos) (TTx A (wInO true i wa)) :=
  pt_imp (pt_cmp (pc_dnotin hu ha (pe_var hN hv hd hcd)) hm) fun σ H Q ⟨F, e, R, h⟩ => ⟨F, e, R, (FinG.bind (R := Rep X.K) h).imp fun v H1 ⟨F1, d, e1, s1, R1, r1, h1⟩ => by
    split at h1
    · rename_i kvs hk
      obtain ⟨q, g1, g2, g3, g4, g5⟩ := own_k R1 hk
      split at h1
      · rename_i kk hkk
        have := keyOf_inv hkk; subst this
        rw [rep_at] at r1; subst r1
        exact ⟨.ref q, g1, q, _, rfl, DGet.k g3, _, rfl, h1 F1 H1 _ (Same.refl F1) R1 rfl⟩
      · exact h1.elim
    · exact h1.elim⟩
theorem n_popO (ha : PE X a (TEx A wa)) (hb : PE X b (TEx A wb)) (hm2 : M2 X (.Name x p) "pop" p2 a b pos := by exact ⟨rfl, rfl, rfl, rfl⟩) (hN : X.N[i]? = some x := by rfl) (hv : Vis X.env.scope x := by first | exact Or.inl rfl | exact Or.inr (Or.inl rfl) | exact Or.inr (Or.inr rfl))
    (hd : (x == ("__debug__" : Str)) = false := by decide) (hcd : (x == ("__classdict__" : Str)) = false := by decide) :
    PE X (.Call (.Attribute (.Name x p) "pop" p2) [a, b] [] pos) (TEx A (wPopO i wa wb)) :=
  pe_imp (pe_dpop2 (pe_var hN hv hd hcd) ha hb hm2) fun σ H Q ⟨F, e, R, h⟩ => by
    unfold wPopO at h
    cases hi : isK e i with
    | none => rw [hi] at h; exact h.elim
    | some u =>
      rw [hi] at h
      obtain ⟨ys, hy⟩ := isK_inv hi
      obtain ⟨q, g1, g2, g3, _⟩ := own_k R hy
      refine ⟨.ref q, g1, q, rfl, .inl ⟨_, .inl g3⟩, F, e, R, (FinG.bind (R := Rep X.K) h).imp fun k H1 ⟨F1, dk, e1, s1, R1, r1, h1⟩ => ⟨F1, e1, R1, (FinG.bind (R := Rep X.K) h1).imp fun v H2 ⟨F2, dv, e2, s2, R2, r2, h2⟩ => ?_⟩⟩
      split at h2
      · rename_i kvs hm
        obtain ⟨q', f1, f2, f3, f5, f6⟩ := own_k R2 hm
        rw [g1] at f1; cases f1
        split at h2
        · rename_i kk vv hk hvv
          have := keyOf_inv hk; subst this
          have := vOf_inv hvv; subst this
          rw [rep_at] at r2 r1; subst r2; subst r1
          refine ⟨kvs, kk, f3, rfl, fun v hvl => ?_, fun hvl => ?_⟩
          · rw [hvl] at h2
            exact h2 F2 _ _ (Same.refl F2) (mut_k R2 hm g1 f2 (dropK_len f5) f6) (rep_at.mpr rfl)
          · rw [hvl] at h2
            exact h2 F2 _ _ (Same.refl F2) R2 (rep_at.mpr rfl)
        · exact h2.elim
      · exact h2.elim
theorem n_getO (hu : X.A.units + 1 < cLine) (ha : PE X a (TEx A wa)) (hb : PE X b (TEx A wb)) (hm2 : M2 X (.Name x p) "get" p2 a b pos := by exact ⟨rfl, rfl, rfl, rfl⟩) (hN : X.N[i]? = some x := by rfl) (hv : Vis X.env.scope x := by first | exact Or.inl rfl | exact Or.inr (Or.inl rfl) | exact Or.inr (Or.inr rfl))
    (hd : (x == ("__debug__" : Str)) = false := by decide) (hcd : (x == ("__classdict__" : Str)) = false := by decide) :
    PE X (.Call (.Attribute (.Name x p) "get" p2) [a, b] [] pos) (TEx A (wGetO i wa wb)) :=
  pe_imp (pe_dget2 hu (pe_var hN hv hd hcd) ha hb hm2) fun σ H Q ⟨F, e, R, h⟩ => by
    unfold wGetO at h
    cases hi : isK e i with
    | none => rw [hi] at h; exact h.elim
    | some u =>
      rw [hi] at h
      obtain ⟨ys, hy⟩ := isK_inv hi
      obtain ⟨q, g1, g2, g3, _⟩ := own_k R hy
      refine ⟨.ref q, g1, q, rfl, .inl ⟨_, .inl g3⟩, F, e, R, (FinG.bind (R := Rep X.K) h).imp fun k H1 ⟨F1, dk, e1, s1, R1, r1, h1⟩ => ⟨F1, e1, R1, (FinG.bind (R := Rep X.K) h1).imp fun v H2 ⟨F2, dv, e2, s2, R2, r2, h2⟩ => ?_⟩⟩
      split at h2
      · rename_i kvs hm
        obtain ⟨q', f1, f2, f3, f5, f6⟩ := own_k R2 hm
        rw [g1] at f1; cases f1
        split at h2
        · rename_i kk vv hk hvv
          have := keyOf_inv hk; subst this
          have := vOf_inv hvv; subst this
          rw [rep_at] at r2 r1; subst r2; subst r1
          exact ⟨_, DGet.k f3, h2 F2 _ _ (Same.refl F2) R2 (rep_at.mpr rfl)⟩
        · exact h2.elim
      · exact h2.elim
/-- a dict that is a value -/
def fInD (neg : Bool) : Dt → Dt → Option Bool
  | d, .dic kvs => (match keyOf d with
    | some q => some (if neg then !(valV kvs q).isSome else (valV kvs q).isSome)
    | none => none)
  | _, _ => none
def wInD (neg : Bool) (wa wb : WEx) : WTx := fun e => bnd (wa e) fun x e1 => bnd (wb e1) fun y e2 => pur (fInD neg x y) e2
end
end Ly
set_option maxHeartbeats 1000000
/-! Ly10: defs that write into a list of the caller's, defs that give a new list to be written. -/
namespace Ly
open PySem PySem.Spec PyProof.Rows L2

/-! ### the first argument is the caller's own list -/
inductive FM where
  | ok (d : Dt) (xs : List Dt)
  | er (c : Str)
abbrev FnM := List Dt → List Dt → Option FM
def semM (k n : Nat) (w : WSt) : FnM := fun xs ds => if ds.length = k then (match w (some (.m xs) :: iniE (n - 1) ds) with
  | some (.rt (.v d) e) => (match gt e 0 with | some (.m ys) => some (.ok d ys) | _ => none)
  | some (.nx e) => (match gt e 0 with | some (.m ys) => some (.ok .non ys) | _ => none)
  | some (.er c) => some (.er c)
  | _ => none) else none
def FinM (K : PySem.W.Frag) (F H : Hp) (p : Addr) (T : List (Addr × Str)) (E : XK) (cl : Str → Option Addr) (Q : VK) : Option FM → Prop
  | some (.ok d ys) => ∀ F' H' v, Rl K ⟨F, H, some p, T, 1⟩ F' H' [some (.ref p)] [some (.m ys)] → Rep K F' d v → Q v H'
  | some (.er c) => ∀ a F' H' ys, cl c = some a → Rl K ⟨F, H, some p, T, 1⟩ F' H' [some (.ref p)] [some (.m ys)] → E (.ref a) none H'
  | none => False
def spM (K : PySem.W.Frag) (T : List (Addr × Str)) (cl : Str → Option Addr) (k : Nat) (f : FnM) : Sp := fun vs H Q E => vs.length = k + 1 ∧ ∃ F p us xs rest ds, vs = .ref p :: rest ∧ Same F H ∧ F p = none ∧ H p = some (.lst us) ∧ Reps K F xs us ∧ us.length ≤ sizeLine ∧ Reps K F ds rest ∧ LamX.Tabs T H ∧ NoT F ∧ FinM K F H p T E cl Q (f xs ds)
section
variable {K : PySem.W.Frag} {F F' H H' : Hp} {T : List (Addr × Str)} {p : Addr}
theorem Rl.bareM {n : Nat} {σ : St} {e : En} (R : Rl K ⟨F, H, some p, T, n⟩ F' H' σ e) {ys : List Dt} (h : gt e 0 = some (.m ys)) : Rl K ⟨F, H, some p, T, 1⟩ F' H' [some (.ref p)] [some (.m ys)] := by
  obtain ⟨xs, h1, h2⟩ := R.pin0 p rfl
  obtain ⟨v, h3, h4⟩ := R.sl 0 _ h
  have e1 : (some (some v) : Option (Option V)) = some (some (.ref p)) := h3.symm.trans h2
  cases e1
  have gt1 : ∀ i s, gt [some (Sl.m ys)] i = some s → i = 0 ∧ s = .m ys := fun i s h => by
    cases i with
    | zero => cases h; exact ⟨rfl, rfl⟩
    | succ i => cases h
  refine ⟨R.fh, R.f0, R.h0, R.th, R.nf, R.tbs, R.tF, rfl, rfl, fun i s hi => ?_, fun i j s s' q g1 g2 _ _ _ _ => ?_, fun q hq i s hi _ _ => (gt1 i s hi).1, fun q hq => ?_⟩
  · obtain ⟨rfl, rfl⟩ := gt1 i s hi
    obtain ⟨a, vs, e1, b⟩ := h4
    exact ⟨.ref p, rfl, a, vs, e1, b⟩
  · rw [(gt1 i s g1).1, (gt1 j s' g2).1]
  · cases hq; exact ⟨ys, rfl, rfl⟩
theorem Rl.iniM {n : Nat} {σ : St} {ds xs : List Dt} {vs us : List V} (s : Same F H) (fp : F p = none) (hp : H p = some (.lst us)) (rx : Reps K F xs us) (lu : us.length ≤ sizeLine) (r : Reps K F ds vs) (tb : LamX.Tabs T H) (tF : NoT F) (hl : ds.length + 1 ≤ n) (hσ : σ.length = n)
    (h0 : σ[0]? = some (some (.ref p))) (hs : ∀ (i : Nat) (v : V), vs[i]? = some v → σ[i + 1]? = some (some v)) : Rl K ⟨F, H, some p, T, n⟩ F H σ (some (.m xs) :: iniE (n - 1) ds) := by
  have hle : (some (Sl.m xs) :: iniE (n - 1) ds).length = n := by rw [List.length_cons, iniE_len _ _ (by omega)]; omega
  have ow : ∀ i s, gt (some (Sl.m xs) :: iniE (n - 1) ds) i = some s → s.own → i = 0 := fun i s h o => by
    cases i with
    | zero => rfl
    | succ i =>
      obtain ⟨d, _, rfl⟩ := gt_ini (n := n - 1) (i := i) h
      exact o.elim
  refine ⟨s, Same.refl F, fun b o hb _ _ => hb, fun b o hb => ⟨o, hb⟩, fun b o _ hf => hf, tb, tF, by rw [hσ, hle], hle, fun i sl hi => ?_, fun i j a b q g1 g2 o1 o2 _ _ => by rw [ow i a g1 o1, ow j b g2 o2], fun q hq i a hi o _ => ow i a hi o, fun q hq => ?_⟩
  · cases i with
    | zero => cases hi; exact ⟨.ref p, h0, p, us, rfl, fp, hp, rx, lu, .inl rfl⟩
    | succ i =>
      obtain ⟨d, h1, rfl⟩ := gt_ini (n := n - 1) (i := i) hi
      obtain ⟨v, h2, h3⟩ := r.get h1
      exact ⟨v, hs i v h2, h3⟩
  · cases hq; exact ⟨xs, rfl, h0⟩
/-- an own thing of the caller's newly made by a callee -/
theorem Rl.adopt {B : Bs} {σ : St} {e : En} (R : Rl K B F H σ e) {i : Nat} {s : Sl} (hi : i < e.length) (hp : B.S ≠ none → i ≠ 0) (hs : SlR K B F H s (.ref p)) (ho : s.own) (ne : ∀ j t, gt e j = some t → t.own → ∀ q, σ[j]? = some (some (.ref q)) → q ≠ p) :
    Rl K B F H (σ.set i (some (.ref p))) (st e i (some s)) := by
  have hσ : i < σ.length := by rw [R.len]; exact hi
  refine ⟨R.fh, R.f0, R.h0, R.th, R.nf, R.tbs, R.tF, by rw [List.length_set, st_len]; exact R.len, by rw [st_len]; exact R.ln, fun j t hj => ?_, fun j k t t' q h1 h2 o1 o2 q1 q2 => ?_, fun q hS j t hj ht hv => ?_, fun q hS => ?_⟩
  · by_cases z : i = j
    · subst z
      rw [gt_st_same _ _ _ hi] at hj; cases hj
      exact ⟨.ref p, by rw [get_set hσ, if_pos rfl], hs⟩
    · rw [gt_st_ne _ _ _ _ z] at hj
      obtain ⟨u, a, b⟩ := R.sl j t hj
      exact ⟨u, by rw [get_set hσ, if_neg z]; exact a, b⟩
  · by_cases z : i = j
    · by_cases z2 : i = k
      · exact z.symm.trans z2
      · subst z
        rw [gt_st_ne _ _ _ _ z2] at h2
        rw [get_set hσ, if_pos rfl] at q1; cases q1
        rw [get_set hσ, if_neg z2] at q2
        exact absurd rfl (ne k t' h2 o2 p q2)
    · by_cases z2 : i = k
      · subst z2
        rw [gt_st_ne _ _ _ _ z] at h1
        rw [get_set hσ, if_neg z] at q1
        rw [get_set hσ, if_pos rfl] at q2; cases q2
        exact absurd rfl (ne j t h1 o1 p q1)
      · rw [gt_st_ne _ _ _ _ z] at h1; rw [gt_st_ne _ _ _ _ z2] at h2
        rw [get_set hσ, if_neg z] at q1; rw [get_set hσ, if_neg z2] at q2
        exact R.own j k t t' q h1 h2 o1 o2 q1 q2
  · by_cases z : i = j
    · subst z
      rw [get_set hσ, if_pos rfl] at hv; cases hv
      obtain ⟨xs, a, b⟩ := R.pin0 p hS
      exact absurd rfl (ne 0 _ a trivial p b)
    · rw [gt_st_ne _ _ _ _ z] at hj; rw [get_set hσ, if_neg z] at hv
      exact R.pin q hS j t hj ht hv
  · have z := hp (by rw [hS]; exact fun z => by cases z)
    obtain ⟨xs, a, b⟩ := R.pin0 q hS
    exact ⟨xs, by rw [gt_st_ne _ _ _ _ z]; exact a, by rw [get_set hσ, if_neg z]; exact b⟩
end
section
variable {P : Program} {w : World} {K : PySem.W.Frag} {mg : Str → Option Value} {base : Heap}
theorem fn_borrow {x qual : Str} {params : Arguments} {body : List Stmt} {scope : Scope} {f : Addr} {fd : FuncData} {N ps : List Str} {k : Nat} (n : Nat) (T : List (Addr × Str)) (cl : Str → Option Addr) (ws : WSt)
    (F : FunD K x qual params body scope [] [] f fd) (S : FnScope N ps scope) (hn : N.length = n) {m : Nat} (hm : ps.length = m + 1)
    (hbody : ∀ (cdv : Value) (A : Around) (outer : List Env) (s : Shared) (H : Hp) (E : XK) (Fz : Hp) (p : Addr), Room k (A.deeper (envOfC qual scope s.heap.objs.size f cdv)) →
      PSs (cxOf (L2N.CX P w) P w K mg base N qual scope f cdv A outer s H E) body (TSx (K := K) ⟨⟨Fz, H, some p, T, n⟩, E, cl⟩ ws)) :
    FnOk P w K mg base (L2N.CX P w) (k + 1) f fd ps (spM K T cl m (semM m n ws)) := by
  refine F.ok S (fun vs H Q E h => by rw [hm]; exact h.1) fun cdv A outer s H vs Q E hr ⟨hl, Fz, p, us, xs, rest, ds, ev, sm, fp, hp, rx, lu, r, tb, tF, hq⟩ => ⟨_, hbody cdv A outer s H E Fz p hr, ?_⟩
  subst ev
  have hds : ds.length = rest.length := r.len
  have hpl : ps.length ≤ N.length := by have := congrArg List.length S.pre; rw [List.length_take] at this; omega
  rw [List.length_cons] at hl
  have R0 : Rl K ⟨Fz, H, some p, T, n⟩ Fz H (L2.start N (.ref p :: rest)) (some (.m xs) :: iniE (n - 1) ds) :=
    Rl.iniM sm fp hp rx lu r tb tF (by omega) (by rw [start_len (by rw [List.length_cons]; omega), hn]) (start_get rfl) (fun i v h => start_get (by rw [List.getElem?_cons_succ]; exact h))
  refine ⟨Fz, _, R0, ?_⟩
  unfold semM at hq
  rw [if_pos (by omega)] at hq
  revert hq
  cases hw : ws (some (.m xs) :: iniE (n - 1) ds) with
  | none => exact fun h => h
  | some o =>
    cases o with
    | nx e1 =>
      intro h F' H' σ' _ R'
      dsimp only at h
      split at h
      · rename_i ys hy
        exact h F' H' _ (R'.bareM hy) (rep_at.mpr rfl)
      · exact h.elim
    | rt t e1 =>
      cases t with
      | v d =>
        intro h F' H' σ' v _ R' r' _
        dsimp only at h
        split at h
        · rename_i ys hy
          exact h F' H' v (R'.bareM hy) r'
        · exact h.elim
      | m xs => exact fun h => h.elim
      | k kvs => exact fun h => h.elim
    | bk e1 => exact fun h => h.elim
    | ct e1 => exact fun h => h.elim
    | er c =>
      intro h a F' H' σ' e' hc R'
      obtain ⟨ys, g, _⟩ := R'.pin0 p rfl
      exact h a F' H' ys hc (R'.bareM g)
end
structure GfM (P : Program) (w : World) (K : PySem.W.Frag) (mg : Str → Option Value) (base : Heap) (T : List (Addr × Str)) (cl : Str → Option Addr) (j : Nat) (x : Str) (k : Nat) (f : FnM) : Prop where
  ex : ∃ (fa : Addr) (fd : FuncData) (ps : List Str), FnOk P w K mg base (L2N.CX P w) j fa fd ps (spM K T cl k f) ∧ mg x = some (.ref fa) ∧ PySem.W.keepIn K (.ref fa) = true ∧ Binds K fd ps []
theorem GfM.mono {P : Program} {w : World} {K : PySem.W.Frag} {mg : Str → Option Value} {base : Heap} {T : List (Addr × Str)} {cl : Str → Option Addr} {j j' : Nat} {x : Str} {k : Nat} {f : FnM} (h : GfM P w K mg base T cl j x k f) (hj : j ≤ j') : GfM P w K mg base T cl j' x k f := by
  obtain ⟨fa, fd, ps, a, b⟩ := h.ex
  exact ⟨fa, fd, ps, a.mono hj, b⟩
theorem GfM.imp {P : Program} {w : World} {K : PySem.W.Frag} {mg : Str → Option Value} {base : Heap} {T : List (Addr × Str)} {cl : Str → Option Addr} {j : Nat} {x : Str} {k : Nat} {f f' : FnM} (h : GfM P w K mg base T cl j x k f) (hf : ∀ xs ds r, f' xs ds = some r → f xs ds = some r) : GfM P w K mg base T cl j x k f' := by
  obtain ⟨fa, fd, ps, a, b⟩ := h.ex
  refine ⟨fa, fd, ps, a.imp fun vs H Q E ⟨h1, F, p, us, xs, rest, ds, e, h2, h3, h4, h5, h6, h7, h8, h9, hq⟩ => ⟨h1, F, p, us, xs, rest, ds, e, h2, h3, h4, h5, h6, h7, h8, h9, ?_⟩, b⟩
  cases hr : f' xs ds with
  | none => rw [hr] at hq; exact hq.elim
  | some r => rw [hr] at hq; rw [hf xs ds r hr]; exact hq
def wCallM (f : FnM) (i : Nat) (ws : WAx) : WEx := fun e => bnd (pur (isM e i) e) fun _ e0 => bnd (ws e0) fun ds e1 => match gt e1 i with
  | some (.m xs) => (match f xs ds with
    | some (.ok d ys) => some (.ok d (st e1 i (some (.m ys))))
    | some (.er c) => some (.er c)
    | none => none)
  | _ => none
section
variable {X : Cx} {A : Ax X.K} {es : List Expr} {ws : WAx} {pos p p2 : Pos} {x y : Str} {j k i : Nat} {f : FnM}
/-- f(y, ..), y a list of one's own -/
theorem n_callM (G : GfM X.prog X.w X.K X.mg X.base A.B.T A.cl j x k f) (hr : Room j X.A) (hx : Passes (L2N.CX X.prog X.w) X A.E) (hg : Gl X x) (ha : PA X es (TAx A ws)) (hk : ∀ e ds e1, ws e = some (.ok ds e1) → ds.length = k)
    (hN : X.N[i]? = some y := by rfl) (hv : Vis X.env.scope y := by first | exact Or.inl rfl | exact Or.inr (Or.inl rfl) | exact Or.inr (Or.inr rfl)) (hd : (y == ("__debug__" : Str)) = false := by decide) (hcd : (y == ("__classdict__" : Str)) = false := by decide)
    (hdb : (x == ("__debug__" : Str)) = false := by decide) (he : starEach (.Name y p2 :: es) X.env = (false, eval (.Name y p2) X.env) :: starEach es X.env := by rfl) (hpl : (backTo pos (starEach es X.env)).any (·.1) = false := by rfl) :
    PE X (.Call (.Name x p) (.Name y p2 :: es) [] pos) (TEx A (wCallM f i ws)) := by
  obtain ⟨fa, fd, ps, F, hm, hkp, hb⟩ := G.ex
  refine pe_imp (pe_call F hr hg hm hkp hb .nil hx (pa_cons (pe_var hN hv hd hcd) ha he) hdb he hpl) fun σ H Q ⟨F, e, R, h⟩ => ?_
  unfold wCallM at h
  cases hi : isM e i with
  | none => rw [hi] at h; exact h.elim
  | some u =>
    rw [hi] at h
    obtain ⟨ys, hy⟩ := isM_inv hi
    obtain ⟨q, us, g1, _⟩ := own_m R hy
    refine ⟨.ref q, g1, F, e, R, (FinG.bindE (R := Reps X.K) h).imp fun vs H1 ⟨F1, ds, e1, hw, s1, R1, r1, h1⟩ => ?_⟩
    split at h1
    · rename_i xs hm
      obtain ⟨q', vs', f1, f2, f3, f4, f5, f6⟩ := own_m R1 hm
      rw [g1] at f1; cases f1
      refine ⟨by rw [List.append_nil, List.length_cons, ← r1.len, hk e ds e1 hw], F1, q, vs', xs, vs, ds, by rw [List.append_nil], R1.fh, f2, f3, f4, f5, r1, R1.tbs, R1.tF, ?_⟩
      revert h1
      cases hf : f xs ds with
      | none => exact fun h => h
      | some r =>
        cases r with
        | ok d zs =>
          intro h F' H' v R' r'
          obtain ⟨a, b⟩ := R1.callM hm g1 R' rfl
          exact h F' H' v b a r'
        | er c => exact fun h ad F' H' zs hc R' => h ad F' H' σ _ hc (R1.callM hm g1 R' rfl).1
    · exact h1.elim
end

/-! ### a def that gives a new list, the caller's own -/
inductive FO where
  | ok (xs : List Dt)
  | er (c : Str)
abbrev FnO := List Dt → Option FO
def semO (k n : Nat) (w : WSt) : FnO := fun ds => if ds.length = k then (match w (iniE n ds) with
  | some (.rt (.m xs) _) => some (.ok xs)
  | some (.er c) => some (.er c)
  | _ => none) else none
def FinO (K : PySem.W.Frag) (B : Bs) (E : XK) (cl : Str → Option Addr) (Q : VK) : Option FO → Prop
  | some (.ok xs) => ∀ F' H' v, Rl K B F' H' [] [] → SlR K B F' H' (.m xs) v → (∀ p, v = .ref p → B.H p = none) → Q v H'
  | some (.er c) => ∀ a F' H', cl c = some a → Rl K B F' H' [] [] → E (.ref a) none H'
  | none => False
def spO (K : PySem.W.Frag) (T : List (Addr × Str)) (cl : Str → Option Addr) (k : Nat) (f : FnO) : Sp := fun vs H Q E => vs.length = k ∧ ∃ F ds, Same F H ∧ Reps K F ds vs ∧ LamX.Tabs T H ∧ NoT F ∧ FinO K ⟨F, H, none, T, 0⟩ E cl Q (f ds)
section
variable {P : Program} {w : World} {K : PySem.W.Frag} {mg : Str → Option Value} {base : Heap}
theorem fn_own {x qual : Str} {params : Arguments} {body : List Stmt} {scope : Scope} {f : Addr} {fd : FuncData} {N ps : List Str} {k : Nat} (n : Nat) (T : List (Addr × Str)) (cl : Str → Option Addr) (ws : WSt)
    (F : FunD K x qual params body scope [] [] f fd) (S : FnScope N ps scope) (hn : N.length = n)
    (hbody : ∀ (cdv : Value) (A : Around) (outer : List Env) (s : Shared) (H : Hp) (E : XK) (Fz : Hp), Room k (A.deeper (envOfC qual scope s.heap.objs.size f cdv)) →
      PSs (cxOf (L2N.CX P w) P w K mg base N qual scope f cdv A outer s H E) body (TSx (K := K) ⟨⟨Fz, H, none, T, n⟩, E, cl⟩ ws)) :
    FnOk P w K mg base (L2N.CX P w) (k + 1) f fd ps (spO K T cl ps.length (semO ps.length n ws)) := by
  refine F.ok S (fun vs H Q E h => h.1) fun cdv A outer s H vs Q E hr ⟨hl, Fz, ds, sm, r, tb, tF, hq⟩ => ⟨_, hbody cdv A outer s H E Fz hr, ?_⟩
  have hds : ds.length = vs.length := r.len
  have hpl : ps.length ≤ N.length := by have := congrArg List.length S.pre; rw [List.length_take] at this; omega
  refine ⟨Fz, iniE n ds, Rl.ini sm r tb tF (by omega) (by rw [start_len (by omega), hn]) (fun i v => start_get), ?_⟩
  unfold semO at hq
  rw [if_pos (by omega)] at hq
  revert hq
  cases hw : ws (iniE n ds) with
  | none => exact fun h => h
  | some o =>
    cases o with
    | nx e1 => exact fun h => h.elim
    | rt t e1 =>
      cases t with
      | v d => exact fun h => h.elim
      | m xs => exact fun h F' H' σ' v _ R' r' hb => h F' H' v R'.bare r' (hb trivial)
      | k kvs => exact fun h => h.elim
    | bk e1 => exact fun h => h.elim
    | ct e1 => exact fun h => h.elim
    | er c => exact fun h a F' H' σ' e' hc R' => h a F' H' hc R'.bare
end
structure GfO (P : Program) (w : World) (K : PySem.W.Frag) (mg : Str → Option Value) (base : Heap) (T : List (Addr × Str)) (cl : Str → Option Addr) (j : Nat) (x : Str) (k : Nat) (f : FnO) : Prop where
  ex : ∃ (fa : Addr) (fd : FuncData) (ps : List Str), FnOk P w K mg base (L2N.CX P w) j fa fd ps (spO K T cl k f) ∧ mg x = some (.ref fa) ∧ PySem.W.keepIn K (.ref fa) = true ∧ Binds K fd ps []
theorem GfO.mono {P : Program} {w : World} {K : PySem.W.Frag} {mg : Str → Option Value} {base : Heap} {T : List (Addr × Str)} {cl : Str → Option Addr} {j j' : Nat} {x : Str} {k : Nat} {f : FnO} (h : GfO P w K mg base T cl j x k f) (hj : j ≤ j') : GfO P w K mg base T cl j' x k f := by
  obtain ⟨fa, fd, ps, a, b⟩ := h.ex
  exact ⟨fa, fd, ps, a.mono hj, b⟩
theorem GfO.imp {P : Program} {w : World} {K : PySem.W.Frag} {mg : Str → Option Value} {base : Heap} {T : List (Addr × Str)} {cl : Str → Option Addr} {j : Nat} {x : Str} {k : Nat} {f f' : FnO} (h : GfO P w K mg base T cl j x k f) (hf : ∀ ds r, f' ds = some r → f ds = some r) : GfO P w K mg base T cl j x k f' := by
  obtain ⟨fa, fd, ps, a, b⟩ := h.ex
  refine ⟨fa, fd, ps, a.imp fun vs H Q E ⟨h1, F, ds, h2, h3, h4, h5, hq⟩ => ⟨h1, F, ds, h2, h3, h4, h5, ?_⟩, b⟩
  cases hr : f' ds with
  | none => rw [hr] at hq; exact hq.elim
  | some r => rw [hr] at hq; rw [hf ds r hr]; exact hq
def wAsO (f : FnO) (i : Nat) (ws : WAx) : WSt := fun e => bns (ws e) fun ds e1 => match f ds with
  | some (.ok xs) => some (.nx (st e1 i (some (.m xs))))
  | some (.er c) => some (.er c)
  | none => none
section
variable {X : Cx} {A : Ax X.K} {a : Expr} {es : List Expr} {ws : WAx} {pos p p2 pos' : Pos} {x y : Str} {j k i : Nat} {f : FnO}
/-- y = f(..), a list to be written -/
theorem n_asO (G : GfO X.prog X.w X.K X.mg X.base A.B.T A.cl j x k f) (hr : Room j X.A) (hx : Passes (L2N.CX X.prog X.w) X A.E) (hg : Gl X x) (ha : PA X (a :: es) (TAx A ws)) (hk : ∀ e ds e1, ws e = some (.ok ds e1) → ds.length = k)
    (hf : Free A i) (hN : X.N.Nodup) (hy : X.N[i]? = some y) (hl : Loc X.env.scope y) (hs : swapsWith (.Call (.Name x p) (a :: es) [] p2) (some (.Name y pos')) pos.line X.env = pure false := by rfl)
    (hff : X.fn y = true ∨ X.env.scope.names.lookup y = some .local := by first | exact .inl rfl | exact .inr rfl | assumption)
    (hdb : (x == ("__debug__" : Str)) = false := by decide) (he : starEach (a :: es) X.env = (false, eval a X.env) :: starEach es X.env := by rfl) (hpl : (backTo p2 (starEach es X.env)).any (·.1) = false := by rfl) :
    PS X (.Assign [.Name y pos'] (.Call (.Name x p) (a :: es) [] p2) pos) (TSx A (wAsO f i ws)) := by
  obtain ⟨fa, fd, ps, F, hm, hkp, hb⟩ := G.ex
  refine ps_imp (ps_set hN hy hl (pe_call F hr hg hm hkp hb .nil hx ha hdb he hpl) hs hff) fun D σ H ⟨F, e, R, h⟩ => ⟨F, e, R, ?_⟩
  have h2 : FinG A (Reps X.K) σ F (fun vs H1 => ∃ F1 ds e1, ws e = some (.ok ds e1) ∧ Same F F1 ∧ Rl X.K A.B F1 H1 σ e1 ∧ Reps X.K F1 ds vs ∧ FinS A F1 D (match f ds with
    | some (.ok xs) => some (.nx (st e1 i (some (.m xs))))
    | some (.er c) => some (.er c)
    | none => none)) (ws e) := by
    unfold wAsO at h
    revert h
    cases hw : ws e with
    | none => exact fun h => h
    | some r =>
      cases r with
      | er c => exact fun h => h
      | ok ds e1 => exact fun h F' H' v s' R1 r' => ⟨F', ds, e1, rfl, s', R1, r', FinS.mono s' h⟩
  refine h2.imp fun vs H1 ⟨F1, ds, e1, hw, s1, R1, r1, h1⟩ => ?_
  rw [List.append_nil]
  refine ⟨by rw [← r1.len]; exact hk e ds e1 hw, F1, ds, R1.fh, r1, R1.tbs, R1.tF, ?_⟩
  revert h1
  cases hfd : f ds with
  | none => exact fun h => h
  | some r =>
    cases r with
    | ok xs =>
      intro h F' H' v R' r' hb
      obtain ⟨a1, b1⟩ := R1.call R'
      obtain ⟨q, us, rfl, f1, f2, f3, f4, f5⟩ := r'
      have bq := hb q rfl
      refine h F' H' _ b1 (a1.adopt (by rw [a1.ln]; exact hf.1) hf.2 ⟨q, us, rfl, f1, f2, f3, f4, mn_new R1 bq⟩ trivial fun j t hj ht z hz => ?_)
      obtain ⟨v, c1, c2⟩ := R1.sl j t hj
      rw [hz] at c1; cases c1
      obtain ⟨_, ⟨ob, c3, _⟩, _⟩ := c2.at ht
      exact ne_of_none c3 bq
    | er c => exact fun h ad F' H' hc R' => h ad F' H' σ e1 hc (R1.call R').1
end
end Ly
set_option maxHeartbeats 2000000
/-! Ly11: while an exception is handled: walks over lists, tuple targets, comprehensions. -/
namespace Ly
open PySem PySem.Spec PyProof.Rows L2 HotX L2H

section
variable {prog : Program} {w : World} {A : Around} {E : Value → Shared → Prop} {s : Shared}
theorem listEnd_hot {it l x1 : Addr} {i : Nat} {items} {Q : Option Value → Shared → Prop} (hot : HotAt A x1 s.heap) (hne : x1 ≠ it) (hit : s.heap.IsListIter it l i) (hl : s.heap.IsList l items) (hx : items[i]? = none)
    (hQ : ∀ h', Heap.ExtBut it s.heap h' → Q none { s with heap := h' }) : wpAny (model prog w) A (pyNext (.ref it)) Q E s := by
  obtain ⟨o, ho, hc, hd⟩ := id hit
  obtain ⟨ol, hol, _, nl, hdl⟩ := hl
  unfold pyNext
  refine wpAny_bind (wpAny_attempt (wpAny_callSpecial?_slot (name := Str.ofString "__next__") hit.typeIs slot_listiter_next (wpAny_call_entry slot_listiter_next hit.typeIs entry_listiter_next ?_ (args_listiter_next _))))
  show wpAny _ _ (field (.ref it) 0 >>= _) _ _ s
  refine wpAny_bind (wpAny_field ho hd (x := .ref l) rfl ?_)
  show wpAny _ _ (if (Value.ref l == Value.none) = true then _ else _) _ _ s
  rw [if_neg (show ¬ ((Value.ref l == Value.none) = true) from Bool.false_ne_true)]
  show wpAny _ _ (field (.ref it) 1 >>= _) _ _ s
  refine wpAny_bind (wpAny_field ho hd (x := .int i 0) rfl ?_)
  show wpAny _ _ (seqItems? (.ref l) >>= _) _ _ s
  refine wpAny_bind (wpAny_seqItems hol hdl ?_)
  simp only [Int.toNat_natCast, hx]
  refine wpAny_bind (wpAny_rule (wpAny_bind (wpAny_setField ho hd (by simp) ?_)))
  obtain ⟨hh, o1, vs1, h1, d1, c1⟩ := hot
  have h1' : (s.heap.update it (Obj.mapFields (·.setIfInBounds 0 Value.none))).get? x1 = some o1 := by rw [Heap.get?_update_other _ _ (Ne.symm hne)]; exact h1
  show wpAny _ _ (newExc (.type "StopIteration") [] >>= _) _ _ _
  refine wpAny_bind ?_
  simp only [newExc, newTuple]
  refine wpAny_bind (wpAny_newObj_type ?_ (by size_fits))
  refine wpAny_bind (m := firstArgMember _ _) (wpAny_of_eq (a := Value.none) (by first | rfl | (simp only [firstArgMember]; rfl)) ?_)
  refine wpAny_newObj_type ?_ (by size_fits)
  refine raiseNew_hot ⟨hh, o1, vs1, Heap.get?_push_of_some _ (Heap.get?_push_of_some _ h1'), d1, c1⟩ (Nat.ne_of_lt (Heap.lt_size (Heap.get?_push_of_some _ h1'))) (Heap.get?_push_size _ rfl) rfl (by first | (simp; done) | (simp; omega) | (simp only [Array.size_append]; simp; omega)) ?_
  refine wpAny_bind (wpAny_isInstance (T := "StopIteration") (b := true) ⟨_, Heap.get?_update_self _ (Heap.get?_push_size _ rfl) rfl, rfl⟩ isSubtype_stop ?_)
  refine wpAny_pure (hQ _ fun b u hb e => ?_)
  have e2 : (s.heap.update it (Obj.mapFields (·.setIfInBounds 0 Value.none))).get? b = some u := by rw [Heap.get?_update_other _ _ (Ne.symm hb)]; exact e
  rw [Heap.get?_update_other _ _ (Nat.ne_of_gt (Heap.lt_size (Heap.get?_push_of_some _ e2)))]
  exact Heap.get?_push_of_some _ (Heap.get?_push_of_some _ e2)
theorem tupEnd_hot {it l x1 : Addr} {i : Nat} {items} {Q : Option Value → Shared → Prop} (hot : HotAt A x1 s.heap) (hne : x1 ≠ it) (hit : IsTupIter s.heap it l i) (hl : IsTup s.heap l items) (hx : items[i]? = none)
    (hQ : ∀ h', Heap.ExtBut it s.heap h' → Q none { s with heap := h' }) : wpAny (model prog w) A (pyNext (.ref it)) Q E s := by
  obtain ⟨o, ho, hc, hd⟩ := id hit
  obtain ⟨ol, hol, _, nl, hdl⟩ := hl
  unfold pyNext
  refine wpAny_bind (wpAny_attempt (wpAny_callSpecial?_slot (name := Str.ofString "__next__") hit.typeIs slot_tupleiter_next (wpAny_call_entry slot_tupleiter_next hit.typeIs entry_tupleiter_next ?_ (args_tupleiter_next _))))
  show wpAny _ _ (field (.ref it) 0 >>= _) _ _ s
  refine wpAny_bind (wpAny_field ho hd (x := .ref l) rfl ?_)
  show wpAny _ _ (if (Value.ref l == Value.none) = true then _ else _) _ _ s
  rw [if_neg (show ¬ ((Value.ref l == Value.none) = true) from Bool.false_ne_true)]
  show wpAny _ _ (field (.ref it) 1 >>= _) _ _ s
  refine wpAny_bind (wpAny_field ho hd (x := .int i 0) rfl ?_)
  show wpAny _ _ (seqItems? (.ref l) >>= _) _ _ s
  refine wpAny_bind (wpAny_seqItems hol hdl ?_)
  simp only [Int.toNat_natCast, hx]
  refine wpAny_bind (wpAny_rule (wpAny_bind (wpAny_setField ho hd (by simp) ?_)))
  obtain ⟨hh, o1, vs1, h1, d1, c1⟩ := hot
  have h1' : (s.heap.update it (Obj.mapFields (·.setIfInBounds 0 Value.none))).get? x1 = some o1 := by rw [Heap.get?_update_other _ _ (Ne.symm hne)]; exact h1
  show wpAny _ _ (newExc (.type "StopIteration") [] >>= _) _ _ _
  refine wpAny_bind ?_
  simp only [newExc, newTuple]
  refine wpAny_bind (wpAny_newObj_type ?_ (by size_fits))
  refine wpAny_bind (m := firstArgMember _ _) (wpAny_of_eq (a := Value.none) (by first | rfl | (simp only [firstArgMember]; rfl)) ?_)
  refine wpAny_newObj_type ?_ (by size_fits)
  refine raiseNew_hot ⟨hh, o1, vs1, Heap.get?_push_of_some _ (Heap.get?_push_of_some _ h1'), d1, c1⟩ (Nat.ne_of_lt (Heap.lt_size (Heap.get?_push_of_some _ h1'))) (Heap.get?_push_size _ rfl) rfl (by first | (simp; done) | (simp; omega) | (simp only [Array.size_append]; simp; omega)) ?_
  refine wpAny_bind (wpAny_isInstance (T := "StopIteration") (b := true) ⟨_, Heap.get?_update_self _ (Heap.get?_push_size _ rfl) rfl, rfl⟩ isSubtype_stop ?_)
  refine wpAny_pure (hQ _ fun b u hb e => ?_)
  have e2 : (s.heap.update it (Obj.mapFields (·.setIfInBounds 0 Value.none))).get? b = some u := by rw [Heap.get?_update_other _ _ (Ne.symm hb)]; exact e
  rw [Heap.get?_update_other _ _ (Nat.ne_of_gt (Heap.lt_size (Heap.get?_push_of_some _ e2)))]
  exact Heap.get?_push_of_some _ (Heap.get?_push_of_some _ e2)

theorem unpack_hot {x1 t : Addr} {items : Array Value} {targets : List (Bool × (Value → Sem Unit))} {Q : Unit → Shared → Prop} (hot : HotAt A x1 s.heap) (ht : IsTup s.heap t items)
    (hn : targets.length = items.size) (hstar : targets.findIdx? (·.1) = none)
    (h : ∀ h', Heap.ExtBut s.heap.objs.size s.heap h' → wpAny (model prog w) A (assignInOrder (targets.map (·.2)) items.toList) Q E { s with heap := h' }) :
    wpAny (model prog w) A (unpack (.ref t) targets) Q E s := by
  have hlt : t ≠ s.heap.objs.size := by obtain ⟨o, ho, _⟩ := ht; exact Nat.ne_of_lt (Heap.lt_size ho)
  obtain ⟨hh, o1, vs1, h1, d1, c1⟩ := hot
  have hx : x1 ≠ s.heap.objs.size := Nat.ne_of_lt (Heap.lt_size h1)
  unfold unpack
  rw [hn, hstar]
  refine wpAny_bind (wpAny_holding ?_)
  unfold unpackItems
  refine wpAny_bind ?_
  unfold notIterableAtAll
  refine wpAny_bind (wpAny_specialOf ht.typeIs slot_tuple_iter.lookup ?_)
  refine wpAny_pure ?_
  simp only [Bool.false_eq_true, if_false]
  refine wpAny_bind (wpAny_holding (iter_tuple ht ?_))
  refine wpAny_bind (wpAny_holding (draw_tuple hlt items.size 0 _ _ ⟨_, Heap.get?_push_size _ rfl, rfl, rfl⟩ (ht.push _) (by omega) fun h₁ hit₁ hs₁ => ?_))
  have hall : List.take items.size (List.drop 0 items.toList) = items.toList := by
    rw [List.drop_zero]; exact List.take_of_length_le (by simp)
  rw [hall, if_neg (by simp)]
  have ht₁ : IsTup h₁ t items := (ht.push _).extBut hs₁.extBut hlt
  have hot₁ : HotAt A x1 h₁ := ⟨hh, o1, vs1, hs₁.extBut _ _ hx (Heap.get?_push_of_some _ h1), d1, c1⟩
  refine wpAny_bind (wpAny_holding (tupEnd_hot hot₁ hx hit₁ ht₁ (by simp) fun h₂ he₂ => ?_))
  simp only [Option.isSome_none, Bool.false_eq_true, if_false]
  exact wpAny_pure (h h₂ fun b o hb e => he₂ b o hb (hs₁.extBut b o hb (Heap.get?_push_of_some _ e)))
end

/-! ### walks, targets -/
theorem hot_ne {X : Cx} {pins : List (Addr × Obj)} {σ : St} {H : Hp} {s : Shared} (c : HotC X) (I : Inv X pins σ H s) {b : Addr} {ob : Obj} (hb : s.heap.get? b = some ob) (hn : ∀ vs : Array Value, ob.data = .fields vs → vs[2]? ≠ some .none) : ∃ x1, HotAt X.A x1 s.heap ∧ x1 ≠ b := by
  obtain ⟨x1, h⟩ := c.at I
  refine ⟨x1, h, fun z => ?_⟩
  obtain ⟨_, o, vs, g, d, e⟩ := h
  rw [z, hb] at g
  cases g
  exact hn vs d e
theorem turnLH {P : Program} {w : World} {K : PySem.W.Frag} {tg : Expr} (a it : Addr) : TurnH P w K tg (Itl K a) [it] it (fun i h => h.IsListIter it a i) where
  mem := (turn_list (P := P) (w := w) (K := K) (tg := tg) a it).mem
  obj := (turn_list (P := P) (w := w) (K := K) (tg := tg) a it).obj
  keep := (turn_list (P := P) (w := w) (K := K) (tg := tg) a it).keep
  self := (turn_list (P := P) (w := w) (K := K) (tg := tg) a it).self
  item := by
    intro X hP hw hK hc i pins s σ H E I hf stt ⟨xs, x, hq, hx⟩
    subst hP hw hK
    obtain ⟨its, rv, pl, hz⟩ := I.list hq
    obtain ⟨u, hu, ru⟩ := rv.get hx
    obtain ⟨f0, f1, f2, f3, f4, f5⟩ := hf it (List.mem_singleton_self it)
    refine wpAny_pyNext_list_item stt pl.isList (x := u) (by simpa using hu) fun h2 st2 sb => ?_
    obtain ⟨o, e, c, d⟩ := id st2
    have J : Inv X pins σ H { s with heap := h2 } := I.turned (t' := s.toks) (fun b o hb q => (sb.2 b hb).trans q) f0 f1 f3 f4 f5
    exact ⟨u, rfl, go_of (s := { s with heap := h2 }) e c d (by decide) ⟨x, H, J, ru, ⟨rfl, fun ys hy => (I.list_inj hy hq).symm ▸ hx⟩, st2, fun b hb => (hf b hb).1⟩⟩
  done := by
    intro X hP hw hK hc i pins s σ H E I hf stt ⟨xs, hq, hx⟩
    subst hP hw hK
    obtain ⟨its, rv, pl, hz⟩ := I.list hq
    obtain ⟨f0, f1, f2, f3, f4, f5⟩ := hf it (List.mem_singleton_self it)
    have hl := rv.length
    obtain ⟨oi, ei, ci, di⟩ := id stt
    obtain ⟨x1, hot, hne⟩ := hot_ne hc I ei (fun vs q => by
      rw [di] at q
      cases q
      simp)
    exact listEnd_hot hot hne stt pl.isList (by simp; omega) fun h2 eb => ⟨rfl, I.turned (t' := s.toks) (fun b o hb q => eb b o hb q) f0 f1 f3 f4 f5⟩
theorem pih_list {X : Cx} {tg e : Expr} {te : TE} (he : PE X e te) : PIH X tg e (fun σ H R => te σ H fun x H1 => ∃ a xs, x = .ref a ∧ SqL X.K H1 a xs ∧ R (Itl X.K a) H1) := by
  refine ⟨fun pins s σ H R I h => thn (he.run pins s σ H _ I h) fun u s1 ⟨x, H1, I1, rx, a, xs, ex, hq, q⟩ => ?_⟩
  subst ex
  obtain rfl : u = .ref a := rx
  obtain ⟨its, rv, pl, hz⟩ := I1.list hq
  refine wpAny_pyIter_list pl.isList ?_
  exact ⟨s1.heap.objs.size, [s1.heap.objs.size], _, _, H1, rfl, I1.kept (t' := s1.toks) fun b o q => Heap.get?_push_of_some _ q, turnLH a _, ⟨_, Heap.get?_push_size _ rfl, rfl, rfl⟩, fun b hb => by
    obtain rfl : b = s1.heap.objs.size := by simpa using hb
    exact I1.fpOk (Nat.le_refl _) (I1.hok.fresh (Nat.le_refl _)), q⟩
theorem pg_tupH {X : Cx} {es : List Expr} {k : Nat} {t : L2.TGs} {n : Nat} {pos : Pos} (hc : HotC X) (h : PGs X es t) (hn : (assignEach es X.env).length = n := by rfl) (hst : (assignEach es X.env).findIdx? (·.1) = none := by rfl) : PG X (.Tuple es k pos) (gTup X.K n t) := by
  refine ⟨fun pins s σ H v u Q I r ⟨a, xs, ev, hq, hl, hw⟩ => ?_⟩
  subst ev
  obtain rfl : u = .ref a := r
  obtain ⟨its, rv, ht, hz⟩ := I.tuple hq
  obtain ⟨x1, hot⟩ := hc.at I
  rw [assign_Tuple]
  refine wpAny_bind (wpAny_standAt (unpack_hot hot ht (by simp [hn, ← hl, rv.length]) hst fun h2 hx => ?_))
  have J : Inv X pins σ H { s with heap := h2 } := I.kept (t' := s.toks) fun b o q => hx b o (Nat.ne_of_lt (Heap.lt_size q)) q
  exact h.run pins _ σ H xs _ Q J (by simpa using rv) hw

/-! ### comprehensions -/
abbrev blkH (X : Cx) (s : Shared) (H : Hp) (scope : Scope) (cenv : Env) (fp : List Addr) : Cx := { X.blk s H scope cenv fp with pn := X.pn }
theorem blk_pins {X : Cx} {pins : List (Addr × Obj)} {σ σ2 : St} {H H2 : Hp} {s s1 s2 : Shared} {scope : Scope} {ce : Env} {fp : List Addr} (I : Inv X pins σ H s) (J : Inv (X.blk s1 H2 scope ce fp) [] σ2 H2 s2) (kp : ∀ b o, s.heap.get? b = some o → s2.heap.get? b = some o)
    (kn : ∀ b o, s.heap.get? b = some o → H b = none → H2 b = none) (hl : s.heap.objs.size ≤ ce.locals) : Inv (blkH X s1 H2 scope ce fp) [] σ2 H2 s2 := by
  refine ⟨⟨J.ok.mod, J.ok.kind, J.ok.glob, J.ok.blt, J.ok.above, J.ok.inj, J.ok.has, J.ok.cab, J.ok.hd, J.ok.frames, J.ok.stk, J.ok.exf, J.ok.bs, J.ok.bsz, J.ok.noex, J.ok.exfs, J.ok.funs, J.ok.frf⟩, J.os, J.bare, J.base, J.loc, J.cell, J.free, J.freeC, fun q hq => ?_, J.hok, J.len⟩
  have hq2 : q ∈ X.pn := by simpa using (show q ∈ X.pn ++ ([] : List (Addr × Obj)) from hq)
  obtain ⟨p1, p2, p3, p4, p5⟩ := I.pin q (List.mem_append_left _ hq2)
  refine ⟨kp _ _ p1, kn _ _ p1 p2, Nat.ne_of_lt (Nat.lt_of_lt_of_le (Heap.lt_size p1) hl), fun hm => ?_, p5⟩
  rcases List.mem_cons.mp (I.stkSub _ hm) with z | z
  · exact p3 z
  · exact p4 z
theorem lc_coreH {X : Cx} {pins : List (Addr × Obj)} {s : Shared} {σ : St} {H : Hp} {Q : VK} {elt tg iter : Expr} {ifs : List Expr} {scope : Scope} {own : List (Str × Nat)} {pos pos' : Pos} {wi : TI} {g : TG} {tt : TT} {te : TE} {use : Option (Value → Sem Unit)} {Qf : Value → Shared → Prop}
    (hc : HotC X) (hN : X.N.Nodup) (I : Inv X pins σ H s) (hi : PIH X tg iter wi) (ok : BlkOk X.N X.env.scope scope own)
    (hg : ∀ (s : Shared) (H : Hp) (C : Addr) (cl : List (Str × Addr)) (fp : List Addr), PG (blkH X s H scope (compEnvC scope cl C X.env) fp) tg g)
    (ht : ∀ (s : Shared) (H : Hp) (C : Addr) (cl : List (Str × Addr)) (fp : List Addr), PTs (blkH X s H scope (compEnvC scope cl C X.env) fp) ifs tt)
    (he : ∀ (s : Shared) (H : Hp) (C : Addr) (cl : List (Str × Addr)) (fp : List Addr), PE (blkH X s H scope (compEnvC scope cl C X.env) fp) elt te)
    (hs : ∀ x, foldedSetIterable iter X.env x = pure x) (h : tLc wi g tt te (own.map (·.2)) σ H Q)
    (hRR : ∀ D C t m H', Inv X pins σ H' t → Q (.ref D) H' → t.heap.Ns C m → FpOk X pins H' C → compPost (model X.prog X.w) X.A X.xe use Qf (.ref D) C (.ok .next) t) :
    wpAny (model X.prog X.w) X.A (comprehension (.ListComp elt [⟨tg, iter, ifs, 0⟩] scope pos) scope X.env pos' (newList []) false (eval iter X.env) use) Qf X.xe s := by
  have has : ∀ y ∈ scope.names, y.2 = .free → ∃ c, X.env.cells.lookup y.1 = some c := fun y hy e => (ok.free y hy e).elim (fun k => I.ok.has _ (.inl k)) fun k => I.ok.has _ (.inr k)
  refine wpAny_comprehension_free (use := use) rfl hs (closure_ok has) ok.kind (fun y hy e => (ok.uniq y hy).trans (by rw [e]))
    (thn (hi.run pins s σ H _ I h) fun xv sa hx => thn hx fun itv sb ⟨it, fp, tn, J, Hb, e, Ib, T, stb, fb, q⟩ => ?_)
  subst e
  refine wpAny_newObj_type (newEnv_comp ?_) (Nat.zero_le _)
  generalize hD : sb.heap.objs.size = D
  have hDn : Hb D = none := Ib.hok.fresh (Nat.le_of_eq hD)
  obtain ⟨W, ⟨m0, w0⟩, turn⟩ := q D hDn
  generalize hsc : ({ sb with heap := sb.heap.push { cls := .type "list", data := .seq ([] : List Value).toArray } } : Shared) = sc
  have hc1 : sc.heap = sb.heap.push { cls := .type "list", data := .seq ([] : List Value).toArray } := by rw [← hsc]
  have Ic : Inv X pins σ (upd Hb D (.lst [])) sc := by
    rw [← hsc]
    refine Ib.laid (t' := sb.toks) (fun b o e => Heap.get?_push_of_some _ e) (Nat.le_of_eq hD) ⟨Nat.zero_le _, [], 0, .nil, ?_⟩
    rw [← hD]
    exact Heap.get?_push_size _ rfl
  have lt : ∀ b ∈ fp, b < sb.heap.objs.size := fun b hb => (T.obj _ _ stb b hb).elim fun o e => Heap.lt_size e.1
  have fc : ∀ b ∈ fp, FpOk X pins (upd Hb D (.lst [])) b ∧ b < sc.heap.objs.size := fun b hb =>
    ⟨⟨by rw [upd_ne (by rw [← hD]; exact Nat.ne_of_lt (lt b hb))]; exact (fb b hb).1, (fb b hb).2⟩, by rw [hc1, Heap.size_push]; exact Nat.lt_succ_of_lt (lt b hb)⟩
  have stc : tn 0 sc.heap := T.keep _ _ _ stb fun b _ o e => by rw [hc1]; exact Heap.get?_push_of_some _ e
  have Id0 := block_start Ic ok hN fc
  have Id := blk_pins Ic Id0 (fun b o e => pushCells_keeps _ _ _ _ (Heap.get?_push_of_some _ e)) (fun b o e n => n) (Nat.le_refl _)
  have pg := hg sc (upd Hb D (.lst [])) sc.heap.objs.size (cellsFrom (sc.heap.objs.size + 1) scope.names (cloFrom X.env.cells scope.names [])) fp
  have pt := ht sc (upd Hb D (.lst [])) sc.heap.objs.size (cellsFrom (sc.heap.objs.size + 1) scope.names (cloFrom X.env.cells scope.names [])) fp
  have pe := he sc (upd Hb D (.lst [])) sc.heap.objs.size (cellsFrom (sc.heap.objs.size + 1) scope.names (cloFrom X.env.cells scope.names [])) fp
  show codeAny _ _ (.compStart (.ListComp elt [⟨tg, iter, ifs, 0⟩] scope pos) 0 (.ref it) (.ref D) (compEnvC scope (cellsFrom (sc.heap.objs.size + 1) scope.names (cloFrom X.env.cells scope.names [])) sc.heap.objs.size X.env)) (compPost (model X.prog X.w) X.A X.xe use Qf (.ref D) sc.heap.objs.size) { sc with heap := pushCells (sc.heap.push { cls := .type "dict", data := .dict #[] }) scope.names }
  have nfp : ∀ b ∈ fp, (upd Hb D (.lst [])) b = none := fun b hb => (fc b hb).1.1
  generalize hce : compEnvC scope (cellsFrom (sc.heap.objs.size + 1) scope.names (cloFrom X.env.cells scope.names [])) sc.heap.objs.size X.env = ce at Id pg pt pe ⊢
  have cL : ce.locals = sc.heap.objs.size := by subst hce; rfl
  generalize hHc : upd Hb D (.lst []) = Hc at Ic Id pg pt pe w0 nfp fc
  generalize hsd : ({ sc with heap := pushCells (sc.heap.push { cls := .type "dict", data := .dict #[] }) scope.names } : Shared) = sd at Id ⊢
  have std : tn 0 sd.heap := T.keep _ _ _ stc fun b _ o e => by rw [← hsd]; exact pushCells_keeps _ _ _ _ (Heap.get?_push_of_some _ e)
  have hcB : HotC (blkH X sc Hc scope ce fp) := hc
  have stat : ∀ {σ' : St} {H' : Hp} {t : Shared}, Inv (blkH X sc Hc scope ce fp) [] σ' H' t → (∀ b ∈ fp, H' b = none) → (∀ b ∈ fp, ∃ o, t.heap.get? b = some o ∧ ∀ p ∈ X.pn, p.1 ≠ b) → ∀ b ∈ fp, FpOk (blkH X sc Hc scope ce fp) [] H' b := fun {σ' H' t} K1 hn hp b hb =>
    ⟨hn b hb, (K1.ok.exf b hb).1, K1.ok.exfs b hb, .inl hb, fun x c e => (K1.ok.exf b hb).2 x c e, fun p hq => by
      obtain ⟨_, _, k⟩ := hp b hb
      exact k p (by simpa using (show p ∈ X.pn ++ ([] : List (Addr × Obj)) from hq))⟩
  have apart : ∀ b ∈ fp, ∀ p ∈ X.pn, p.1 ≠ b := fun b hb p hp => by
    obtain ⟨_, _, _, _, _, k⟩ := (fc b hb).1
    exact k p (List.mem_append_left _ hp)
  have stat2 : ∀ {σ' : St} {H' : Hp} {t : Shared} {i : Nat}, Inv (blkH X sc Hc scope ce fp) [] σ' H' t → (∀ b ∈ fp, H' b = none) → tn i t.heap → ∀ b ∈ fp, FpOk (blkH X sc Hc scope ce fp) [] H' b := fun {σ' H' t i} K1 hn st1 =>
    stat K1 hn fun b hb => (T.obj _ _ st1 b hb).elim fun o e => ⟨o, e.1, apart b hb⟩
  have loop : codeAny (model X.prog X.w) X.A (.compLoop (.ListComp elt [⟨tg, iter, ifs, 0⟩] scope pos) 0 (.ref it) (.ref D) ce) (compPost (model X.prog X.w) X.A X.xe use Qf (.ref D) sc.heap.objs.size) sd := by
    refine compLoop_any (fun n t => ∃ i H', Inv (blkH X sc Hc scope ce fp) [] (wipe σ (own.map (·.2))) H' t ∧ tn i t.heap ∧ (∀ b ∈ fp, H' b = none) ∧ W i n H') ?_ m0 ⟨0, Hc, Id, std, nfp, w0⟩
    rintro n s5 ⟨i, H5, I5, st5, n5, w5⟩
    rcases turn i n H5 w5 with ⟨stop, qq⟩ | ⟨go, Nx, hNx, step⟩
    · have td := T.done (blkH X sc Hc scope ce fp) rfl rfl rfl hcB i [] s5 _ H5 (fun _ _ => False) I5 (stat2 I5 n5 st5) st5 stop
      refine thnF td fun r s6 ⟨hr, I6⟩ => ?_
      subst hr
      have I7 : Inv X pins σ H5 s6 := Ic.call' (ch := fp) I6.os I6.base I6.hok I6.bare fun b hb => ⟨(fc b hb).1.2.2.2.1, (fc b hb).1.2.1, (fc b hb).1.2.2.2.2.1, (fc b hb).1.2.2.2.2.2⟩
      have nC : H5 sc.heap.objs.size = none := cL ▸ (show H5 ce.locals = none from I6.free)
      obtain ⟨m, hn, _⟩ := I6.loc
      exact hRR D sc.heap.objs.size s6 m H5 I7 qq (cL ▸ (show s6.heap.Ns ce.locals m from hn)) (Ic.fpOk (Nat.le_refl _) nC)
    · have ti := T.item (blkH X sc Hc scope ce fp) rfl rfl rfl hcB i [] s5 _ H5 (fun _ _ => False) I5 (stat2 I5 n5 st5) st5 go
      refine thnF ti fun r s6 ⟨u, hr, h6⟩ => ?_
      subst hr
      refine thnF h6 fun _ s7 ⟨x, H7, I7, r7, y7, st7, n7⟩ => ?_
      have K7 := I7.pinned (stat2 I7 n7 st7) (T.obj _ _ st7)
      refine thnF (pg.run _ s7 _ H7 x u _ K7 r7 (step x H7 y7)) fun _ s8 ⟨σ8, H8, I8, hw8, q8⟩ => ?_
      refine thnF (pt.run _ s8 σ8 H8 _ I8 q8) fun b s9 ⟨H9, I9, q9⟩ => ?_
      have fin : ∀ {t : Shared} {H' : Hp}, Inv (blkH X sc Hc scope ce fp) ([] ++ pinsAt fp s7.heap) σ8 H' t → Nx H' → ∃ m, m < n ∧ ∃ i H', Inv (blkH X sc Hc scope ce fp) [] (wipe σ (own.map (·.2))) H' t ∧ tn i t.heap ∧ (∀ b ∈ fp, H' b = none) ∧ W i m H' := fun {t H'} K1 nx => by
        obtain ⟨m', hm, w'⟩ := hNx H' nx
        have pin2 : ∀ b ∈ fp, ∀ o, s7.heap.get? b = some o → t.heap.get? b = some o ∧ H' b = none := fun b hb o e => by
          obtain ⟨z1, z2, _⟩ := K1.pin (b, o) (List.mem_append_right _ (List.mem_append_right _ (mem_pinsAt hb e)))
          exact ⟨z1, z2⟩
        have hl : (wipe σ (own.map (·.2))).length = σ8.length := by rw [← hw8, wipe_length]
        refine ⟨m', hm, i + 1, H', (K1.unpinned (pins := [])).weak hl (fun j v e => (wipe_some (hw8 ▸ e)).1), T.keep _ _ _ st7 fun b hb o e => (pin2 b hb o e).1, fun b hb => ?_, w'⟩
        obtain ⟨o, e, _⟩ := T.obj _ _ st7 b hb
        exact (pin2 b hb o e).2
      cases b with
      | false =>
        simp only [Bool.false_eq_true, if_false] at q9 ⊢
        exact fin I9 q9
      | true =>
        simp only [if_true] at q9 ⊢
        refine thnF (pe.run _ s9 σ8 H9 _ I9 q9) fun z sx ⟨yv, Hx, Ix, rx, acc, hDx, hzx, nx⟩ => ?_
        exact app_ok (X := blkH X sc Hc scope ce fp) Ix hDx hzx rx fun sy Iy => fin Iy nx
  exact codeAny_compStart_list loop (T.self X.A 0 _ _ _ std loop)
theorem pe_lcH {X : Cx} {elt tg iter : Expr} {ifs : List Expr} {scope : Scope} {own : List (Str × Nat)} {pos : Pos} {wi : TI} {g : TG} {tt : TT} {te : TE} (hc : HotC X) (hN : X.N.Nodup) (hi : PIH X tg iter wi) (ok : BlkOk X.N X.env.scope scope own)
    (hg : ∀ (s : Shared) (H : Hp) (C : Addr) (cl : List (Str × Addr)) (fp : List Addr), PG (blkH X s H scope (compEnvC scope cl C X.env) fp) tg g)
    (ht : ∀ (s : Shared) (H : Hp) (C : Addr) (cl : List (Str × Addr)) (fp : List Addr), PTs (blkH X s H scope (compEnvC scope cl C X.env) fp) ifs tt)
    (he : ∀ (s : Shared) (H : Hp) (C : Addr) (cl : List (Str × Addr)) (fp : List Addr), PE (blkH X s H scope (compEnvC scope cl C X.env) fp) elt te) (hs : ∀ x, foldedSetIterable iter X.env x = pure x := by intro _; rfl) :
    PE X (.ListComp elt [⟨tg, iter, ifs, 0⟩] scope pos) (tLc wi g tt te (own.map (·.2))) := by
  refine ⟨fun pins s σ H Q I h => ?_⟩
  rw [eval_ListComp]
  refine lc_coreH hc hN I hi ok hg ht he hs h fun D C t m H' J q hn ⟨f0, f1, f2, f3, f4, f5⟩ => ⟨m, hn, fun h2 sb => ?_⟩
  exact ⟨.ref D, H', J.turned (t' := t.toks) (fun b o hb e => (sb.2 b hb).trans e) f0 f1 f3 f4 f5, rfl, q⟩
section
variable {X : Cx} {A : Ax X.K} {elt tg iter : Expr} {ifs : List Expr} {scope : Scope} {own : List (Str × Nat)} {pos : Pos} {wi : WIx} {g : Tgt} {graw : TG} {wc : WTx} {we : WEx}
theorem n_lcH (hc : HotC X) (hN : X.N.Nodup) (hi : PIH X tg iter (TIx A wi)) (ok : BlkOk X.N X.env.scope scope own) (hv : ∀ v ∈ own.map (·.2), v < A.B.n ∧ (A.B.S ≠ none → v ≠ 0)) (hraw : RawG X.K g graw (own.map (·.2)) A.B.n A.B.S)
    (hg : ∀ (s : Shared) (H : Hp) (C : Addr) (cl : List (Str × Addr)) (fp : List Addr), PG (blkH X s H scope (compEnvC scope cl C X.env) fp) tg graw)
    (ht : ∀ (Da : Addr) (o : HO) (s : Shared) (H : Hp) (C : Addr) (cl : List (Str × Addr)) (fp : List Addr), PTs (blkH X s H scope (compEnvC scope cl C X.env) fp) ifs (TTx (A.hid Da o) wc))
    (he : ∀ (Da : Addr) (o : HO) (s : Shared) (H : Hp) (C : Addr) (cl : List (Str × Addr)) (fp : List Addr), PE (blkH X s H scope (compEnvC scope cl C X.env) fp) elt (TEx (A.hid Da o) we))
    (hs : ∀ x, foldedSetIterable iter X.env x = pure x := by intro _; rfl) : PE X (.ListComp elt [⟨tg, iter, ifs, 0⟩] scope pos) (TEx A (wLc wi g wc we (own.map (·.2)))) :=
  pe_imp (pe_lcH hc hN hi ok hg (fun s H C cl fp => pts_hid fun Da o _ => ht Da o s H C cl fp) (fun s H C cl fp => pe_hid fun Da o _ => he Da o s H C cl fp) hs) fun σ H Q h => lc_read hv hraw h
def listOf : Dt → Option (List Dt)
  | .lst xs => some xs
  | _ => none
def wItL (w : WEx) : WIx := fun e => bnd (w e) fun d e1 => pur (listOf d) e1
theorem n_itH {e : Expr} {w : WEx} (he : PE X e (TEx A w)) : PIH X tg e (TIx A (wItL w)) :=
  ⟨fun pins s σ H R I ⟨F, en, Rr, h⟩ => (pih_list he).run pins s σ H R I ⟨F, en, Rr, (FinG.bind (R := Rep X.K) h).imp fun v H1 ⟨F1, d, e1, s1, R1, r1, h1⟩ => by
    cases hd : listOf d with
    | none => rw [hd] at h1; exact h1.elim
    | some xs =>
      rw [hd] at h1
      unfold listOf at hd
      split at hd
      · cases hd
        obtain ⟨a, vs, rfl, f, q, l⟩ := rep_lst.mp r1
        exact ⟨a, vs, rfl, SqL.of (R1.fh _ _ f), h1 F1 H1 _ (Same.refl F1) R1 ⟨isIt_list f q, by rw [q.len]; exact l⟩⟩
      · cases hd⟩⟩
end
end Ly
set_option maxHeartbeats 2000000
/-! Ly12: lambdas without parameters handed to a def that tells what comes: a value in a list, or an error's name. -/
namespace Ly
open PySem PySem.Spec PyProof.Rows L2 HotX L2H LamX

/-! ### a lambda is made: all but the tables of T stays -/
def ExtT (T : List (Addr × Str)) (H H' : Hp) : Prop := ∀ b o, H b = some o → (∀ q, (b, q) ∉ T) → H' b = some o
section
variable {K : PySem.W.Frag} {B : Bs} {F H H1 : Hp} {σ : St} {e : En}
theorem Rl.extT (R : Rl K B F H σ e) (x : ExtT B.T H H1) (tb : LamX.Tabs B.T H1) : Rl K B F H1 σ e := by
  have fin : ∀ b o, F b = some o → ∀ q, (b, q) ∉ B.T := fun b o hb q hq => by
    have := R.tFn hq
    rw [show F b = none from this] at hb; cases hb
  have otb : ∀ b o, H b = some o → (∀ ps, o ≠ .tbl ps) → ∀ q, (b, q) ∉ B.T := fun b o hb ho q hq => by
    obtain ⟨ps, h1⟩ := R.tab hq
    rw [show H b = some (.tbl ps) from h1] at hb
    exact ho ps (Option.some.inj hb).symm
  refine ⟨fun b o hb => x b o (R.fh b o hb) (fin b o hb), R.f0, fun b o hb hs ht => x b o (R.h0 b o hb hs ht) ht, fun b o hb => ?_, R.nf, tb, R.tF, R.len, R.ln, fun i s hi => ?_, R.own, R.pin, R.pin0⟩
  · obtain ⟨o', ho⟩ := R.th b o hb
    by_cases z : ∃ q, (b, q) ∈ B.T
    · obtain ⟨q, hq⟩ := z
      obtain ⟨ps, h1, _⟩ := tb _ hq
      exact ⟨_, h1⟩
    · exact ⟨o', x b o' ho fun q hq => z ⟨q, hq⟩⟩
  · obtain ⟨v, a, b⟩ := R.sl i s hi
    refine ⟨v, a, b.mono (Same.refl F) fun q hq ho => ?_⟩
    subst hq
    obtain ⟨z1, ⟨ob, z2, z3⟩, _⟩ := b.at ho
    exact ⟨z1, (x q ob z2 (otb q ob z2 z3)).trans z2.symm⟩
end
section
variable {X : Cx} {pins : List (Addr × Obj)} {σ : St} {H : Hp} {s : Shared}
theorem lam_makeT {T : List (Addr × Str)} {c P : Addr} {params : Arguments} {body : Expr} {scope : Scope} {pos : Pos} {E : Value → Shared → Prop} {Q : Value → Shared → Prop} (I : Inv X pins σ H s) (TB : TabB X.base X.mg c P) (hcode : X.env.code = .ref c)
    (hm : (P, X.env.qual ++ "<lambda>") ∈ T) (hu : ∀ p ∈ T, p.1 = P → p.2 = X.env.qual ++ "<lambda>") (hT : Tabs T H) (hdef : defaultsOf params X.env = ([], [])) (hfree : ∀ y ∈ scope.names, y.2 = .free → ∃ c, X.env.cells.lookup y.1 = some c)
    (h : ∀ (f c1 : Addr) (pm ctv : Value) (H1 : Hp) (t : Shared), Inv X pins σ H1 t → ExtT T H H1 → Tabs T H1 →
      t.heap.get? f = some (PySem.W.kla_obj "<lambda>" (X.env.qual ++ "<lambda>") params body scope (cloFrom X.env.cells scope.names []) pm c1 ctv) → H1 f = none → f ∉ frs X.stack → H1 c1 = some (CodeO c1 (X.env.qual ++ "<lambda>")) → Q (.ref f) t) :
    wpAny (model X.prog X.w) X.A (eval (.Lambda params body scope pos) X.env) Q E s := by
  obtain ⟨ps, hP, tri, am⟩ := hT _ hm
  have atP : s.heap.get? P = some { cls := .none, data := .fields ps } := I.hok P _ hP
  have bn : s.heap.BuiltinsAt X.mg P := TB.bm.keeps I.bk
  have out : ∀ {g : Addr}, s.heap.objs.size ≤ g → g ∉ frs X.stack := fun {g} hg z => (List.mem_cons.mp (I.stkSub _ z)).elim (fun e => Nat.lt_irrefl _ (Nat.lt_of_lt_of_le (e ▸ I.lt) hg)) fun e => I.nofs hg e
  refine PySem.W.kla_eval hdef ?_
  cases hc : codeAmong pos ps.toList with
  | some cv =>
    obtain ⟨c1, e, hco⟩ := am pos cv hc
    subst e
    refine PySem.W.kla_makeFunctionHit (mg := X.mg) (c := c) (P := P) (ps := ps) (closure_ok hfree) I.ok.glob (I.mod.glob.keeps I.bk) hcode (TB.code.keeps I.bk) atP tri hc bn fun ctv g tk hx hsz => ?_
    have J : Inv X pins σ H { s with heap := g.push (PySem.W.kla_obj "<lambda>" (X.env.qual ++ "<lambda>") params body scope (cloFrom X.env.cells scope.names []) ((X.mg "__name__").getD .none) c1 ctv), toks := tk } :=
      I.kept fun b o e => Heap.get?_push_of_some _ (hx b o e)
    exact h g.objs.size c1 _ ctv H _ J (fun b o e _ => e) hT (Heap.get?_push_size _ rfl) (I.hok.fresh hsz) (out hsz) hco
  | none =>
    refine PySem.W.kla_makeFunction (mg := X.mg) (c := c) (P := P) (ps := ps) (closure_ok hfree) I.ok.glob (I.mod.glob.keeps I.bk) hcode (TB.code.keeps I.bk) atP tri hc TB.gP bn fun c1 ctv g tk hx hge hlt hrec htb => ?_
    obtain ⟨c2, oc, vs, t, e2, hoc, hd, hv⟩ := hrec
    cases e2
    have hsz : s.heap.objs.size ≤ g.objs.size := Nat.le_trans hge (Nat.le_of_lt hlt)
    have nC : H c1 = none := I.hok.fresh hge
    have nPc : P ≠ c1 := ne_of_none hP nC
    have J := inv_table (t' := tk) (more := #[rawInt pos.line, rawInt pos.col, .ref c1]) (h' := g.push (PySem.W.kla_obj "<lambda>" (X.env.qual ++ "<lambda>") params body scope (cloFrom X.env.cells scope.names []) ((X.mg "__name__").getD .none) c1 ctv)) I hP
      (fun b o hb e => Heap.get?_push_of_some _ (hx b o hb e)) (Heap.get?_push_of_some _ htb) hge ⟨oc, vs, t, Heap.get?_push_of_some _ hoc, hd, hv⟩
    have eL : (ps ++ #[rawInt pos.line, rawInt pos.col, .ref c1]).toList = ps.toList ++ [rawInt pos.line, rawInt pos.col, .ref c1] := by simp
    have keep : ∀ b o, H b = some o → b ≠ P → upd (upd H P (.tbl (ps ++ #[rawInt pos.line, rawInt pos.col, .ref c1]))) c1 (CodeO c1 (X.env.qual ++ "<lambda>")) b = some o := fun b o e n => by
      rw [upd_ne (ne_of_none e nC), upd_ne n]; exact e
    have codes : ∀ {b q : _}, H b = some (CodeO b q) → b ≠ P := fun {b q} e z => by
      rw [z, hP] at e
      exact codeO_ne ps (Option.some.inj e).symm
    refine h g.objs.size c1 _ ctv _ _ J (fun b o e n => keep b o e fun z => n _ (z ▸ hm)) (fun p hp => ?_) (Heap.get?_push_size _ rfl) ?_ (out hsz) upd_same
    · by_cases hb : p.1 = P
      · rw [hu p hp hb, hb]
        refine ⟨_, (upd_ne nPc).trans upd_same, eL ▸ PySem.TriplesOk_snoc _ _ _ _ tri, fun p' cv hcv => ?_⟩
        rw [eL] at hcv
        rcases among_app _ tri hcv with z | z
        · obtain ⟨c0, e1, e2⟩ := am p' cv z
          exact ⟨c0, e1, keep _ _ e2 (codes e2)⟩
        · exact ⟨c1, z, upd_same⟩
      · obtain ⟨qs, a1, a2, a3⟩ := hT p hp
        refine ⟨qs, keep _ _ a1 hb, a2, fun p' cv hcv => ?_⟩
        obtain ⟨c0, e1, e2⟩ := a3 p' cv hcv
        exact ⟨c0, e1, keep _ _ e2 (codes e2)⟩
    · rw [upd_ne (Nat.ne_of_gt hlt), upd_ne (Nat.ne_of_gt (Nat.lt_of_lt_of_le (Heap.lt_size atP) hsz))]
      exact I.hok.fresh hsz
end
/-! ### the lambda's call -/
def lamN (X : Cx) (A : Around) (outer : List Env) (s : Shared) (H : Hp) (E : XK) (scope : Scope) (f c1 : Addr) : Cx :=
  (lamCx X A outer s H E scope f c1).tr [] (fun e t => wpAny (model X.prog X.w) (A.deeper (lamEnv X scope s.heap.objs.size f c1)) (leaving (lamEnv X scope s.heap.objs.size f c1) e) (fun _ t2 => L2N.CX X.prog X.w outer H s E e t2) (fun e2 t2 => L2N.CX X.prog X.w outer H s E e2 t2) t)
section
variable {X : Cx} {pins : List (Addr × Obj)} {σ : St} {H HZ : Hp} {s s1 : Shared}
theorem takesL {A : Around} {outer : List Env} {E : XK} {scope : Scope} {f c1 : Addr} : L2N.Takes (lamN X A outer s H E scope f c1) (fun cls d _ H => E cls d H) := L2N.takes_of rfl rfl rfl rfl
theorem passL {A : Around} {outer : List Env} {E : XK} {scope : Scope} {f c1 : Addr} : Passes (L2N.CX (lamN X A outer s H E scope f c1).prog (lamN X A outer s H E scope f c1).w) (lamN X A outer s H E scope f c1) E := L2N.passes_call takesL fun _ _ _ _ h => h
theorem act_n {Ng : List Str} {qg : Str} {sg : Scope} {g f c1 : Addr} {cdg pm ctv : Value} {params : Arguments} {body : Expr} {scope : Scope} {k i : Nat} {a : Str} {pn : List (Addr × Obj)} {xe : Value → Shared → Prop} {W : WX} {E Eg : XK} {tb : TE} {p1 p2 : Pos}
    (I : Inv X pins σ H s) (L : LamS X.env.scope scope) (hf : s.heap.get? f = some (PySem.W.kla_obj "<lambda>" (X.env.qual ++ "<lambda>") params body scope (cloFrom X.env.cells scope.names []) pm c1 ctv)) (hfn : H f = none) (hfr : f ∉ frs X.stack)
    (hbind : bindArgs (PySem.W.kla_fn "<lambda>" (X.env.qual ++ "<lambda>") params body scope (cloFrom X.env.cells scope.names []) pm (.ref c1) ctv) ⟨[], []⟩ = pure [])
    (tk : L2N.Takes ((cxOf (L2N.CX X.prog X.w) X.prog X.w X.K X.mg X.base Ng qg sg g cdg X.A X.stack s H Eg).tr pn xe) W) (hW : ∀ cls d σ' H', E cls d H' → W cls d σ' H') (hr : Room (k + 1) (X.A.deeper (envOfC qg sg s.heap.objs.size g cdg)))
    (hbody : ∀ (A : Around) (outer : List Env) (s : Shared) (H : Hp), Room k (A.deeper (lamEnv X scope s.heap.objs.size f c1)) → PE (lamN X A outer s H E scope f c1) body tb)
    (hN : Ng[i]? = some a) (hv : Vis sg a) (hd : (a == ("__debug__" : Str)) = false := by decide) (hcd : (a == ("__classdict__" : Str)) = false := by decide) :
    PE ((cxOf (L2N.CX X.prog X.w) X.prog X.w X.K X.mg X.base Ng qg sg g cdg X.A X.stack s H Eg).tr pn xe) (.Call (.Name a p1) [] [] p2)
      (fun σZ HZ Q => σZ[i]? = some (some (.ref f)) ∧ HZ c1 = some (CodeO c1 (X.env.qual ++ "<lambda>")) ∧ tb σ HZ Q) := by
  refine ⟨fun pinsZ sZ σZ HZ Q IZ ⟨hs, hc, ht⟩ => ?_⟩
  refine wpAny_Call_Name_kw (thn ((pe_var (pos := p1) (i := i) hN hv hd hcd).run pinsZ sZ σZ HZ (fun v H1 => v = .ref f ∧ H1 = HZ) IZ ⟨.ref f, hs, rfl, rfl⟩) fun u sy ⟨v, H1, I1, r1, ev, eH⟩ => ?_)
  subst ev eH
  obtain rfl : u = Value.ref f := r1
  have atF : sy.heap.get? f = some (PySem.W.kla_obj "<lambda>" (X.env.qual ++ "<lambda>") params body scope (cloFrom X.env.cells scope.names []) pm c1 ctv) := I1.base.keep f _ hf hfn hfr (fun z => nomatch (show f ∈ ([] : List Addr) from z))
  refine PySem.W.callWith_F0 ⟨_, _, _, _, atF⟩ ?_
  have un : Un (frs X.stack) [] H H1 s.heap sy.heap := I1.base
  obtain ⟨⟨oc, vs, t, hoc, hdc, hvc⟩, _, _⟩ := I1.hok c1 _ hc
  have rc : codeAny (model X.prog X.w) (X.A.deeper (envOfC qg sg s.heap.objs.size g cdg)) (.call (.ref f) ⟨[], []⟩) (CR (L2N.CX X.prog X.w) (envOfC qg sg s.heap.objs.size g cdg :: X.stack) X.prog X.w H1 sy Q E) sy := by
    refine PySem.W.kla_callFunE hr.depth atF rfl L.co L.gen rfl ⟨c1, oc, vs, t, rfl, hoc, hdc, hvc⟩ ?_
    rw [hbind]
    refine wpAny_pure (wpAny_newFunctionEnv (fun y hy => (L.own y hy).2) (fun y hy => absurd hy (by simp)) (fun h₁ hns hsb => ⟨I1.nolimit.fresh _ hsb, ?_⟩) L.kind)
    show codeAny _ _ (.expr body (lamEnv X scope sy.heap.objs.size f c1)) _ _
    have kp : ∀ b o, sy.heap.get? b = some o → h₁.get? b = some o := fun b o e => hsb.extBut b o (Nat.ne_of_lt (Heap.lt_size e)) (Heap.get?_push_of_some _ e)
    have J0 : Inv (lamCx X (X.A.deeper (envOfC qg sg s.heap.objs.size g cdg)) (envOfC qg sg s.heap.objs.size g cdg :: X.stack) sy H1 E scope f c1) [] σ H1 { sy with heap := h₁, toks := sy.toks + ([] : List (Str × Value)).length } :=
      lam_start2 I L I1.env0 hr.hd un hns kp
    have J : Inv (lamN X (X.A.deeper (envOfC qg sg s.heap.objs.size g cdg)) (envOfC qg sg s.heap.objs.size g cdg :: X.stack) sy H1 E scope f c1) [] σ H1 { sy with heap := h₁, toks := sy.toks + ([] : List (Str × Value)).length } := J0.toTry _
    refine PySem.W.kla_codeExpr (wpAny_mono ((hbody _ _ sy H1 (hr.deeper _)).run [] _ _ H1 Q J ht) (fun v s2 ⟨w2, H2, J2, rv, q⟩ => ?_) fun e s2 hq => hq)
    exact ⟨w2, H2, J2.os, J2.bare, J2.base, J2.hok, rv, q⟩
  have hx : Passes (L2N.CX X.prog X.w) ((cxOf (L2N.CX X.prog X.w) X.prog X.w X.K X.mg X.base Ng qg sg g cdg X.A X.stack s H Eg).tr pn xe) E := L2N.passes_call tk hW
  refine wpAny_call (codeAny_mono rc fun r s2 hq => ?_)
  match r, hq with
  | .error e, hq => exact hx pinsZ σZ H1 sy e s2 I1 hq
  | .ok (.ret u), hq => exact I1.after hq
  | .ok .next, hq => exact False.elim hq
  | .ok .brk, hq => exact False.elim hq
  | .ok .cont, hq => exact False.elim hq
end
end Ly
set_option maxHeartbeats 2000000
/-! Ly13: an error's name; what came of a lambda. -/
namespace Ly
open PySem PySem.Spec PyProof.Rows L2 HotX L2H LamX

/-! ### isinstance(e, C), join -/
def isEx (a : Addr) : Dt → Bool
  | .at (.ref b) => decide (b = a)
  | _ => false
def wIsE (a : Addr) (c x : Str) (i : Nat) : WEx := fun e => match gt e i with
  | some (.v d) => if isEx a d = true then some (.ok (.bl (decide (c = x))) e) else none
  | _ => none
/-- what the classes say of each other -/
structure ClsOk (K : PySem.W.Frag) (cl : Str → Option Addr) (c : Str) (C : Addr) : Prop where
  exc : ExcC K C
  kit : ∀ x D, cl x = some D → PySem.W.kitOne K (.ref C) (.ref D) = some (decide (c = x))
def strsOf : List Dt → Option (List Str)
  | [] => some []
  | .at (.str x) :: r => (match strsOf r with | some xs => some (x :: xs) | none => none)
  | _ :: _ => none
theorem strsOf_inv : ∀ {ds : List Dt} {ns : List Str}, strsOf ds = some ns → ds = ns.map Dt.str
  | [], ns, h => by simp only [strsOf, Option.some.injEq] at h; subst h; rfl
  | .at v :: r, ns, h => by
    cases v <;> simp only [strsOf, reduceCtorEq] at h
    split at h
    · rename_i us hu
      cases h
      rw [strsOf_inv hu]; rfl
    · cases h
  | .lst _ :: _, ns, h => by simp only [strsOf, reduceCtorEq] at h
  | .tup _ :: _, ns, h => by simp only [strsOf, reduceCtorEq] at h
  | .dic _ :: _, ns, h => by simp only [strsOf, reduceCtorEq] at h
  | .scr _ :: _, ns, h => by simp only [strsOf, reduceCtorEq] at h
theorem strsOf_map : ∀ ns : List Str, strsOf (ns.map Dt.str) = some ns
  | [] => rfl
  | n :: ns => by
    show (match strsOf (ns.map Dt.str) with | some xs => some (n :: xs) | none => none) = some (n :: ns)
    rw [strsOf_map ns]
theorem reps_strs {K : PySem.W.Frag} {F : Hp} {bs : List Str} {vs : List V} (h : Reps K F (bs.map Dt.str) vs) : vs = bs.map V.str := by
  have e : bs.map Dt.str = (bs.map V.str).map Dt.at := by rw [List.map_map]; rfl
  rw [e, reps_ats] at h
  exact h
def jn (a : Str) (xs : List Dt) : Option Dt := match strsOf xs with
  | some ys => if (ys.map (·.length)).sum + ys.length * a.length ≤ 16777216 then some (.str (Txt.join a ys)) else none
  | none => none
def fJn : Dt → Dt → Option Dt
  | .at (.str a), .lst xs => jn a xs
  | .at (.str a), .tup xs => jn a xs
  | _, _ => none
theorem jn_inv {a : Str} {xs : List Dt} {d : Dt} (h : jn a xs = some d) : ∃ ys, xs = ys.map Dt.str ∧ (ys.map (·.length)).sum + ys.length * a.length ≤ 16777216 ∧ d = .str (Txt.join a ys) := by
  unfold jn at h
  split at h
  · rename_i ys hy
    split at h
    · rename_i hl
      cases h
      exact ⟨ys, strsOf_inv hy, hl, rfl⟩
    · cases h
  · cases h
section
variable {X : Cx} {A : Ax X.K} {a b : Expr} {wa wb : WEx} {pos p p2 p3 : Pos}
theorem n_join (ha : PE X a (TEx A wa)) (hb : PE X b (TEx A wb)) (hs : starEach [b] X.env = [(false, eval b X.env)] := by rfl) (hbase : attributeBase a "join" X.env (eval a X.env) = eval a X.env := by rfl) (hline : (p.endLine == pos.line) = true := by rfl) (hstr : ∀ e d e1, wa e = some (.ok d e1) → ∃ x, d = .at (.str x)) :
    PE X (.Call (.Attribute a "join" p) [b] [] pos) (TEx A (wO fJn wa wb)) :=
  pe_imp (pe_join ha hb hs hbase hline) fun σ H Q ⟨F, e, R, h⟩ => ⟨F, e, R, (FinG.bindE (R := Rep X.K) h).imp fun v H1 ⟨F1, d1, e1, hw, s1, R1, r1, h1⟩ => by
    obtain ⟨x, rfl⟩ := hstr _ _ _ hw
    rw [rep_at] at r1; subst r1
    refine ⟨⟨x, rfl⟩, F1, e1, R1, (FinG.bind (R := Rep X.K) h1).imp fun u H2 ⟨F2, d2, e2, s2, R2, r2, h2⟩ => ?_⟩
    obtain ⟨d, hf, hg⟩ := fin_pur h2
    unfold fJn at hf
    split at hf
    · rename_i y ys heq
      cases heq
      obtain ⟨zs, rfl, hl, rfl⟩ := jn_inv hf
      obtain ⟨q, us, rfl, f1, f2, f3⟩ := rep_lst.mp r2
      have := reps_strs f2; subst this
      exact ⟨x, q, zs, rfl, rfl, .inl (SqL.of (R2.fh _ _ f1)), hl, goes_at hg R2⟩
    · rename_i y ys heq
      cases heq
      obtain ⟨zs, rfl, hl, rfl⟩ := jn_inv hf
      obtain ⟨q, us, rfl, f1, f2, f3⟩ := rep_tup.mp r2
      have := reps_strs f2; subst this
      exact ⟨x, q, zs, rfl, rfl, .inr (sqt_mono R2.fh f1), hl, goes_at hg R2⟩
    · cases hf⟩
theorem isE_rule {X : Cx} {q : Addr × Obj} {C : Addr} (hq : q ∈ X.pn) (k : ExcC X.K C) (hz : q.2.cls = .ref C ∧ q.2.dict = none) (hf : ∃ vs, q.2.data = .fields vs) : CallR X (.builtin "isinstance") (rIsE X.K C q.1) := by
  intro pins s σ H xs us Q I r ⟨c, cv, b, ex, hcv, e, qq⟩
  subst ex
  obtain ⟨u, v, rfl, r1, r2⟩ : ∃ u v, us = [u, v] ∧ RelV (.ref q.1) u ∧ RelV c v := by
    cases r with
    | cons r1 rr => cases rr with
      | cons r2 r3 => cases r3; exact ⟨_, _, rfl, r1, r2⟩
  obtain rfl : u = .ref q.1 := r1
  have := hcv _ r2; subst this
  obtain ⟨hget, _⟩ := I.pin q (List.mem_append_left _ hq)
  obtain ⟨vs, hv⟩ := hf
  have J : PySem.W.InstAt s.heap q.1 q.2 C none := by
    obtain ⟨qa, oc, od, oda, osl⟩ := q
    obtain ⟨h1, h2⟩ := hz
    dsimp only at h1 h2 hv hget
    subst h1 h2 hv
    exact ⟨hget, rfl, rfl, trivial⟩
  exact PySem.W.kia_one (PySem.W.handS_kitx_exc k.hg k.hk k.hs k.hd k.ha k.hn k.ht k.hm) I.kIn J e (fun z => nomatch z) fun tk => ⟨.bl b, H, I.kept (t' := tk) fun _ _ z => z, rfl, qq⟩
theorem n_isE {X : Cx} {A : Ax X.K} {q : Addr × Obj} {C : Addr} {c x y : Str} {i : Nat} {pos p p2 p3 : Pos} (hq : q ∈ X.pn) (hz : q.2.cls = .ref C ∧ q.2.dict = none) (hf : ∃ vs, q.2.data = .fields vs) (k : ClsOk X.K A.cl c C) (G : Gx X.K X.mg A.cl x)
    (hg : Gl X "isinstance") (hm : X.mg "isinstance" = none) (hgx : Gl X x) (hN : X.N[i]? = some y := by rfl) (hv : Vis X.env.scope y := by first | exact Or.inl rfl | exact Or.inr (Or.inl rfl) | exact Or.inr (Or.inr rfl))
    (hd : (y == ("__debug__" : Str)) = false := by decide) (hcd : (y == ("__classdict__" : Str)) = false := by decide) (hdx : (x == ("__debug__" : Str)) = false := by decide) (hb : bootBuiltins "isinstance" = some (.builtin "isinstance") := by decide +kernel)
    (hs : starEach [.Name y p2, .Name x p3] X.env = (false, eval (.Name y p2) X.env) :: starEach [.Name x p3] X.env := by rfl) (hs2 : starEach [.Name x p3] X.env = (false, eval (.Name x p3) X.env) :: starEach [] X.env := by rfl) (hpl : (backTo pos (starEach [.Name x p3] X.env)).any (·.1) = false := by rfl) :
    PE X (.Call (.Name "isinstance" p) [.Name y p2, .Name x p3] [] pos) (TEx A (wIsE q.1 c x i)) := by
  obtain ⟨D, g1, g2, g3, g4, g5, g6⟩ := G.ex
  refine pe_imp (pe_callB (isE_rule hq k.exc hz hf) hg hm hb (pa_cons (pe_var hN hv hd hcd) (pa_cons (pe_glob (v := .ref D) hgx g1 rfl hdx) pa_nil hs2) hs) (he := hs) (hpl := hpl)) fun σ H Q ⟨F, e, R, h⟩ => ?_
  unfold wIsE at h
  split at h
  · rename_i d hd
    obtain ⟨v, h1, h2⟩ := R.sl i _ hd
    split at h
    · rename_i hx
      unfold isEx at hx
      split at hx
      · rename_i b
        have := of_decide_eq_true hx; subst this
        have h2 : Rep X.K F (.at (.ref q.1)) v := h2
        rw [rep_at] at h2; subst h2
        refine ⟨_, h1, .ref D, .ref D, _, rfl, fun u ru => ru, k.kit x D g2, h F H _ (Same.refl F) R (rep_at.mpr rfl)⟩
      · cases hx
    · exact h.elim
  · exact h.elim
end

/-! ### a def called while an exception is handled -/
theorem call_hot {P : Program} {w : World} {K : PySem.W.Frag} {mg : Str → Option Value} {base : Heap} {CX : CXT} {k : Nat} {f : Addr} {x qual : Str} {params : Arguments} {body : List Stmt} {scope : Scope} {fd : FuncData} {N ps : List Str} {A : Around} {outer : List Env} {s : Shared} {H : Hp} {args : Args} {us : List Value} {vs : List V} {Q : VK} {E : XK} {p : Addr × Obj}
    (F : FunD K x qual params body scope [] [] f fd) (S : FnScope N ps scope) (hr : RoomH (k + 1) A) (hpin : PinOk outer H s p) (e0 : Env0 P w K mg base A outer s H) (hb : BindsTo s fd args (ps.zip us)) (r : Vals vs us) (hl : vs.length = ps.length)
    (hbody : ∀ cdv, RoomH k (A.deeper (envOfC qual scope s.heap.objs.size f cdv)) → ∃ t, PSs (cxH CX P w K mg base N qual scope f cdv A outer s H E p) body t ∧ t { nx := fun _ H' => Q .non H', rt := Q } (L2.start N vs) H) :
    codeAny (model P w) A (.call (.ref f) args) (CR CX outer P w H s Q E) s := by
  obtain ⟨oc, od, dV, kV, doc, pm, an, cdv, ct, osl, rfl, lk, hcd, _, _⟩ := F.ex
  have KX : K.In s.heap := e0.mod.kin.keeps fun b o e => (e0.bs b o e).1
  have lim : s.heap.NoLimit := e0.mod.nolimit.keeps fun b o e => (e0.bs b o e).1
  refine codeAny_call_function hr.depth (KX _ _ lk) rfl S.co S.gen rfl (PySem.W.codeRec_of KX hcd) (hb _ _ _ _ (wpAny_newFunctionEnv_cells S.kind (fun ⟨n, v⟩ hy => ?_) fun env he s1 x => ?_))
  · exact (S.par n (List.of_mem_zip hy).1).elim .inl fun q => .inr ⟨q, PySem.W.cellsFrom_some _ _ _ (.inl q)⟩
  · subst he
    obtain ⟨t, ht, hq⟩ := hbody cdv (hr.deeper _)
    have I : Inv (cxH CX P w K mg base N qual scope f cdv A outer s H E p) [] (L2.start N vs) H s1 := inv_startH S hpin e0 hl r x
    refine ⟨lim.keeps x.toInCall.keep, codeAny_func (wpAny_mono (ht.run [] s1 (L2.start N vs) H _ I hq) (fun fl s2 hs => ?_) fun e s2 hs => hs)⟩
    have fin : ∀ {σ2 : L2.St} {H2 : Hp} {v : V} {u : Value}, Inv (cxH CX P w K mg base N qual scope f cdv A outer s H E p) [] σ2 H2 s2 → RelV v u → Q v H2 → CE outer P w H s Q u s2 := fun {σ2 H2 v u} J rv q => ⟨v, H2, J.os, J.bare, J.base, J.hok, rv, q⟩
    match fl, hs with
    | .ret u, ⟨v, σ2, H2, J, rv, q⟩ => exact fin J rv q
    | .next, ⟨σ2, H2, J, q⟩ => exact fin (v := V.non) (u := Value.none) J rfl q
    | .brk, ⟨_, _, _, q⟩ => exact False.elim q
    | .cont, ⟨_, _, _, q⟩ => exact False.elim q
/-- the def that names an error -/
structure GErr (P : Program) (w : World) (K : PySem.W.Frag) (mg : Str → Option Value) (base : Heap) (T : List (Addr × Str)) (cl : Str → Option Addr) (j : Nat) (x : Str) (errN : Str → Option Str) : Prop where
  ex : ∃ (fa : Addr) (fd : FuncData), mg x = some (.ref fa) ∧ PySem.W.keepIn K (.ref fa) = true ∧ Binds K fd ["e"] [] ∧ ∀ (c n : Str) (C : Addr), cl c = some C → errN c = some n →
    ∀ (A : Around) (outer : List Env) (s : Shared) (H : Hp) (p : Addr × Obj) (args : Args) (Q : VK) (E : XK) (F : Hp), RoomH j A → Hot1 A p → PinOk outer H s p → Env0 P w K mg base A outer s H → BindsTo s fd args ((["e"] : List Str).zip [Value.ref p.1]) →
      (p.2.cls = .ref C ∧ p.2.dict = none) → (∃ vs, p.2.data = .fields vs) → Same F H → Tabs T H → NoT F → (∀ F2 H2, Rl K ⟨F, H, none, T, 0⟩ F2 H2 [] [] → Q (.str n) H2) →
      codeAny (model P w) A (.call (.ref fa) args) (CR (L2N.CX P w) outer P w H s Q E) s
theorem gErr_of {P : Program} {w : World} {K : PySem.W.Frag} {mg : Str → Option Value} {base : Heap} {T : List (Addr × Str)} {cl : Str → Option Addr} {k : Nat} {x : Str} {errN : Str → Option Str} {params : Arguments} {body : List Stmt} {scope : Scope} {fa : Addr} {fd : FuncData} {N : List Str} (nn : Nat) (wE : Addr → Str → WSt)
    (F : FunD K x x params body scope [] [] fa fd) (S : FnScope N ["e"] scope) (hn : N.length = nn) (hm : mg x = some (.ref fa)) (hb : Binds K fd ["e"] [])
    (mean : ∀ a c n, errN c = some n → ∃ e, wE a c (iniE nn [.at (.ref a)]) = some (.rt (.v (.str n)) e))
    (hbody : ∀ (cdv : Value) (A : Around) (outer : List Env) (s : Shared) (H : Hp) (E : XK) (p : Addr × Obj) (Fz : Hp) (c n : Str) (C : Addr), cl c = some C → errN c = some n → (p.2.cls = .ref C ∧ p.2.dict = none) → (∃ vs, p.2.data = .fields vs) → Hot1 A p → RoomH k (A.deeper (envOfC x scope s.heap.objs.size fa cdv)) →
      PSs (cxH (L2N.CX P w) P w K mg base N x scope fa cdv A outer s H E p) body (TSx (K := K) ⟨⟨Fz, H, none, T, nn⟩, E, cl⟩ (wE p.1 c))) : GErr P w K mg base T cl (k + 1) x errN := by
  refine ⟨fa, fd, hm, F.kp, hb, fun c n C hc he A outer s H p args Q E Fz hr hot hpin e0 hbi hz hf sm tb tF hq => ?_⟩
  refine call_hot (us := [.ref p.1]) (vs := [.ref p.1]) F S hr hpin e0 hbi (.cons rfl .nil) rfl fun cdv hr2 => ⟨_, hbody cdv A outer s H E p Fz c n C hc he hz hf hot hr2, ?_⟩
  obtain ⟨e2, hw⟩ := mean p.1 c n he
  have hpl : (["e"] : List Str).length ≤ N.length := by have := congrArg List.length S.pre; rw [List.length_take] at this; omega
  refine ⟨Fz, iniE nn [.at (.ref p.1)], Rl.ini (ds := [.at (.ref p.1)]) (vs := [.ref p.1]) sm (reps_cons.mpr ⟨_, _, rfl, rep_at.mpr rfl, reps_nil.mpr rfl⟩) tb tF (by rw [← hn]; exact hpl) (by rw [start_len (by exact hpl), hn]) (fun i v => start_get), ?_⟩
  rw [hw]
  intro F' H' σ' v _ R' r' _
  have r2 : Rep K F' (.at (.str n)) v := r'
  rw [rep_at] at r2; subst r2
  exact hq F' H' R'.bare
end Ly
set_option maxHeartbeats 2000000
/-! Ly14: x(lambda: ..): the value in a list, or the error's name. -/
namespace Ly
open PySem PySem.Spec PyProof.Rows L2 HotX L2H LamX

/-- without the own lists and dicts -/
def maskS : Option Sl → Option Sl
  | some (.v d) => some (.v d)
  | _ => none
def mask : En → En
  | [] => []
  | s :: r => maskS s :: mask r
theorem mask_len : ∀ e : En, (mask e).length = e.length
  | [] => rfl
  | _ :: r => by show (mask r).length + 1 = r.length + 1; rw [mask_len r]
theorem gt_mask : ∀ (e : En) (i : Nat), gt (mask e) i = maskS (gt e i)
  | [], _ => rfl
  | _ :: _, 0 => rfl
  | _ :: r, i + 1 => gt_mask r i
theorem maskS_inv {s : Option Sl} {t : Sl} (h : maskS s = some t) : ∃ d, t = .v d ∧ s = some (.v d) := by
  unfold maskS at h
  split at h
  · cases h; exact ⟨_, rfl, rfl⟩
  · cases h
theorem Rl.masked {K : PySem.W.Frag} {B : Bs} {F H : Hp} {σ : St} {e : En} (R : Rl K B F H σ e) : Rl K ⟨F, H, none, B.T, B.n⟩ F H σ (mask e) :=
  ⟨R.fh, Same.refl F, fun b o hb _ _ => hb, fun b o hb => ⟨o, hb⟩, fun b o _ hf => hf, R.tbs, R.tF, by rw [mask_len]; exact R.len, by rw [mask_len]; exact R.ln, fun i s hi => by
    rw [gt_mask] at hi
    obtain ⟨d, rfl, hd⟩ := maskS_inv hi
    obtain ⟨v, h1, h2⟩ := R.sl i _ hd
    exact ⟨v, h1, h2⟩, fun i j s s' p h1 _ o1 _ _ _ => by
    rw [gt_mask] at h1
    obtain ⟨d, rfl, _⟩ := maskS_inv h1
    exact o1.elim, fun p h => (nomatch h), fun p h => (nomatch h)⟩
def wCame (errN : Str → Option Str) (w : WEx) : WEx := fun e => match w (mask e) with
  | some (.ok d _) => some (.ok (.lst [d]) e)
  | some (.er c) => (match errN c with
    | some n => some (.ok (.str n) e)
    | none => none)
  | none => none
/-- reading of the call that names the error -/
def tErr (K : PySem.W.Frag) (T : List (Addr × Str)) (cl : Str → Option Addr) (errN : Str → Option Str) (i : Nat) (a : Addr) (cls : Value) (d : Option Addr) : TE := fun σ H Q =>
  ∃ (C : Addr) (c n : Str) (F : Hp), cls = .ref C ∧ d = none ∧ cl c = some C ∧ errN c = some n ∧ (∃ σ0 : L2.St, σ = σ0.set i (some (.ref a))) ∧ Same F H ∧ Tabs T H ∧ NoT F ∧ ∀ F2 H2, Rl K ⟨F, H, none, T, 0⟩ F2 H2 [] [] → Q (.str n) H2
theorem pe_err2 {Y : Cx} {T : List (Addr × Str)} {cl : Str → Option Addr} {errN : Str → Option Str} {j i : Nat} {x y : Str} {a : Addr} {oe : Obj} {cls : Value} {d : Option Addr} {p p2 pos : Pos} (G : GErr Y.prog Y.w Y.K Y.mg Y.base T cl j x errN) (hr : RoomH j Y.A) (hot : Hot1 Y.A (a, oe)) (hq : (a, oe) ∈ Y.pn)
    (hz : oe.cls = cls ∧ oe.dict = d) (hf : ∃ vs, oe.data = .fields vs) (hg : Gl Y x) (hN : Y.N[i]? = some y) (hv : Vis Y.env.scope y) (hd : (y == ("__debug__" : Str)) = false) (hcd : (y == ("__classdict__" : Str)) = false) (hdb : (x == ("__debug__" : Str)) = false)
    (he : starEach [.Name y p2] Y.env = (false, eval (.Name y p2) Y.env) :: starEach [] Y.env) (hpl : (backTo pos (starEach [] Y.env)).any (·.1) = false) :
    PE Y (.Call (.Name x p) [.Name y p2] [] pos) (tErr Y.K T cl errN i a cls d) := by
  obtain ⟨fa, fd, hm, hk, hb, run⟩ := G.ex
  refine ⟨fun pins s σ H Q I ⟨C, c, n, F, e1, e2, hc, hn, ⟨σ0, hσ⟩, sm, tb, tF, hQ⟩ => ?_⟩
  have hlt : i < σ0.length := by
    have h1 := (List.getElem?_eq_some_iff.mp hN).1
    have h2 := I.len
    rw [hσ, List.length_set] at h2
    omega
  refine wpAny_Call_Name_kw (ld_glob I hg hm ?_ hdb)
  refine PySem.W.callWith_K (h₀ := Y.base) I.ok.mod.kin hk (thn ((pa_cons (pe_var hN hv hd hcd) pa_nil he).run pos pins s σ H (fun vs H1 => vs = [.ref a] ∧ H1 = H) I ⟨.ref a, by rw [hσ, List.getElem?_set_self hlt], rfl, rfl⟩) fun us s1 ⟨vs, H1, I1, r, ev, eH⟩ => ⟨I1.kIn, ?_⟩) he hpl
  subst ev eH
  obtain ⟨u, rfl, ru⟩ := vals1 r
  obtain rfl : u = .ref a := ru
  have P1 := I1.pin (a, oe) (List.mem_append_left _ hq)
  have hpin : PinOk Y.stack H1 s1 (a, oe) := ⟨P1.1, P1.2.1, fun hm => (List.mem_cons.mp (I1.stkSub a hm)).elim P1.2.2.1 P1.2.2.2.1, P1.2.2.2.2⟩
  have bi := hb s1 [.ref a] I1.kIn rfl
  refine wpAny_call (codeAny_mono (run c n C hc hn Y.A Y.stack s1 H1 (a, oe) ⟨[.ref a], []⟩ Q (fun _ _ _ => False) F hr hot hpin I1.env0 bi ⟨hz.1.trans e1, hz.2.trans e2⟩ hf sm tb tF hQ) fun r s2 hh => ?_)
  match r, hh with
  | .error e, ⟨_, _, _, _, _, _, _, _, _, _, _, _, z⟩ => exact z.elim
  | .ok (.ret u), hh => exact I1.after hh
  | .ok .next, hh => exact False.elim hh
  | .ok .brk, hh => exact False.elim hh
  | .ok .cont, hh => exact False.elim hh
/-- the def that calls what it got -/
structure GCame (P : Program) (w : World) (K : PySem.W.Frag) (mg : Str → Option Value) (base : Heap) (T : List (Addr × Str)) (cl : Str → Option Addr) (j : Nat) (x : Str) (errN : Str → Option Str) : Prop where
  ex : ∃ (g : Addr) (fd : FuncData) (pg : Arguments) (sg : Scope) (CS : Addr) (xe : Str) (p1 p2 p3 p4 p5 p6 p7 p8 p9 p10 p11 : Pos),
    FunD K x x pg [.Try [.Return (some (.List [.Call (.Name "call_so" p1) [] [] p2] p3)) p4] [.ExceptHandler (some (.Name "StepError" p5)) (some "e") [.Return (some (.Call (.Name xe p6) [.Name "e" p7] [] p8)) p9] p10] [] [] p11] sg [] [] g fd ∧ FnScope ["call_so", "e"] ["call_so"] sg ∧ mg x = some (.ref g) ∧ Binds K fd ["call_so"] [] ∧
    sg.names.lookup ("e" : Str) = some .local ∧ sg.names.lookup ("call_so" : Str) = some .local ∧ sg.names.lookup ("StepError" : Str) = some .globalImplicit ∧ sg.names.lookup xe = some .globalImplicit ∧ (xe == ("__debug__" : Str)) = false ∧ mg "StepError" = some (.ref CS) ∧ GErr P w K mg base T cl j xe errN ∧
    ∀ c n C, cl c = some C → errN c = some n → PySem.W.exmOne K (.ref C) (.ref CS) = some true
theorem takesF {X : Cx} : L2N.Takes X (fun _ _ _ _ => False) := fun _ _ ⟨_, _, _, _, _, _, _, _, _, _, _, _, _, _, _, _, z⟩ => z.elim
section
variable {X : Cx} {A : Ax X.K} {x : Str} {j k : Nat} {c P : Addr} {params : Arguments} {body : Expr} {scope : Scope} {p lpos pos : Pos} {w : WEx} {errN : Str → Option Str}
theorem n_came (G : GCame X.prog X.w X.K X.mg X.base A.B.T A.cl j x errN) (hj : j ≤ k) (hr : Room (k + 2) X.A) (hg : Gl X x) (TB : TabB X.base X.mg c P) (hcode : X.env.code = .ref c) (hmT : (P, X.env.qual ++ "<lambda>") ∈ A.B.T) (hu : ∀ p ∈ A.B.T, p.1 = P → p.2 = X.env.qual ++ "<lambda>")
    (L : LamS X.env.scope scope) (hdef : defaultsOf params X.env = ([], [])) (hbind : ∀ (q : Str) (cl : List (Str × Addr)) (pm cv ctv : Value), bindArgs (PySem.W.kla_fn "<lambda>" q params body scope cl pm cv ctv) ⟨[], []⟩ = pure [])
    (hbody : ∀ (A1 : Around) (outer : List Env) (s : Shared) (H : Hp) (E : XK) (f c1 : Addr) (Fz Hz : Hp), Room k (A1.deeper (lamEnv X scope s.heap.objs.size f c1)) → PE (lamN X A1 outer s H E scope f c1) body (TEx (K := X.K) ⟨⟨Fz, Hz, none, A.B.T, A.B.n⟩, E, A.cl⟩ w))
    (hdb : (x == ("__debug__" : Str)) = false := by decide) : PE X (.Call (.Name x p) [.Lambda params body scope lpos] [] pos) (TEx A (wCame errN w)) := by
  obtain ⟨g, fd, pg, sg, CS, xe, p1, p2, p3, p4, p5, p6, p7, p8, p9, p10, p11, FD, Sg, hm, hb, he1, he2, he3, he4, he5, hmS, GE, hex⟩ := G.ex
  obtain ⟨oc, od, dV, kV, doc, pm0, an, cdv, ct, osl, efd, lk, hcd, _, _⟩ := FD.ex
  refine ⟨fun pins s σ H Q I ⟨F, e, R, h⟩ => ?_⟩
  refine wpAny_Call_Name_kw (ld_glob I hg hm ?_ hdb)
  refine PySem.W.callWith_K (h₀ := X.base) I.ok.mod.kin FD.kp ?_ (by rfl) (by rfl)
  show wpAny _ _ (spliced ((false, eval (.Lambda params body scope lpos) X.env) :: backTo pos (starEach [] X.env))) _ _ s
  refine Calls.spliced_cons (lam_makeT I TB hcode hmT hu R.tbs hdef (L.has I.ok) fun f c1 pm ctv H1 s1 I1 xT T1 hf hfn hfr hco => ?_)
  refine Calls.spliced_nil ⟨I1.kIn, ?_⟩
  have R1 := R.extT xT T1
  have Rm := R1.masked
  have rc : codeAny (model X.prog X.w) X.A (.call (.ref g) ⟨[.ref f], []⟩) (CR (L2N.CX X.prog X.w) X.stack X.prog X.w H1 s1 Q (fun _ _ _ => False)) s1 := by
    have bi := hb s1 [.ref f] I1.kIn rfl
    rw [efd] at lk bi
    refine run_ofS (N := ["call_so", "e"]) (ps := ["call_so"]) (us := [.ref f]) (vs := [.ref f]) lk hcd Sg hr I1.env0 bi (.cons rfl .nil) rfl fun hr2 => ?_
    have hgS : Gl (cxOf (L2N.CX X.prog X.w) X.prog X.w X.K X.mg X.base ["call_so", "e"] x sg g cdv X.A X.stack s1 H1 (fun _ _ _ => False)) "StepError" := he3
    refine ⟨_, pss_one (L2N.ps_try_as (X := cxOf (L2N.CX X.prog X.w) X.prog X.w X.K X.mg X.base ["call_so", "e"] x sg g cdv X.A X.stack s1 H1 (fun _ _ _ => False)) (Wout := fun _ _ _ _ => False) (c := .ref CS) (i := 1) (n := "e")
      (tb := fun W D σZ HZ => ∃ Ech : XK, (∀ cls d σ2 H2, Ech cls d H2 → W cls d σ2 H2) ∧ σZ[0]? = some (some (.ref f)) ∧ HZ c1 = some (CodeO c1 (X.env.qual ++ "<lambda>")) ∧ TEx (K := X.K) ⟨⟨F, H1, none, A.B.T, A.B.n⟩, Ech, A.cl⟩ w σ HZ (fun v H2 => 1 ≤ sizeLine ∧ ∀ q, H2 q = none → D.rt (.ref q) (upd H2 q (.lst [v]))))
      (ts := fun a cls d => tRet (tErr X.K A.B.T A.cl errN 1 a cls d))
      rfl rfl Sg.nd rfl he1 ⟨hgS, by decide, .inl hmS⟩ takesF (fun W pn xx tk _ => ⟨fun pins2 s2 σ2 H2 D I2 ⟨Ech, hW, h1, h2, h3⟩ => ?_⟩) (fun a oe cls d pn hz hfd => pss_one (ps_ret ?_))), ?_⟩
    · refine (pss_one (ps_ret (pe_lst (pa_cons (act_n (i := 0) (E := Ech) (tb := TEx (K := X.K) ⟨⟨F, H1, none, A.B.T, A.B.n⟩, Ech, A.cl⟩ w) I1 L hf hfn hfr (hbind _ _ _ _ _) tk hW hr2 (fun A1 outer s3 H3 hr3 => hbody A1 outer s3 H3 Ech f c1 F H1 hr3) rfl (Or.inl he2)) pa_nil)))).run pins2 s2 σ2 H2 D I2 ?_
      exact ⟨h1, h2, h3⟩
    · have hrE : RoomH j ((cxOf (L2N.CX X.prog X.w) X.prog X.w X.K X.mg X.base ["call_so", "e"] x sg g cdv X.A X.stack s1 H1 (fun _ _ _ => False)).suite a ((a, oe) :: pn)).A := by
        have := (roomH_of hr2).mono (show j ≤ k + 1 by omega)
        exact ⟨this.dp, this.un⟩
      obtain ⟨vs, hvs⟩ := id hfd
      exact pe_err2 (Y := (cxOf (L2N.CX X.prog X.w) X.prog X.w X.K X.mg X.base ["call_so", "e"] x sg g cdv X.A X.stack s1 H1 (fun _ _ _ => False)).suite a ((a, oe) :: pn)) GE hrE ⟨rfl, vs, hvs, hz.2.2 vs hvs⟩ List.mem_cons_self ⟨hz.1, hz.2.1⟩ hfd he4 rfl (Or.inl he1) (by decide) (by decide) he5 rfl rfl
    · refine ⟨fun cls d H2 => ∃ (C : Addr) (cc n : Str) (F2 : Hp), cls = .ref C ∧ d = none ∧ A.cl cc = some C ∧ errN cc = some n ∧ Rl X.K ⟨F, H1, none, A.B.T, 0⟩ F2 H2 [] [] ∧ ∀ F3 H3, Rl X.K ⟨F2, H2, none, A.B.T, 0⟩ F3 H3 [] [] → Q (.str n) H3, fun cls d σ2 H2 ⟨C, cc, n, F2, e1, e2, e3, e4, e5, e6⟩ => ⟨true, by rw [e1]; exact hex cc n C e3 e4, fun _ a _ => ⟨C, cc, n, F2, e1, e2, e3, e4, ⟨σ2, rfl⟩, e5.fh, e5.tbs, e5.tF, e6⟩, fun z => by cases z⟩, rfl, hco, F, mask e, Rm, ?_⟩
      unfold wCame at h
      revert h
      cases hw : w (mask e) with
      | none => exact fun h => h
      | some r =>
        cases r with
        | ok d e2 =>
          intro h F2 H2 v sF R2 r2
          have R3 := (R1.call R2).1
          have hz : (1 : Nat) ≤ sizeLine := by decide
          exact ⟨hz, goes_lst (A := A) (σ := σ) (e := e) (Q := Q) (ds := [d]) (vs := [v]) (fun F3 H3 u s3 R4 r4 => h F3 H3 u (sF.trans s3) R4 r4) R3 (reps_cons.mpr ⟨v, [], rfl, r2, reps_nil.mpr rfl⟩) hz⟩
        | er cc =>
          intro h a F2 H2 σ2 e2 hc R2
          dsimp only at h
          split at h
          · rename_i n hn
            refine ⟨a, cc, n, F2, rfl, rfl, hc, hn, R2.bare, fun F3 H3 R4 => ?_⟩
            obtain ⟨R5, s5⟩ := R1.call R2
            obtain ⟨R6, s6⟩ := R5.call R4
            exact h F3 H3 (.str n) (s5.trans s6) R6 (rep_at.mpr rfl)
          · exact h.elim
  refine wpAny_call (codeAny_mono rc fun r s2 hh => ?_)
  match r, hh with
  | .error e, ⟨_, _, _, _, _, _, _, _, _, _, _, _, z⟩ => exact z.elim
  | .ok (.ret u), hh => exact I1.after hh
  | .ok .next, hh => exact False.elim hh
  | .ok .brk, hh => exact False.elim hh
  | .ok .cont, hh => exact False.elim hh
end
end Ly
set_option maxHeartbeats 2000000
/-! Ly15: more nodes: tuple[::-1], tuple * k, pairs stored, function values, copies of dicts. -/
namespace Ly
open PySem PySem.Spec PyProof.Rows L2 HT

theorem own_hv {l : List Nat} {n : Nat} {S : Option Addr} (h : (l.all fun v => Nat.blt v n && Nat.blt 0 v) = true) : ∀ v ∈ l, v < n ∧ (S ≠ none → v ≠ 0) := fun v hv => by
  have := List.all_eq_true.mp h v hv
  rw [Bool.and_eq_true] at this
  exact ⟨Nat.blt_eq.mp this.1, fun _ => Nat.ne_of_gt (Nat.blt_eq.mp this.2)⟩
section
variable {P : Program} {w : World} {K : PySem.W.Frag} {mg : Str → Option Value} {base : Heap} {x qual : Str} {params : Arguments} {body : List Stmt} {scope : Scope} {f : Addr} {fd : FuncData} {N ps : List Str} {T : List (Addr × Str)} {cl : Str → Option Addr} {k j : Nat}
theorem gf0P (F : FunD K x qual params body scope [] [] f fd) (S : FnScope N ps scope) : FnOk P w K mg base (L2N.CX P w) (j + 1) f fd ps (spP K T cl ps.length (fun _ => none)) :=
  F.ok S (fun vs H Q E h => h.1) fun cdv A outer s H vs Q E hr ⟨_, _, _, _, _, _, _, z⟩ => z.elim
theorem gf0M (F : FunD K x qual params body scope [] [] f fd) (S : FnScope N ps scope) {m : Nat} (hm : ps.length = m + 1) : FnOk P w K mg base (L2N.CX P w) (j + 1) f fd ps (spM K T cl m (fun _ _ => none)) :=
  F.ok S (fun vs H Q E h => by rw [hm]; exact h.1) fun cdv A outer s H vs Q E hr ⟨_, _, _, _, _, _, _, _, _, _, _, _, _, _, _, _, z⟩ => z.elim
end

/-! ### t[::-1] -/
section
variable {prog : Program} {w : World} {A : Around} {E : Value → Shared → Prop} {s : Shared}
theorem rev_adj (n : Nat) : Builtin.Slice.sliceAdjust none none (-1) (n : Int) = ((n : Int) - 1, -1) ∧ Builtin.Slice.slicePlaces ((n : Int) - 1) (-1) (-1) = n := by
  constructor
  · unfold Builtin.Slice.sliceAdjust; rfl
  · unfold Builtin.Slice.slicePlaces
    rw [if_neg (by decide)]
    by_cases h : n = 0
    · subst h; rfl
    · rw [if_pos (by omega)]
      have : ((n : Int) - 1 - -1 - 1) / (- -1) + 1 = (n : Int) := by
        rw [show (- -1 : Int) = 1 from rfl, Int.ediv_one]; omega
      rw [this]; omega
theorem rev_pick (xs : Array Value) : ((List.range xs.size).filterMap fun (k : Nat) => xs[(((xs.size : Int) - 1) + (k : Int) * (-1)).toNat]?) = xs.toList.reverse := by
  have key : ∀ m, m ≤ xs.size → ((List.range m).filterMap fun (k : Nat) => xs[(((xs.size : Int) - 1) + (k : Int) * (-1)).toNat]?) = (xs.toList.reverse).take m := by
    intro m
    induction m with
    | zero => intro _; simp
    | succ m ih =>
      intro hm
      have e : (((xs.size : Int) - 1) + ((m : Nat) : Int) * (-1)).toNat = xs.size - 1 - m := by omega
      have e1 : xs[xs.size - 1 - m]? = xs.toList.reverse[m]? := by
        rw [List.getElem?_reverse (by simp; omega)]; simp
      have hx : xs.toList.reverse[m]? = some (xs.toList.reverse[m]'(by simp; omega)) := List.getElem?_eq_getElem _
      rw [List.range_succ, List.filterMap_append, ih (by omega), List.take_succ, hx]
      simp only [List.filterMap_cons, List.filterMap_nil, e, e1, hx]
      rfl
  rw [key _ (Nat.le_refl _), List.take_of_length_le (by simp)]
theorem getItem_tuple_rev {t sl : Addr} {items : Array Value} {vs : Value} {Q : Value → Shared → Prop} (ht : IsTup s.heap t items) (hs : s.heap.IsSliceOf sl .none .none vs) (ps : IsPart vs (some (-1)))
    (h : Q (.ref s.heap.objs.size) { s with heap := s.heap.push { cls := .type "tuple", data := .seq items.toList.reverse.toArray } }) (hsz : items.size ≤ sizeLine) : wpAny (model prog w) A (getItem (.ref t) (.ref sl)) Q E s := by
  have hok : sizeOk (.seq items.toList.reverse.toArray) := by
    show items.toList.reverse.toArray.size ≤ sizeLine
    simpa using hsz
  obtain ⟨os, hos, hcs, hds⟩ := id hs
  have hTs : s.TypeIs (.ref sl) "slice" := ⟨os, hos, hcs⟩
  unfold getItem
  try with_reducible refine wpAny_holding ?_
  first | refine wpAny_bind (wpAny_pure ?_) | skip
  refine wpAny_bind (wpAny_sequenceKey ht.typeIs (by decide) ?_)
  refine wpAny_bind (wpAny_callSpecial?_slot (name := Str.ofString "__getitem__") ht.typeIs PyProof.Rows.slot_tuple_getitem (wpAny_call_entry PyProof.Rows.slot_tuple_getitem ht.typeIs entry_tuple_getitem ?_ (args_tuple_getitem _ _)))
  show wpAny _ _ (Builtin.Tuple.tupleItemsOf (.ref t) >>= _) _ _ s
  refine wpAny_bind (tupleItemsOf_ ht ?_)
  refine wpAny_bind (wpAny_typeOf hTs ?_)
  rw [if_pos (by decide)]
  refine wpAny_bind ?_
  unfold Builtin.Slice.sliceApplied Builtin.Slice.sliceFields
  refine wpAny_bind (wpAny_bind (wpAny_field hos hds (x := .none) rfl (wpAny_bind (wpAny_field hos hds (x := .none) rfl (wpAny_bind (wpAny_field hos hds (x := vs) rfl (wpAny_pure ?_)))))))
  refine wpAny_bind (slicePart_ ps ?_)
  show wpAny _ _ (if ((-1 : Int) == 0) = true then _ else _) _ _ s
  rw [if_neg (by decide)]
  refine wpAny_bind (slicePart_none (wpAny_bind (slicePart_none (wpAny_bind (wpAny_pure ?_)))))
  show wpAny _ _ (match Builtin.Slice.sliceAdjust none none (-1) (items.size : Int) with | (lo, hi) => pure (lo, (-1 : Int), Builtin.Slice.slicePlaces lo hi (-1))) _ _ s
  rw [(rev_adj items.size).1]
  show wpAny _ _ (pure ((items.size : Int) - 1, (-1 : Int), Builtin.Slice.slicePlaces ((items.size : Int) - 1) (-1) (-1))) _ _ s
  rw [(rev_adj items.size).2]
  refine wpAny_pure ?_
  have hno : ¬ ((((items.size : Int) - 1 == 0) && ((-1 : Int) == 1) && (items.size == items.size)) = true) := by
    intro q
    rw [Bool.and_eq_true, Bool.and_eq_true] at q
    exact absurd q.1.2 (by decide)
  show wpAny _ _ (if (((items.size : Int) - 1 == 0) && ((-1 : Int) == 1) && (items.size == items.size)) = true then _ else _) _ _ s
  rw [if_neg hno, rev_pick]
  first
    | exact wpAny_bind (m := Builtin.Tuple.tupleExact _) (wpAny_newObj_type (wpAny_pure ⟨_, rfl, wpAny_pure h⟩) hok)
    | exact wpAny_bind (m := Builtin.Tuple.tupleExact _) (wpAny_newObj_type (wpAny_bind (wpAny_pure (wpAny_pure ⟨_, rfl, wpAny_pure h⟩))) hok)
    | exact wpAny_bind (wpAny_bind (m := Builtin.Tuple.tupleExact _) (wpAny_newObj_type (wpAny_pure (wpAny_pure ⟨_, rfl, wpAny_pure h⟩)) hok))
    | exact wpAny_bind (wpAny_bind (m := Builtin.Tuple.tupleExact _) (wpAny_newObj_type (wpAny_pure ⟨_, rfl, wpAny_pure h⟩) hok))
end
def tRevT (K : PySem.W.Frag) (te : TE) : TE := fun σ H Q => te σ H fun x H1 => ∃ a xs, x = .ref a ∧ SqT K H1 a xs ∧ ∀ p, H1 p = none → Q (.ref p) (upd H1 p (.tup xs.reverse))
theorem pe_revT {X : Cx} {e : Expr} {te : TE} {k : Nat} {p1 p2 p3 pos : Pos} (he : PE X e te) : PE X (.Subscript e (.Slice none none (some (.UnaryOp .USub (.Constant (.int 1) k p1) p2)) p3) pos) (tRevT X.K te) := by
  refine ⟨fun pins s σ H Q I h => Subscript_ (thn (he.run pins s σ H _ I h) fun v s1 ⟨x, H1, I1, r1, a, xs, ex, hx, q⟩ => ?_)⟩
  subst ex
  obtain rfl : v = .ref a := r1
  have hst : PO X (some (.UnaryOp .USub (.Constant (.int 1) k p1) p2)) (tPart (tUn (rU fun i => .int (-i)) (tC (.int 1)))) := po_some (pe_un un_neg pe_int)
  refine wpAny_Slice (thn (po_none.run pins s1 σ H1 (fun o H2 => o = none ∧ H2 = H1) I1 ⟨rfl, rfl⟩) fun vl s2 ⟨l, H2, I2, pl, el, e2⟩ => ?_)
  subst el e2
  refine thn (po_none.run pins s2 σ H2 (fun o H3 => o = none ∧ H3 = H2) I2 ⟨rfl, rfl⟩) fun vu s3 ⟨u, H3, I3, pu, eu, e3⟩ => ?_
  subst eu e3
  refine thn (hst.run pins s3 σ H3 (fun o H4 => o = some (-1) ∧ H4 = H3) I3 ⟨1, rfl, -1, rfl, rfl, rfl⟩) fun vs s4 ⟨o, H4, I4, ps, eo, e4⟩ => ?_
  subst eo e4
  cases pl
  cases pu
  have I5 : Inv X pins σ H4 { s4 with heap := s4.heap.push { cls := .type "slice", data := .fields #[.none, .none, vs] } } := I4.kept (t' := s4.toks) fun b ob q => Heap.get?_push_of_some _ q
  obtain ⟨its, r, ht, hz⟩ := I5.tuple hx
  have hlen := r.length
  show wpAny (model X.prog X.w) X.A (subscriptTail e (.Slice none none (some (.UnaryOp .USub (.Constant (.int 1) k p1) p2)) p3) (.ref a) (.ref s4.heap.objs.size)) (EP X pins σ Q) X.xe { s4 with heap := s4.heap.push { cls := .type "slice", data := .fields #[.none, .none, vs] } }
  refine tail_any (ops := [.ref a, .ref s4.heap.objs.size]) ht.typeIs PyProof.Rows.slot_tuple_getitem.lookup ?_ (by with_unfolding_all rfl)
  refine getItem_tuple_rev ht (Heap.IsSliceOf.new _ .none .none vs) ps ?_ (by rw [List.size_toArray]; omega)
  refine ⟨.ref _, _, I5.laid (t' := s4.toks) (o := .tup xs.reverse) (fun b ob q => Heap.get?_push_of_some _ q) (Nat.le_refl _) ?_, rfl, q _ (I5.hok.fresh (Nat.le_refl _))⟩
  exact ⟨by rw [List.length_reverse]; exact hz, _, r.reverse, IsTup.new _ _⟩
def fRevT : Dt → Option Dt
  | .tup xs => some (.tup xs.reverse)
  | _ => none
def fMulT : Dt → Dt → Option Dt
  | .tup xs, .at (.int k) => if xs ≠ [] ∧ 2 ≤ k ∧ k ≤ 1000 ∧ xs.length ≤ 1000 then some (.tup (List.replicate k.toNat xs).flatten) else none
  | _, _ => none
section
variable {X : Cx} {A : Ax X.K} {a b : Expr} {es : List Expr} {wa wb : WEx} {ws : WAx} {pos p p2 : Pos}
theorem n_revT {k : Nat} {p1 p3 p4 : Pos} (ha : PE X a (TEx A wa)) : PE X (.Subscript a (.Slice none none (some (.UnaryOp .USub (.Constant (.int 1) k p1) p4)) p3) pos) (TEx A (wU fRevT wa)) :=
  pe_imp (pe_revT ha) fun σ H Q ⟨F, e, R, h⟩ => ⟨F, e, R, (FinG.bind (R := Rep X.K) h).imp fun v H1 ⟨F1, d1, e1, s1, R1, r1, h1⟩ => by
    obtain ⟨d, hf, hg⟩ := fin_pur h1
    unfold fRevT at hf
    split at hf
    · cases hf
      obtain ⟨ad, vs, rfl, f, q, z⟩ := rep_tup.mp r1
      exact ⟨ad, vs, rfl, sqt_mono R1.fh f, goes_tup hg R1 q.rev (by rw [List.length_reverse]; exact z)⟩
    · cases hf⟩
theorem flat_len {α : Type} (xs : List α) (n : Nat) : (List.replicate n xs).flatten.length = n * xs.length := by simp
theorem n_mulT (ha : PE X a (TEx A wa)) (hb : PE X b (TEx A wb)) : PE X (.BinOp a .Mult b pos) (TEx A (wO fMulT wa wb)) := n_op op_repT (fun σ F H e Q x y d1 d2 d R r1 r2 hf h => by
  unfold fMulT at hf
  split at hf
  · rename_i xs k
    split at hf
    · rename_i hc
      cases hf
      obtain ⟨ad, vs, rfl, f, q, z⟩ := rep_tup.mp r1
      rw [rep_at] at r2; subst r2
      have hl := q.len
      refine ⟨ad, k, vs, rfl, rfl, sqt_mono R.fh f, fun hv => hc.1 (List.eq_nil_of_length_eq_zero (by rw [hl, hv]; rfl)), hc.2.1, hc.2.2.1, by rw [← hl]; exact hc.2.2.2, goes_tup h R (q.rep _) ?_⟩
      rw [flat_len]
      have h1 : k.toNat ≤ 1000 := by omega
      have h2 : vs.length ≤ 1000 := by rw [← hl]; exact hc.2.2.2
      exact Nat.le_trans (Nat.mul_le_mul h1 h2) (by decide)
    · cases hf
  · cases hf) ha hb
/-! ### a, b = x, y: plain local names -/
def wAsP (i j : Nat) (ws : WAx) : WSt := fun e => bns (ws e) fun ds e1 => match ds with
  | [d1, d2] => some (.nx (st (st e1 i (some (.v d1))) j (some (.v d2))))
  | _ => none
theorem n_asP {i j : Nat} {x y : Str} {a b : Expr} {px py pt : Pos} {kt k2 : Nat} {pt2 : Pos} (hf : Free A i) (hfj : Free A j) (hc : X.calm = true) (hN : X.N.Nodup) (hx : X.N[i]? = some x) (hy : X.N[j]? = some y) (hij : i ≠ j) (hxl : X.env.scope.names.lookup x = some .local) (hyl : X.env.scope.names.lookup y = some .local)
    (ha : PA X [a, b] (TAx A ws)) (hw : swappedStores [.Tuple [.Name x px, .Name y py] kt pt] (.Tuple [a, b] k2 pt2) X.env = pure (some [x, y])) (hs : swapsWithSole [.Tuple [.Name x px, .Name y py] kt pt] (.Tuple [a, b] k2 pt2) pos.line X.env = pure false := by rfl) :
    PS X (.Assign [.Tuple [.Name x px, .Name y py] kt pt] (.Tuple [a, b] k2 pt2) pos) (TSx A (wAsP i j ws)) :=
  ps_imp (ps_par hc hN hx hy hij hxl hyl ha hw hs) fun D σ H ⟨F, e, R, h⟩ => ⟨F, e, R, (FinS.bind (R := Reps X.K) h).imp fun vs H1 ⟨F1, ds, e1, s1, R1, r1, h1⟩ => by
    split at h1
    · obtain ⟨v, u, rfl, r2, r3⟩ := reps2 r1
      refine ⟨v, u, rfl, h1 F1 H1 _ (Same.refl F1) ?_⟩
      exact (R1.setV (by rw [R1.ln]; exact hf.1) hf.2 r2).setV (by rw [st_len, R1.ln]; exact hfj.1) hfj.2 r3
    · exact h1.elim⟩
/-! ### function values -/
theorem n_gfn {x : Str} {ad : Addr} (hg : Gl X x) (hm : X.mg x = some (.ref ad)) (hd : (x == ("__debug__" : Str)) = false := by decide) : PE X (.Name x pos) (TEx A (wC (.ref ad))) := n_gl hg hm rfl hd
def refOf : Dt → Option Addr
  | .at (.ref a) => some a
  | _ => none
def wCallV (fns : Addr → Option Fn) (i : Nat) (ws : WAx) : WEx := fun e => match gt e i with
  | some (.v d) => (match refOf d with
    | some a => (match fns a with
      | some f => wCall f ws e
      | none => none)
    | none => none)
  | _ => none
/-- what holds of each of the functions -/
structure GfA (P : Program) (w : World) (K : PySem.W.Frag) (mg : Str → Option Value) (base : Heap) (T : List (Addr × Str)) (cl : Str → Option Addr) (j : Nat) (fa : Addr) (k : Nat) (f : Fn) : Prop where
  ex : ∃ (fd : FuncData) (ps : List Str), FnOk P w K mg base (L2N.CX P w) j fa fd ps (spP K T cl k f) ∧ PySem.W.keepIn K (.ref fa) = true ∧ Binds K fd ps []
theorem n_callV {i j k : Nat} {x : Str} {fns : Addr → Option Fn} (G : ∀ fa f, fns fa = some f → GfA X.prog X.w X.K X.mg X.base A.B.T A.cl j fa k f) (hr : Room j X.A) (hx : Passes (L2N.CX X.prog X.w) X A.E) (ha : PA X (a :: es) (TAx A ws)) (hk : ∀ e ds e1, ws e = some (.ok ds e1) → ds.length = k)
    (hN : X.N[i]? = some x := by rfl) (hv : Vis X.env.scope x := by first | exact Or.inl rfl | exact Or.inr (Or.inl rfl) | exact Or.inr (Or.inr rfl)) (hd : (x == ("__debug__" : Str)) = false := by decide) (hcd : (x == ("__classdict__" : Str)) = false := by decide)
    (he : starEach (a :: es) X.env = (false, eval a X.env) :: starEach es X.env := by rfl) (hpl : (backTo pos (starEach es X.env)).any (·.1) = false := by rfl) :
    PE X (.Call (.Name x p) (a :: es) [] pos) (TEx A (wCallV fns i ws)) := by
  refine ⟨fun pins s σ H Q I ⟨F, e, R, h⟩ => ?_⟩
  unfold wCallV at h
  split at h
  · rename_i d hgt
    split at h
    · rename_i fa hre
      split at h
      · rename_i f hfn
        obtain ⟨fd, ps, FF, hkp, hb⟩ := (G fa f hfn).ex
        obtain ⟨v, hv1, hv2⟩ := R.sl i _ hgt
        unfold refOf at hre
        split at hre
        · cases hre
          have hv2 : Rep X.K F (.at (.ref fa)) v := hv2
          rw [rep_at] at hv2; subst hv2
          refine (pe_callL (i := i) (E := A.E) FF hr hN hv hkp hb .nil hx ha hd hcd he hpl).run pins s σ H Q I ⟨hv1, F, e, R, (FinG.bindE (R := Reps X.K) h).imp fun vs H1 ⟨F1, ds, e1, hw, s1, R1, r1, h1⟩ => ?_⟩
          rw [List.append_nil]
          exact call_fin R1 r1 h1 (by rw [← r1.len]; exact hk e ds e1 hw)
        · cases hre
      · exact h.elim
    · exact h.elim
  · exact h.elim
end
end Ly
set_option maxHeartbeats 2000000
/-! Ly16: the words of errors; a def whose code object is known. -/
namespace Ly
open PySem PySem.Spec PyProof.Rows L2 L2H LamX

/-! ### evaluation -/
theorem sizeLine_eq : sizeLine = 16777216 := rfl
section
variable {α β : Type}
@[simp] theorem bnd_ok (a : α) (e : En) (k : α → En → Option (Rt β)) : bnd (some (.ok a e)) k = k a e := rfl
@[simp] theorem bnd_er (c : Str) (k : α → En → Option (Rt β)) : bnd (some (.er c)) k = some (.er c) := rfl
@[simp] theorem bnd_none (k : α → En → Option (Rt β)) : bnd none k = none := rfl
@[simp] theorem bns_ok (a : α) (e : En) (k : α → En → Option Ot) : bns (some (.ok a e)) k = k a e := rfl
@[simp] theorem bns_er (c : Str) (k : α → En → Option Ot) : bns (some (.er c)) k = some (.er c) := rfl
@[simp] theorem bns_none (k : α → En → Option Ot) : bns none k = none := rfl
@[simp] theorem pur_some (a : α) (e : En) : pur (some a) e = some (.ok a e) := rfl
@[simp] theorem pur_none (e : En) : pur (none : Option α) e = none := rfl
end
@[simp] theorem gt_zero (x : Option Sl) (r : En) : gt (x :: r) 0 = x := rfl
@[simp] theorem gt_succ (x : Option Sl) (r : En) (n : Nat) : gt (x :: r) (n + 1) = gt r n := rfl
@[simp] theorem st_zero (x s : Option Sl) (r : En) : st (x :: r) 0 s = s :: r := rfl
@[simp] theorem st_succ (x s : Option Sl) (r : En) (n : Nat) : st (x :: r) (n + 1) s = x :: st r n s := rfl
@[simp] theorem e_wV (i : Nat) (e : En) : wV i e = (match gt e i with
  | some (.v d) => some (.ok d e)
  | _ => none) := rfl
@[simp] theorem e_wC (v : V) (e : En) : wC v e = (some (.ok (.at v) e)) := rfl
@[simp] theorem e_wK (d : Dt) (e : En) : wK d e = (some (.ok d e)) := rfl
@[simp] theorem e_wO (f : Dt → Dt → Option Dt) (a b : WEx) (e : En) : wO f a b e = (bnd (a e) fun x e1 => bnd (b e1) fun y e2 => pur (f x y) e2) := rfl
@[simp] theorem e_wU (f : Dt → Option Dt) (a : WEx) (e : En) : wU f a e = (bnd (a e) fun x e1 => pur (f x) e1) := rfl
@[simp] theorem e_wNil (e : En) : wNil  e = (some (.ok [] e)) := rfl
@[simp] theorem e_wCons (a : WEx) (r : WAx) (e : En) : wCons a r e = (bnd (a e) fun x e1 => bnd (r e1) fun xs e2 => some (.ok (x :: xs) e2)) := rfl
@[simp] theorem e_wB (f : List Dt → Option Dt) (r : WAx) (e : En) : wB f r e = (bnd (r e) fun xs e1 => pur (f xs) e1) := rfl
@[simp] theorem e_wT (w : WEx) (e : En) : wT w e = (bnd (w e) fun d e1 => pur (boolOf d) e1) := rfl
@[simp] theorem e_wTand (a b : WTx) (e : En) : wTand a b e = (bnd (a e) fun k e1 => match k with | true => b e1 | false => some (.ok false e1)) := rfl
@[simp] theorem e_wTor (a b : WTx) (e : En) : wTor a b e = (bnd (a e) fun k e1 => match k with | true => some (.ok true e1) | false => b e1) := rfl
@[simp] theorem e_wTnot (a : WTx) (e : En) : wTnot a e = (bnd (a e) fun k e1 => some (.ok (!k) e1)) := rfl
@[simp] theorem e_wAnd (a b : WEx) (e : En) : wAnd a b e = (bnd (a e) fun d e1 => match boolOf d with | some true => b e1 | some false => some (.ok (.bl false) e1) | none => none) := rfl
@[simp] theorem e_wOr (a b : WEx) (e : En) : wOr a b e = (bnd (a e) fun d e1 => match boolOf d with | some true => some (.ok (.bl true) e1) | some false => b e1 | none => none) := rfl
@[simp] theorem e_wNot (a : WEx) (e : En) : wNot a e = (bnd (a e) fun d e1 => match boolOf d with | some k => some (.ok (.bl (!k)) e1) | none => none) := rfl
@[simp] theorem e_wIfE (t : WTx) (a b : WEx) (e : En) : wIfE t a b e = (bnd (t e) fun k e1 => match k with | true => a e1 | false => b e1) := rfl
@[simp] theorem e_wSeq (a b : WSt) (e : En) : wSeq a b e = (match a e with
  | some (.nx e1) => b e1
  | r => r) := rfl
@[simp] theorem e_wSkip (e : En) : wSkip  e = (some (.nx e)) := rfl
@[simp] theorem e_wIf (c : WTx) (a b : WSt) (e : En) : wIf c a b e = (bns (c e) fun k e1 => match k with | true => a e1 | false => b e1) := rfl
@[simp] theorem e_wRet (a : WEx) (e : En) : wRet a e = (bns (a e) fun d e1 => some (.rt (.v d) e1)) := rfl
@[simp] theorem e_wRetN (e : En) : wRetN  e = (some (.rt (.v .non) e)) := rfl
@[simp] theorem e_wRetL (a : WAx) (e : En) : wRetL a e = (bns (a e) fun ds e1 => if ds.length ≤ sizeLine then some (.rt (.m ds) e1) else none) := rfl
@[simp] theorem e_wDo (a : WEx) (e : En) : wDo a e = (bns (a e) fun _ e1 => some (.nx e1)) := rfl
@[simp] theorem e_wBk (e : En) : wBk  e = (some (.bk e)) := rfl
@[simp] theorem e_wCt (e : En) : wCt  e = (some (.ct e)) := rfl
@[simp] theorem e_wAs (g : Tgt) (a : WEx) (e : En) : wAs g a e = (bns (a e) fun d e1 => match g d e1 with | some e2 => some (.nx e2) | none => none) := rfl
@[simp] theorem e_gN (i : Nat) (d : Dt) (e : En) : gN i d e = (some (st e i (some (.v d)))) := rfl
@[simp] theorem e_gT (is : List Nat) (d : Dt) (e : En) : gT is d e = (match d with
  | .tup ds => gL is ds e
  | _ => none) := rfl
@[simp] theorem e_wAsL (i : Nat) (ws : WAx) (e : En) : wAsL i ws e = (bns (ws e) fun ds e1 => if ds.length ≤ sizeLine then some (.nx (st e1 i (some (.m ds)))) else none) := rfl
@[simp] theorem e_wAsD (i : Nat) (e : En) : wAsD i e = (some (.nx (st e i (some (.k []))))) := rfl
@[simp] theorem e_wAsLD (i j : Nat) (e : En) : wAsLD i j e = (some (.nx (st (st e i (some (.m []))) j (some (.k []))))) := rfl
@[simp] theorem e_wAsP (i j : Nat) (ws : WAx) (e : En) : wAsP i j ws e = (bns (ws e) fun ds e1 => match ds with
  | [d1, d2] => some (.nx (st (st e1 i (some (.v d1))) j (some (.v d2))))
  | _ => none) := rfl
@[simp] theorem e_wFz (i : Nat) (e : En) : wFz i e = (match gt e i with
  | some (.v d) => some (.ok d e)
  | some (.m xs) => some (.ok (.lst xs) (st e i (some (.v (.lst xs)))))
  | some (.k kvs) => some (.ok (.dic kvs) (st e i (some (.v (.dic kvs)))))
  | none => none) := rfl
@[simp] theorem e_wIxO (i : Nat) (w : WEx) (e : En) : wIxO i w e = (bnd (pur (isM e i) e) fun _ e0 => bnd (w e0) fun d e1 => match gt e1 i with
  | some (.m xs) => (match d with
    | .at (.int j) => pur (atI xs j) e1
    | _ => none)
  | _ => none) := rfl
@[simp] theorem e_wSetO (i : Nat) (wi wv : WEx) (e : En) : wSetO i wi wv e = (bns (wv e) fun d e1 => bns (pur (isM e1 i) e1) fun _ e0 => bns (wi e0) fun k e2 => match gt e2 i with
  | some (.m xs) => (match k with
    | .at (.int j) => (match ixN xs.length j with
      | some m => some (.nx (st e2 i (some (.m (xs.set m d)))))
      | none => none)
    | _ => none)
  | _ => none) := rfl
@[simp] theorem e_wApp (i : Nat) (w : WEx) (e : En) : wApp i w e = (bns (pur (isM e i) e) fun _ e0 => bns (w e0) fun d e1 => match gt e1 i with
  | some (.m xs) => if xs.length < sizeLine then some (.nx (st e1 i (some (.m (xs ++ [d]))))) else none
  | _ => none) := rfl
@[simp] theorem e_wPutO (i : Nat) (wk wv : WEx) (e : En) : wPutO i wk wv e = (bns (wv e) fun d e1 => bns (pur (isK e1 i) e1) fun _ e0 => bns (wk e0) fun k e2 => match gt e2 i with
  | some (.k kvs) => (match keyOf k, vOf d with
    | some q, some v => if kvs.length < sizeLine then some (.nx (st e2 i (some (.k (putK kvs q v))))) else none
    | _, _ => none)
  | _ => none) := rfl
@[simp] theorem e_wInO (neg : Bool) (i : Nat) (w : WEx) (e : En) : wInO neg i w e = (bnd (w e) fun d e1 => match gt e1 i with
  | some (.k kvs) => (match keyOf d with
    | some q => some (.ok (if neg then !(valV kvs q).isSome else (valV kvs q).isSome) e1)
    | none => none)
  | _ => none) := rfl
@[simp] theorem e_wGetO (i : Nat) (wk wd : WEx) (e : En) : wGetO i wk wd e = (bnd (pur (isK e i) e) fun _ e0 => bnd (wk e0) fun k e1 => bnd (wd e1) fun d e2 => match gt e2 i with
  | some (.k kvs) => (match keyOf k, vOf d with
    | some q, some v => some (.ok (.at ((valV kvs q).getD v)) e2)
    | _, _ => none)
  | _ => none) := rfl
@[simp] theorem e_wPopO (i : Nat) (wk wd : WEx) (e : En) : wPopO i wk wd e = (bnd (pur (isK e i) e) fun _ e0 => bnd (wk e0) fun k e1 => bnd (wd e1) fun d e2 => match gt e2 i with
  | some (.k kvs) => (match keyOf k, vOf d with
    | some q, some v => (match valV kvs q with
      | some u => some (.ok (.at u) (st e2 i (some (.k (dropK kvs q)))))
      | none => some (.ok (.at v) e2))
    | _, _ => none)
  | _ => none) := rfl
@[simp] theorem e_isM (e : En) (i : Nat) : isM e i = match gt e i with
  | some (.m _) => some ()
  | _ => none := rfl
@[simp] theorem e_isK (e : En) (i : Nat) : isK e i = match gt e i with
  | some (.k _) => some ()
  | _ => none := rfl
@[simp] theorem e_wCall (f : Fn) (ws : WAx) (e : En) : wCall f ws e = (bnd (ws e) fun ds e1 => match f ds with
  | some (.ok d) => some (.ok d e1)
  | some (.er c) => some (.er c)
  | none => none) := rfl
@[simp] theorem e_wCallM (f : FnM) (i : Nat) (ws : WAx) (e : En) : wCallM f i ws e = (bnd (pur (isM e i) e) fun _ e0 => bnd (ws e0) fun ds e1 => match gt e1 i with
  | some (.m xs) => (match f xs ds with
    | some (.ok d ys) => some (.ok d (st e1 i (some (.m ys))))
    | some (.er c) => some (.er c)
    | none => none)
  | _ => none) := rfl
@[simp] theorem e_wAsO (f : FnO) (i : Nat) (ws : WAx) (e : En) : wAsO f i ws e = (bns (ws e) fun ds e1 => match f ds with
  | some (.ok xs) => some (.nx (st e1 i (some (.m xs))))
  | some (.er c) => some (.er c)
  | none => none) := rfl
@[simp] theorem e_wRaise (c : Str) (e : En) : wRaise c e = (some (.er c)) := rfl
@[simp] theorem e_wCh (a b c : WEx) (e : En) : wCh a b c e = (bnd (a e) fun x e1 => bnd (b e1) fun y e2 => match fLe x y with
  | some (.at (.bl true)) => bnd (c e2) fun z e3 => pur (fLe y z) e3
  | some (.at (.bl false)) => some (.ok (.bl false) e2)
  | _ => none) := rfl
@[simp] theorem e_wI (f : List Dt → Option (List Dt)) (ws : WAx) (e : En) : wI f ws e = (bnd (ws e) fun ds e1 => pur (f ds) e1) := rfl
@[simp] theorem e_wIt (w : WEx) (e : En) : wIt w e = (bnd (w e) fun d e1 => pur (itemsOf d) e1) := rfl
@[simp] theorem e_wItL (w : WEx) (e : En) : wItL w e = (bnd (w e) fun d e1 => pur (listOf d) e1) := rfl
@[simp] theorem e_wP0 (e : En) : wP0  e = (some (.ok none e)) := rfl
@[simp] theorem e_wP1 (w : WEx) (e : En) : wP1 w e = (bnd (w e) fun d e1 => pur (intOf d) e1) := rfl
@[simp] theorem e_wSl (w : WEx) (l h : WPx) (e : En) : wSl w l h e = (bnd (w e) fun d e1 => bnd (l e1) fun lo e2 => bnd (h e2) fun hi e3 => pur (fSl d lo hi) e3) := rfl
@[simp] theorem e_wFor (it : WIx) (g : Tgt) (b : WSt) (e : En) : wFor it g b e = (bns (it e) fun xs e1 => forL g b xs e1) := rfl
@[simp] theorem e_wYes (e : En) : wYes  e = (some (.ok true e)) := rfl
@[simp] theorem e_wLc (it : WIx) (g : Tgt) (c : WTx) (t : WEx) (own : List Nat) (e : En) : wLc it g c t own e = (bnd (it e) fun xs e1 => match lcL g c t own xs (wipeE e1 own) with
  | some (ys, e2) => some (.ok (.lst ys) (rsE e1 e2 own))
  | none => none) := rfl
@[simp] theorem e_wIsiT (w : WEx) (ns : List String) (e : En) : wIsiT w ns e = (bnd (w e) fun d e1 => match tyN d with
  | some m => (match kitAll m ns with
    | some r => some (.ok (.bl r) e1)
    | none => none)
  | none => none) := rfl
@[simp] theorem iniE_nil (n : Nat) : iniE n [] = List.replicate n none := by unfold iniE; rfl
@[simp] theorem iniE_cons (n : Nat) (d : Dt) (ds : List Dt) : iniE n (d :: ds) = some (.v d) :: iniE (n - 1) ds := rfl
@[simp] theorem fTup_e (ds : List Dt) : fTup ds = if ds.length ≤ sizeLine then some (.tup ds) else none := rfl
@[simp] theorem fLst_e (ds : List Dt) : fLst ds = if ds.length ≤ sizeLine then some (.lst ds) else none := rfl
@[simp] theorem boolOf_e (b : Bool) : boolOf (.at (.bl b)) = some b := rfl
@[simp] theorem gL_nil (e : En) : gL [] [] e = some e := rfl
@[simp] theorem gL_cons (i : Nat) (is : List Nat) (d : Dt) (ds : List Dt) (e : En) : gL (i :: is) (d :: ds) e = gL is ds (st e i (some (.v d))) := rfl
@[simp] theorem forL_nil (g : Tgt) (b : WSt) (e : En) : forL g b [] e = some (.nx e) := rfl
@[simp] theorem itemsOf_l (xs : List Dt) : itemsOf (.lst xs) = some xs := rfl
@[simp] theorem itemsOf_t (xs : List Dt) : itemsOf (.tup xs) = some xs := rfl
@[simp] theorem itemsOf_s (ns : List Int) : itemsOf (.scr ns) = some (ns.map Dt.int) := rfl
@[simp] theorem listOf_l (xs : List Dt) : listOf (.lst xs) = some xs := rfl
theorem ofS_inj {a b : String} (h : Str.ofString a = Str.ofString b) : a = b := by
  rw [PySem.Str.ofString_eq_toList, PySem.Str.ofString_eq_toList] at h
  injection h with h
  have h2 : a.toList.map Char.toNat = b.toList.map Char.toNat := by simpa using congrArg Array.toList h
  have inj : ∀ (x y : List Char), x.map Char.toNat = y.map Char.toNat → x = y := by
    intro x
    induction x with
    | nil => intro y h; cases y with
      | nil => rfl
      | cons d y => cases h
    | cons c x ih => intro y h; cases y with
      | nil => cases h
      | cons d y =>
        injection h with h1 h3
        have hc : c = d := Char.ext (UInt32.toNat_inj.mp h1)
        rw [hc, ih y h3]
  exact String.toList_inj.mp (inj _ _ h2)
@[simp] theorem ofS_eq (a b : String) : (Str.ofString a = Str.ofString b) = (a = b) := propext ⟨ofS_inj, fun h => by rw [h]⟩
@[simp] theorem wipeE_nil (e : En) : wipeE e [] = e := rfl
@[simp] theorem wipeE_cons (e : En) (i : Nat) (is : List Nat) : wipeE e (i :: is) = st (wipeE e is) i none := rfl
@[simp] theorem rsE_nil (e0 e : En) : rsE e0 e [] = e := rfl
@[simp] theorem rsE_cons (e0 e : En) (i : Nat) (is : List Nat) : rsE e0 e (i :: is) = st (rsE e0 e is) i (nown (gt e0 i)) := rfl
@[simp] theorem nown_none : nown none = none := rfl
@[simp] theorem nown_v (d : Dt) : nown (some (.v d)) = some (.v d) := rfl
@[simp] theorem lcL_nil (g : Tgt) (c : WTx) (t : WEx) (own : List Nat) (e : En) : lcL g c t own [] e = some ([], e) := rfl
@[simp] theorem lcL_cons (g : Tgt) (c : WTx) (t : WEx) (own : List Nat) (x : Dt) (xs : List Dt) (e : En) : lcL g c t own (x :: xs) e = (match g x e with
    | none => none
    | some e1 => match c e1 with
      | some (.ok true e2) => (match t e2 with
        | some (.ok y e3) => (match lcL g c t own xs (wipeE e3 own) with
          | some (ys, e4) => some (y :: ys, e4)
          | none => none)
        | _ => none)
      | some (.ok false e2) => lcL g c t own xs (wipeE e2 own)
      | _ => none) := rfl
@[simp] theorem forL_cons (g : Tgt) (b : WSt) (d : Dt) (ds : List Dt) (e : En) : forL g b (d :: ds) e = (match g d e with
    | none => none
    | some e1 => match b e1 with
      | some (.nx e2) => forL g b ds e2
      | some (.ct e2) => forL g b ds e2
      | some (.bk e2) => some (.nx e2)
      | r => r) := rfl
@[simp] theorem whL_succ (c : WTx) (b : WSt) (n : Nat) (e : En) : whL c b (n + 1) e = bns (c e) fun k e1 => match k with
    | false => some (.nx e1)
    | true => match b e1 with
      | some (.nx e2) => whL c b n e2
      | some (.ct e2) => whL c b n e2
      | some (.bk e2) => some (.nx e2)
      | r => r := rfl
def errW : List (Str × Str) := [("InvalidCrew", "crew"), ("InvalidWalker", "walker"), ("InvalidBeat", "beat"), ("InvalidPlace", "place"), ("InvalidSeen", "seen"), ("InvalidText", "text"), ("NothingLeft", "left")]
def errN (c : Str) : Option Str := errW.lookup c
def wPr (a : Addr) (c : Str) (w x : Str) : WEx := wB fTup (wCons (wC (.str w)) (wCons (wIsE a c x 0) wNil))
def wErr (a : Addr) (c : Str) : WSt :=
  wSeq (wAsL 1 (wCons (wPr a c "crew" "InvalidCrew") wNil)) (wSeq (wApp 1 (wPr a c "walker" "InvalidWalker")) (wSeq (wApp 1 (wPr a c "beat" "InvalidBeat")) (wSeq (wApp 1 (wPr a c "place" "InvalidPlace"))
  (wSeq (wApp 1 (wPr a c "seen" "InvalidSeen")) (wSeq (wApp 1 (wPr a c "text" "InvalidText")) (wSeq (wApp 1 (wPr a c "left" "NothingLeft"))
  (wRet (wO fJn (wC (.str "+")) (wLc (wItL (wFz 1)) (gT [2, 3]) (wT (wV 3)) (wV 2) [2, 3])))))))))
theorem errN_in {c n : Str} (h : errN c = some n) : (c, n) ∈ errW := PySem.mem_of_lookup h
theorem err_mean : ∀ (a : Addr) (c n : Str), errN c = some n → ∃ e, wErr a c (iniE 4 [.at (.ref a)]) = some (.rt (.v (.str n)) e) := fun a c n h => by
  have hi : isEx a (.at (.ref a)) = true := by simp [isEx]
  have key : ∀ x, wIsE a c x 0 = fun e => match gt e 0 with
    | some (.v d) => if isEx a d = true then some (.ok (.bl (decide (c = x))) e) else none
    | _ => none := fun x => rfl
  have hm := errN_in h
  simp only [errW, List.mem_cons, List.not_mem_nil, or_false, Prod.mk.injEq] at hm
  have jl : ∀ (x : String), x.toList.length ≤ 100 → (Str.ofString x).length + (Str.ofString "+").length ≤ 16777216 := fun x hx => by
    rw [PySem.Str.ofString_eq_toList, PySem.Str.ofString_eq_toList]
    show (x.toList.map Char.toNat).toArray.size + ("+".toList.map Char.toNat).toArray.size ≤ _
    rw [List.size_toArray, List.size_toArray, List.length_map, List.length_map]
    have : "+".toList.length ≤ 100 := by decide
    omega
  have j1 : ∀ (x : Str), Txt.join (Str.ofString "+") [x] = x := fun x => by
    rw [TL.join_eq]; rfl
  rcases hm with ⟨rfl, rfl⟩ | ⟨rfl, rfl⟩ | ⟨rfl, rfl⟩ | ⟨rfl, rfl⟩ | ⟨rfl, rfl⟩ | ⟨rfl, rfl⟩ | ⟨rfl, rfl⟩ <;>
  · simp [wErr, wPr, wIsE, hi, sizeLine_eq, fJn, jn, strsOf]
    rw [if_pos (jl _ (by decide)), j1]
    exact ⟨_, rfl⟩
/-! ### a def with lambdas: its code object is known -/
section
variable {P : Program} {w : World} {K : PySem.W.Frag} {mg : Str → Option Value} {base : Heap}
theorem fn_pureC {x qual : Str} {params : Arguments} {body : List Stmt} {scope : Scope} {f c : Addr} {fd : FuncData} {N ps : List Str} {k : Nat} (n : Nat) (T : List (Addr × Str)) (cl : Str → Option Addr) (ws : WSt)
    (F : FunD K x qual params body scope [] [] f fd) (hc : fd.code = .ref c) (S : FnScope N ps scope) (hn : N.length = n)
    (hbody : ∀ (A : Around) (outer : List Env) (s : Shared) (H : Hp) (E : XK) (Fz : Hp), Room k (A.deeper (envOfC qual scope s.heap.objs.size f (.ref c))) →
      PSs (cxOf (L2N.CX P w) P w K mg base N qual scope f (.ref c) A outer s H E) body (TSx (K := K) ⟨⟨Fz, H, none, T, n⟩, E, cl⟩ ws)) :
    FnOk P w K mg base (L2N.CX P w) (k + 1) f fd ps (spP K T cl ps.length (semOf ps.length n ws)) := by
  obtain ⟨oc, od, dV, kV, doc, pm, an, cdv, ct, osl, rfl, lk, hcd, _, _⟩ := F.ex
  obtain rfl : cdv = .ref c := hc
  refine fn_of lk hcd S (fun vs H Q E h => h.1) fun A outer s H vs Q E hr ⟨hl, Fz, ds, sm, r, tb, tF, hq⟩ => ⟨_, hbody A outer s H E Fz hr, ?_⟩
  have hds : ds.length = vs.length := r.len
  have hpl : ps.length ≤ N.length := by have := congrArg List.length S.pre; rw [List.length_take] at this; omega
  refine ⟨Fz, iniE n ds, Rl.ini sm r tb tF (by omega) (by rw [start_len (by omega), hn]) (fun i v => start_get), ?_⟩
  unfold semOf at hq
  rw [if_pos (by omega)] at hq
  revert hq
  cases hw : ws (iniE n ds) with
  | none => exact fun h => h
  | some o =>
    cases o with
    | nx e1 => exact fun h F' H' σ' _ R' => h F' H' _ R'.bare (rep_at.mpr rfl)
    | rt t e1 =>
      cases t with
      | v d => exact fun h F' H' σ' v _ R' r' _ => h F' H' v R'.bare r'
      | m xs =>
        exact fun h F' H' σ' v _ R' r' hb => by
          obtain ⟨F'', q1, q2⟩ := R'.out r' (hb trivial)
          exact h F'' H' v q1 q2
      | k kvs => exact fun h => h.elim
    | bk e1 => exact fun h => h.elim
    | ct e1 => exact fun h => h.elim
    | er c => exact fun h a F' H' σ' e' hc R' => h a F' H' hc R'.bare
theorem GfA.of {T : List (Addr × Str)} {cl : Str → Option Addr} {j k : Nat} {x : Str} {f : Fn} {fa : Addr} (G : Gf P w K mg base T cl j x k f) (hm : mg x = some (.ref fa)) : GfA P w K mg base T cl j fa k f := by
  obtain ⟨fb, fd, ps, a, b, c, d⟩ := G.ex
  rw [hm] at b
  cases b
  exact ⟨fd, ps, a, c, d⟩
theorem GfA.mono {T : List (Addr × Str)} {cl : Str → Option Addr} {j j' k : Nat} {f : Fn} {fa : Addr} (G : GfA P w K mg base T cl j fa k f) (h : j ≤ j') : GfA P w K mg base T cl j' fa k f := by
  obtain ⟨fd, ps, a, b⟩ := G.ex
  exact ⟨fd, ps, a.mono h, b⟩
def noTbl : Option HO → Option HO
  | some (.tbl _) => none
  | o => o
def oneH (H : Hp) (a : Addr) : Hp := fun b => if b = a then noTbl (H a) else none
theorem noTbl_some {o : Option HO} {u : HO} (h : noTbl o = some u) : o = some u ∧ ∀ ps, u ≠ .tbl ps := by
  unfold noTbl at h
  split at h
  · cases h
  · rename_i hne
    exact ⟨h, fun ps z => hne ps (by rw [h, z])⟩
theorem oneH_some {H : Hp} {a b : Addr} {u : HO} (h : oneH H a b = some u) : H b = some u ∧ ∀ ps, u ≠ .tbl ps := by
  unfold oneH at h
  by_cases z : b = a
  · rw [if_pos z] at h; rw [z]; exact noTbl_some h
  · rw [if_neg z] at h; cases h
theorem oneH_at {H : Hp} {a : Addr} {u : HO} (h : H a = some u) (hn : ∀ ps, u ≠ .tbl ps) : oneH H a a = some u := by
  unfold oneH
  rw [if_pos rfl, h]
  unfold noTbl
  split
  · rename_i ps heq; cases heq; exact absurd rfl (hn ps)
  · rfl
/-- the law's promise: its meaning on a script is True -/
theorem sp_law {T : List (Addr × Str)} {cl : Str → Option Addr} {f : Fn} {H : Hp} {a : Addr} {ns : List Int} (hs : SqL K H a (ns.map V.int)) (hl : ns.length ≤ sizeLine) (tb : LamX.Tabs T H) (hf : f [.scr ns] = some (.ok (.bl true))) :
    spP K T cl 1 f [.ref a] H (fun v _ => v = .bl true) (fun _ _ _ => False) := by
  refine ⟨rfl, oneH H a, [.scr ns], fun b o hb => (oneH_some hb).1, reps_cons.mpr ⟨_, _, rfl, rep_scr.mpr ⟨a, rfl, ?_, hl⟩, reps_nil.mpr rfl⟩, tb, fun b ps hb => (oneH_some hb).2 ps rfl, ?_⟩
  · rcases hs with (h | ⟨o, h⟩) | hs
    · exact .inl (.inl (oneH_at h fun ps z => by cases z))
    · exact .inl (.inr ⟨o, oneH_at h fun ps z => by cases z⟩)
    · exact .inr hs
  · rw [hf]
    intro F' H' v _ r
    exact rep_at.mp r
end
/-- the name under which a def's lambdas stand -/
def lamQ (n : Str) : Str := (envOfC n { kind := .function, names := [], isGenerator := false, isCoroutine := false } 0 0 .none).qual ++ "<lambda>"
end Ly
set_option maxHeartbeats 2000000
/-! Ly17: from the head's facts to the walk's world. -/
namespace Ly
open PySem PySem.Spec PyProof.Rows L2 LamX

def faEq : He.Fa → He.Fa → Bool
  | .glo x, .glo y => decide (x = y)
  | .free x, .free y => decide (x = y)
  | .int x i, .int y j => decide (x = y) && decide (i = j)
  | .exc x, .exc y => decide (x = y)
  | .mkr x, .mkr y => decide (x = y)
  | .exm x y b, .exm x' y' b' => decide (x = x') && (decide (y = y') && decide (b = b'))
  | _, _ => false
theorem faEq_ok {f g : He.Fa} (h : faEq f g = true) : f = g := by
  unfold faEq at h
  split at h
  · rw [of_decide_eq_true h]
  · rw [of_decide_eq_true h]
  · rw [Bool.and_eq_true] at h; rw [of_decide_eq_true h.1, of_decide_eq_true h.2]
  · rw [of_decide_eq_true h]
  · rw [of_decide_eq_true h]
  · rw [Bool.and_eq_true, Bool.and_eq_true] at h; rw [of_decide_eq_true h.1, of_decide_eq_true h.2.1, of_decide_eq_true h.2.2]
  · cases h
theorem saysT_D {fa : List He.Fa} {fn : List He.DefD} {w : World} {K : PySem.W.Frag} (c : He.SaysT fa fn [] w K) : He.SaysD fa fn K := congrArg (fun z : He.AlT => z.1) c
def clOf (K : PySem.W.Frag) (l : List Str) (x : Str) : Option Addr := if l.contains x = true then some (He.ga K x) else none
theorem clOf_at {K : PySem.W.Frag} {l : List Str} {x : Str} (h : l.contains x = true) : clOf K l x = some (He.ga K x) := if_pos h
theorem clOf_inv {K : PySem.W.Frag} {l : List Str} {x : Str} {C : Addr} (h : clOf K l x = some C) : l.contains x = true ∧ He.ga K x = C := by
  unfold clOf at h
  split at h
  · rename_i hc; exact ⟨hc, Option.some.inj h⟩
  · cases h
theorem gx_of {h : Heap} {K : PySem.W.Frag} {mg : Str → Option Value} {cl : Str → Option Addr} {x : Str} (X : K.In h) (G : h.Ns mainGlobals mg) (c : (He.Fa.glo x).ok K = true) (e : (He.Fa.exc x).ok K = true) (hc : cl x = some (He.ga K x)) : Gx K mg cl x := by
  obtain ⟨e1, e2, e3, e4⟩ := He.exc_ok e
  exact ⟨He.ga K x, He.glo_ok X G c, hc, e1, e2, e3, e4⟩
def excCB (K : PySem.W.Frag) (D : Addr) : Bool :=
  decide (PySem.W.findIn K (.ref D) "__getattribute__" = some (some (.builtin "BaseException.__getattribute__"))) && (decide (PySem.W.findIn K (.ref D) "__getattr__" = some none) && (decide (PySem.W.subIn K (.ref D) (.type "BaseException") = some true) &&
  (PySem.W.hasDictIn K D && (decide (PySem.W.findIn K (.ref D) "__class__" = some (some (.builtin "object.__class__"))) && (decide (PySem.W.specialIn K (.builtin "object.__class__") "__get__" = some (some (.builtin "getset_descriptor.__get__"))) &&
  (decide (PySem.W.takesIn K (.builtin "object.__class__") = some true) && decide (PySem.W.mroIn K D (.type "object") = some true)))))))
theorem excCB_ok {K : PySem.W.Frag} {D : Addr} (h : excCB K D = true) : ExcC K D := by
  unfold excCB at h
  simp only [Bool.and_eq_true, decide_eq_true_eq] at h
  obtain ⟨h1, h2, h3, h4, h5, h6, h7, h8⟩ := h
  exact ⟨h1, h2, h3, h4, h5, h6, h7, h8⟩
def clsB (K : PySem.W.Frag) (l : List Str) : Bool := l.all fun c => excCB K (He.ga K c) && l.all fun x => decide (PySem.W.kitOne K (.ref (He.ga K c)) (.ref (He.ga K x)) = some (decide (c = x)))
theorem clsB_ok {K : PySem.W.Frag} {l : List Str} (h : clsB K l = true) : ∀ c n C, clOf K l c = some C → errN c = some n → ClsOk K (clOf K l) c C := fun c n C hc _ => by
  obtain ⟨h1, rfl⟩ := clOf_inv hc
  have h2 := List.all_eq_true.mp h c (List.contains_iff_mem.mp h1)
  rw [Bool.and_eq_true] at h2
  refine ⟨excCB_ok h2.1, fun x D hx => ?_⟩
  obtain ⟨h3, rfl⟩ := clOf_inv hx
  exact of_decide_eq_true (List.all_eq_true.mp h2.2 x (List.contains_iff_mem.mp h3))
theorem rep_strs_of {K : PySem.W.Frag} {F : Hp} {a : Addr} {l : List Str} {vs : List V} (h : SqT K F a vs) (e : vs = l.map V.str := by rfl) (hl : l.length ≤ sizeLine := by decide) : Rep K F (.tup (l.map Dt.str)) (.ref a) := by
  subst e
  have r : Reps K F ((l.map V.str).map Dt.at) (l.map V.str) := reps_ats.mpr rfl
  rw [List.map_map] at r
  exact rep_tup.mpr ⟨a, _, rfl, h, r, by rw [List.length_map]; exact hl⟩
end Ly
set_option maxHeartbeats 2000000
/-! Ly18: the end: the law's promise at the head's heap. -/
namespace Ly
open PySem PySem.Spec PyProof.Rows L2 LamX

theorem cxFalse {P : Program} {w : World} {outer : List Env} {H : Hp} {s : Shared} {e : Value} {t : Shared} (h : L2N.CX P w outer H s (fun _ _ _ => False) e t) : False := by
  obtain ⟨_, _, _, _, _, _, _, _, _, _, _, _, z⟩ := h
  exact z.elim
/-- the tables of the defs that make lambdas, and the names that stand in them -/
def tabsOf (K : PySem.W.Frag) (tf : List He.Defn) : List (Addr × Str) := tf.map fun p => ((He.cT K p).2, lamQ p.1)
theorem tabs_nil {K : PySem.W.Frag} {tf : List He.Defn} {H : Hp} (h : ∀ p ∈ tf, H (He.cT K p).2 = some (.tbl #[])) : Tabs (tabsOf K tf) H := fun q hq => by
  obtain ⟨p, hp, rfl⟩ := List.mem_map.mp hq
  exact TabS.nil (h p hp)
theorem hcd_of {K : PySem.W.Frag} {x q : Str} {pa : Arguments} {bo : List Stmt} {sc : Scope} {p : He.Defn} {fd : FuncData} (F : FunD K x q pa bo sc [] [] (He.fAd K p) fd) : fd.code = .ref (He.cT K p).1 := by
  obtain ⟨oc, od, dV, kV, doc, pm, an, cdv, ct, osl, rfl, lk, hcd, _, _⟩ := F.ex
  obtain ⟨c, rfl⟩ := He.codeIn_ref hcd
  show Value.ref c = .ref (He.codeOf K p)
  rw [He.codeOf_eq lk rfl]
theorem lawAt {l : PySem.W.OpenLaw} {w : World} {K : PySem.W.Frag} {k n : Nat} {mg : Str → Option Value} {fa : Addr} {fd : FuncData} {h : Heap} {cl : Str → Option Addr} {f : Fn} {tf : List He.Defn} {pa : Arguments} {bo : List Stmt} {sc : Scope} (X : K.In h)
    (hd : ∀ q ∈ tf, PySem.W.codeHdIn K (He.cT K q).1 (He.cT K q).2 = true) (out : ∀ q ∈ tf, K.lookup (He.cT K q).2 = none) (em : ∀ q ∈ tf, h.get? (He.cT K q).2 = some { cls := .none, data := .fields #[] })
    (F : FunD K "law" "law" pa bo sc [] [] fa fd) (hbi : ∀ (kV doc pm : Value) (an : Option Addr) (cdv ct : Value) (us : List Value), us.length = (["script"] : List Str).length → bindArgs (PySem.W.fnOf "law" "law" pa bo sc .none kV doc pm an cdv ct) ⟨us, []⟩ = pure ((["script"] : List Str).zip us))
    (hok : ∀ base : Heap, K.In base → base.Ns mainGlobals mg → (∀ q ∈ tf, TabB base mg (He.cT K q).1 (He.cT K q).2) → FnOk l.prog w K mg base (L2N.CX l.prog w) k fa fd ["script"] (spP K (tabsOf K tf) cl 1 f))
    (hn : n ≤ sizeLine) (hf : ∀ ns : List Int, ns.length ≤ n → (∀ z ∈ ns, Builtin.Int.intBits z ≤ 1048576) → f [.scr ns] = some (.ok (.bl true))) : LawAtS l w K (L2N.CX l.prog w) k n "script" mg fa h := by
  refine ⟨fd, tf.map (He.cT K), spP K (tabsOf K tf) cl 1 f, fun q hq => ?_, fun q hq => ?_, fun q hq => ?_, fun s u => FunD.bindsA (ps := ["script"]) F hbi s [u] rfl, fun H a ns h1 h2 h3 h4 => ?_, fun base hb gb tb => hok base hb gb fun q hq => tb _ (List.mem_map_of_mem hq)⟩
  · obtain ⟨p, hp, rfl⟩ := List.mem_map.mp hq; exact em p hp
  · obtain ⟨p, hp, rfl⟩ := List.mem_map.mp hq; exact out p hp
  · obtain ⟨p, hp, rfl⟩ := List.mem_map.mp hq; exact PySem.W.codeHd_of_K X (hd p hp)
  · exact sp_law h4 (Nat.le_trans h1 hn) (tabs_nil fun p hp => h3 _ (List.mem_map_of_mem hp)) (hf ns h1 h2)
end Ly
set_option maxHeartbeats 2000000
/-! Ly19: facts for the laws' arithmetic: tables, loops, comprehensions. -/
namespace Ly
open PySem PySem.Spec PyProof.Rows L2
@[simp] theorem kit_NoneType_int : kitC "NoneType" "int" = some false := by decide +kernel
@[simp] theorem kit_NoneType_bool : kitC "NoneType" "bool" = some false := by decide +kernel
@[simp] theorem kit_NoneType_tuple : kitC "NoneType" "tuple" = some false := by decide +kernel
@[simp] theorem kit_NoneType_list : kitC "NoneType" "list" = some false := by decide +kernel
@[simp] theorem kit_NoneType_str : kitC "NoneType" "str" = some false := by decide +kernel
@[simp] theorem kit_bool_int : kitC "bool" "int" = some true := by decide +kernel
@[simp] theorem kit_bool_bool : kitC "bool" "bool" = some true := by decide +kernel
@[simp] theorem kit_bool_tuple : kitC "bool" "tuple" = some false := by decide +kernel
@[simp] theorem kit_bool_list : kitC "bool" "list" = some false := by decide +kernel
@[simp] theorem kit_bool_str : kitC "bool" "str" = some false := by decide +kernel
@[simp] theorem kit_int_int : kitC "int" "int" = some true := by decide +kernel
@[simp] theorem kit_int_bool : kitC "int" "bool" = some false := by decide +kernel
@[simp] theorem kit_int_tuple : kitC "int" "tuple" = some false := by decide +kernel
@[simp] theorem kit_int_list : kitC "int" "list" = some false := by decide +kernel
@[simp] theorem kit_int_str : kitC "int" "str" = some false := by decide +kernel
@[simp] theorem kit_str_int : kitC "str" "int" = some false := by decide +kernel
@[simp] theorem kit_str_bool : kitC "str" "bool" = some false := by decide +kernel
@[simp] theorem kit_str_tuple : kitC "str" "tuple" = some false := by decide +kernel
@[simp] theorem kit_str_list : kitC "str" "list" = some false := by decide +kernel
@[simp] theorem kit_str_str : kitC "str" "str" = some true := by decide +kernel
@[simp] theorem kit_list_int : kitC "list" "int" = some false := by decide +kernel
@[simp] theorem kit_list_bool : kitC "list" "bool" = some false := by decide +kernel
@[simp] theorem kit_list_tuple : kitC "list" "tuple" = some false := by decide +kernel
@[simp] theorem kit_list_list : kitC "list" "list" = some true := by decide +kernel
@[simp] theorem kit_list_str : kitC "list" "str" = some false := by decide +kernel
@[simp] theorem kit_tuple_int : kitC "tuple" "int" = some false := by decide +kernel
@[simp] theorem kit_tuple_bool : kitC "tuple" "bool" = some false := by decide +kernel
@[simp] theorem kit_tuple_tuple : kitC "tuple" "tuple" = some true := by decide +kernel
@[simp] theorem kit_tuple_list : kitC "tuple" "list" = some false := by decide +kernel
@[simp] theorem kit_tuple_str : kitC "tuple" "str" = some false := by decide +kernel
@[simp] theorem kit_dict_int : kitC "dict" "int" = some false := by decide +kernel
@[simp] theorem kit_dict_bool : kitC "dict" "bool" = some false := by decide +kernel
@[simp] theorem kit_dict_tuple : kitC "dict" "tuple" = some false := by decide +kernel
@[simp] theorem kit_dict_list : kitC "dict" "list" = some false := by decide +kernel
@[simp] theorem kit_dict_str : kitC "dict" "str" = some false := by decide +kernel
mutual
def plB : Dt → Bool
  | .at .non => true
  | .at (.bl _) => true
  | .at (.int _) => true
  | .at (.str s) => PyData.strOk s
  | .lst xs => plBs xs && decide (xs.length ≤ 10000)
  | .tup xs => plBs xs && decide (xs.length ≤ 10000)
  | _ => false
def plBs : List Dt → Bool
  | [] => true
  | x :: xs => plB x && plBs xs
end
theorem plBs_mem : ∀ {xs : List Dt} {x : Dt}, plBs xs = true → x ∈ xs → plB x = true
  | [], _, _, h => nomatch h
  | y :: ys, x, h, hx => by
    rw [plBs, Bool.and_eq_true] at h
    rcases List.mem_cons.mp hx with e | e
    · rw [e]; exact h.1
    · exact plBs_mem h.2 e
theorem plBs_of : ∀ {xs : List Dt}, (∀ x ∈ xs, plB x = true) → plBs xs = true
  | [], _ => by rw [plBs]
  | y :: ys, h => by
    rw [plBs, Bool.and_eq_true]
    exact ⟨h y List.mem_cons_self, plBs_of fun x hx => h x (List.mem_cons_of_mem _ hx)⟩
mutual
def dep : Dt → Nat
  | .lst xs => deps xs + 1
  | .tup xs => deps xs + 1
  | _ => 0
def deps : List Dt → Nat
  | [] => 0
  | x :: xs => max (dep x) (deps xs)
end
theorem deps_mem : ∀ {xs : List Dt} {x : Dt}, x ∈ xs → dep x ≤ deps xs
  | [], _, h => nomatch h
  | y :: ys, x, hx => by
    rw [deps]
    rcases List.mem_cons.mp hx with e | e
    · rw [e]; exact Nat.le_max_left _ _
    · exact Nat.le_trans (deps_mem e) (Nat.le_max_right _ _)
theorem deps_le : ∀ {xs : List Dt} {n : Nat}, (∀ x ∈ xs, dep x ≤ n) → deps xs ≤ n
  | [], _, _ => by rw [deps]; exact Nat.zero_le _
  | y :: ys, n, h => by
    rw [deps]
    exact Nat.max_le.mpr ⟨h y List.mem_cons_self, deps_le fun x hx => h x (List.mem_cons_of_mem _ hx)⟩
theorem plB_ty {d : Dt} (h : plB d = true) : ∃ m, tyN d = some m := by
  cases d with
  | «at» v => cases v <;> first | exact ⟨_, rfl⟩ | (simp [plB] at h)
  | lst xs => exact ⟨_, rfl⟩
  | tup xs => exact ⟨_, rfl⟩
  | dic xs => exact ⟨_, rfl⟩
  | scr xs => simp [plB] at h
/-! ### loops -/
theorem forL_inv {g : Tgt} {b : WSt} (P : En → Prop) : ∀ {ds : List Dt} {e : En}, (∀ d ∈ ds, ∀ e, P e → ∃ e1, g d e = some e1 ∧ ∃ e2, (b e1 = some (.nx e2) ∨ b e1 = some (.ct e2)) ∧ P e2) → P e → ∃ e2, forL g b ds e = some (.nx e2) ∧ P e2
  | [], e, _, h => ⟨e, rfl, h⟩
  | d :: ds, e, hs, h => by
    obtain ⟨e1, h1, e2, h2, h3⟩ := hs d List.mem_cons_self e h
    obtain ⟨e3, h4, h5⟩ := forL_inv P (fun x hx => hs x (List.mem_cons_of_mem _ hx)) h3
    refine ⟨e3, ?_, h5⟩
    rw [forL_cons, h1]
    rcases h2 with h2 | h2 <;> simp only [h2] <;> exact h4
/-- .. with the place told -/
theorem forL_ix {g : Tgt} {b : WSt} (P : Nat → En → Prop) : ∀ {ds : List Dt} {k : Nat} {e : En}, (∀ i d, ds[i]? = some d → ∀ e, P (k + i) e → ∃ e1, g d e = some e1 ∧ ∃ e2, (b e1 = some (.nx e2) ∨ b e1 = some (.ct e2)) ∧ P (k + i + 1) e2) → P k e → ∃ e2, forL g b ds e = some (.nx e2) ∧ P (k + ds.length) e2
  | [], k, e, _, h => ⟨e, rfl, h⟩
  | d :: ds, k, e, hs, h => by
    obtain ⟨e1, h1, e2, h2, h3⟩ := hs 0 d rfl e h
    obtain ⟨e3, h4, h5⟩ := forL_ix P (ds := ds) (k := k + 1) (fun i x hx e he => by
      have := hs (i + 1) x (by simpa using hx) e (by rw [show k + (i + 1) = k + 1 + i by omega]; exact he)
      rw [show k + (i + 1) + 1 = k + 1 + i + 1 by omega] at this
      exact this) h3
    refine ⟨e3, ?_, by rw [show k + (d :: ds).length = k + 1 + ds.length by simp; omega]; exact h5⟩
    rw [forL_cons, h1]
    rcases h2 with h2 | h2 <;> simp only [h2] <;> exact h4
/-- a comprehension whose parts leave the slots as they were -/
theorem lcL_pure {g : Tgt} {c : WTx} {t : WEx} {own : List Nat} {e0 : En} (cb : Dt → Bool) (y : Dt → Dt) : ∀ {xs : List Dt}, (∀ x ∈ xs, ∃ e1, g x e0 = some e1 ∧ c e1 = some (.ok (cb x) e1) ∧ (cb x = true → t e1 = some (.ok (y x) e1)) ∧ wipeE e1 own = e0) → lcL g c t own xs e0 = some ((xs.filter cb).map y, e0)
  | [], _ => rfl
  | x :: xs, h => by
    obtain ⟨e1, h1, h2, h3, h4⟩ := h x List.mem_cons_self
    have ih := lcL_pure cb y (xs := xs) fun z hz => h z (List.mem_cons_of_mem _ hz)
    rw [lcL_cons, h1]
    cases hb : cb x with
    | true =>
      rw [hb] at h2 h3
      simp only [h2, h3 rfl, h4, ih, List.filter_cons, hb, if_true, List.map_cons]
    | false =>
      rw [hb] at h2
      simp only [h2, h4, ih, List.filter_cons, hb]
      rfl
/-- a comprehension that carries a state -/
theorem lcL_inv {g : Tgt} {c : WTx} {t : WEx} {own : List Nat} (P : En → Prop) (Y : Dt → Prop) : ∀ {xs : List Dt} {e0 : En}, (∀ x ∈ xs, ∀ e, P e → ∃ e1, g x e = some e1 ∧ ∃ b e2, c e1 = some (.ok b e2) ∧ (b = true → ∃ y e3, t e2 = some (.ok y e3) ∧ Y y ∧ P (wipeE e3 own)) ∧ (b = false → P (wipeE e2 own))) → P e0 →
    ∃ ys e2, lcL g c t own xs e0 = some (ys, e2) ∧ (∀ y ∈ ys, Y y) ∧ P e2 ∧ ys.length ≤ xs.length
  | [], e0, _, h => ⟨[], e0, rfl, (fun _ h => nomatch h), h, Nat.le_refl _⟩
  | x :: xs, e0, hs, h => by
    obtain ⟨e1, h1, b, e2, h2, h3, h4⟩ := hs x List.mem_cons_self e0 h
    cases b with
    | true =>
      obtain ⟨y, e3, h5, h6, h7⟩ := h3 rfl
      obtain ⟨ys, e4, h8, h9, h10, h11⟩ := lcL_inv P Y (xs := xs) (fun z hz => hs z (List.mem_cons_of_mem _ hz)) h7
      refine ⟨y :: ys, e4, ?_, fun z hz => ?_, h10, Nat.succ_le_succ h11⟩
      · rw [lcL_cons, h1]; simp only [h2, h5, h8]
      · rcases List.mem_cons.mp hz with e | e
        · rw [e]; exact h6
        · exact h9 z e
    | false =>
      obtain ⟨ys, e4, h8, h9, h10, h11⟩ := lcL_inv P Y (xs := xs) (fun z hz => hs z (List.mem_cons_of_mem _ hz)) (h4 rfl)
      exact ⟨ys, e4, by rw [lcL_cons, h1]; simp only [h2, h8], h9, h10, Nat.le_succ_of_le h11⟩
/-- .. every item kept -/
theorem lcL_all {g : Tgt} {t : WEx} {own : List Nat} (P : En → Prop) (Y : Dt → Prop) {xs : List Dt} {e0 : En} (h : ∀ x ∈ xs, ∀ e, P e → ∃ e1, g x e = some e1 ∧ ∃ y e3, t e1 = some (.ok y e3) ∧ Y y ∧ P (wipeE e3 own)) (h0 : P e0) :
    ∃ ys e2, lcL g wYes t own xs e0 = some (ys, e2) ∧ (∀ y ∈ ys, Y y) ∧ P e2 ∧ ys.length = xs.length := by
  induction xs generalizing e0 with
  | nil => exact ⟨[], e0, rfl, (fun _ h => nomatch h), h0, rfl⟩
  | cons x xs ih =>
    obtain ⟨e1, h1, y, e3, h5, h6, h7⟩ := h x List.mem_cons_self e0 h0
    obtain ⟨ys, e4, h8, h9, h10, h11⟩ := ih (fun z hz => h z (List.mem_cons_of_mem _ hz)) h7
    refine ⟨y :: ys, e4, ?_, fun z hz => ?_, h10, by simp [h11]⟩
    · rw [lcL_cons, h1]; simp only [e_wYes, h5, h8]
    · rcases List.mem_cons.mp hz with e | e
      · rw [e]; exact h6
      · exact h9 z e
/-! ### subscripts -/
theorem atI_nat {α : Type} {xs : List α} {i : Nat} {a : α} (h : xs[i]? = some a) : atI xs (i : Int) = some a := by
  have hl := (List.getElem?_eq_some_iff.mp h).1
  unfold atI ixN
  rw [if_pos (by omega), if_pos (by omega)]
  simpa using h
theorem fIx_tn {xs : List Dt} {i : Nat} {a : Dt} (h : xs[i]? = some a) : fIx (.tup xs) (.at (.int (i : Int))) = some a := atI_nat h
theorem fIx_ln {xs : List Dt} {i : Nat} {a : Dt} (h : xs[i]? = some a) : fIx (.lst xs) (.at (.int (i : Int))) = some a := atI_nat h
theorem fIx_sn {ns : List Int} {i : Nat} {a : Int} (h : ns[i]? = some a) : fIx (.scr ns) (.at (.int (i : Int))) = some (.int a) := atI_nat (by rw [List.getElem?_map, h]; rfl)
@[simp] theorem fIx_t0 (a : Dt) (r : List Dt) : fIx (.tup (a :: r)) (.at (.int 0)) = some a := fIx_tn (i := 0) rfl
@[simp] theorem fIx_t1 (a b : Dt) (r : List Dt) : fIx (.tup (a :: b :: r)) (.at (.int 1)) = some b := fIx_tn (i := 1) rfl
@[simp] theorem fIx_t2 (a b c : Dt) (r : List Dt) : fIx (.tup (a :: b :: c :: r)) (.at (.int 2)) = some c := fIx_tn (i := 2) rfl
theorem lcL_map {g : Tgt} {t : WEx} {own : List Nat} {e0 : En} (y : Dt → Dt) {xs : List Dt} (h : ∀ x ∈ xs, ∃ e1, g x e0 = some e1 ∧ t e1 = some (.ok (y x) e1) ∧ wipeE e1 own = e0) : lcL g wYes t own xs e0 = some (xs.map y, e0) := by
  have := lcL_pure (g := g) (c := wYes) (t := t) (own := own) (e0 := e0) (fun _ => true) y (xs := xs) fun x hx => by
    obtain ⟨e1, h1, h2, h3⟩ := h x hx
    exact ⟨e1, h1, rfl, fun _ => h2, h3⟩
  rw [this, List.filter_eq_self.mpr fun _ _ => rfl]
theorem beq_dec (a x : Str) : (a == x) = decide (x = a) := by
  by_cases h : x = a
  · subst h; simp
  · have : ¬ a = x := fun e => h e.symm
    simp [h, this]
end Ly
set_option maxHeartbeats 2000000
/-! Ly20: == of plain data. -/
namespace Ly
open PySem PySem.Spec PyProof.Rows L2

mutual
theorem pl_py : ∀ (d : Dt), plB d = true → ∃ p, toPy d = some p ∧ p.canLay0 = true ∧ p.depth = dep d
  | .at .non, _ => ⟨.none, by simp [toPy], by simp [PyData.canLay0], by simp [PyData.depth, dep]⟩
  | .at (.bl b), _ => ⟨.bool b, by simp [toPy], by simp [PyData.canLay0], by simp [PyData.depth, dep]⟩
  | .at (.int i), _ => ⟨.int i, by simp [toPy], by simp [PyData.canLay0], by simp [PyData.depth, dep]⟩
  | .at (.str x), h => ⟨.str x, by simp [toPy], by simp only [plB] at h; simp only [PyData.canLay0]; exact h, by simp [PyData.depth, dep]⟩
  | .lst xs, h => by
    simp only [plB, Bool.and_eq_true] at h
    obtain ⟨ps, h1, h2, h3⟩ := pls_py xs h.1
    exact ⟨.list ps, by simp only [toPy, h1], by simp only [PyData.canLay0]; exact h2, by simp only [PyData.depth, dep, h3]⟩
  | .tup xs, h => by
    simp only [plB, Bool.and_eq_true] at h
    obtain ⟨ps, h1, h2, h3⟩ := pls_py xs h.1
    exact ⟨.tuple ps, by simp only [toPy, h1], by simp only [PyData.canLay0]; exact h2, by simp only [PyData.depth, dep, h3]⟩
  | .at (.byt _), h => by simp [plB] at h
  | .at (.flt _), h => by simp [plB] at h
  | .at (.ref _), h => by simp [plB] at h
  | .at (.ty _), h => by simp [plB] at h
  | .dic _, h => by simp [plB] at h
  | .scr _, h => by simp [plB] at h
theorem pls_py : ∀ (xs : List Dt), plBs xs = true → ∃ ps, toPys xs = some ps ∧ PyData.canLayAll0 ps = true ∧ PyData.depthAll ps = deps xs
  | [], _ => ⟨[], by simp [toPys], by simp [PyData.canLayAll0], by simp [PyData.depthAll, deps]⟩
  | x :: xs, h => by
    rw [plBs, Bool.and_eq_true] at h
    obtain ⟨p, h1, h2, h3⟩ := pl_py x h.1
    obtain ⟨ps, g1, g2, g3⟩ := pls_py xs h.2
    exact ⟨p :: ps, by simp only [toPys, h1, g1], by simp only [PyData.canLayAll0, h2, g2]; rfl, by simp only [PyData.depthAll, deps, h3, g3]⟩
end
mutual
theorem eqv_self : ∀ (p : PyData), p.canLay0 = true → PyData.eqv p p = true
  | .none, _ => by simp [PyData.eqv]
  | .bool _, _ => by simp [PyData.eqv]
  | .int _, _ => by simp [PyData.eqv]
  | .str _, _ => by simp [PyData.eqv]
  | .list xs, h => by simp only [PyData.canLay0] at h; simp only [PyData.eqv]; exact eqvs_self xs h
  | .tuple xs, h => by simp only [PyData.canLay0] at h; simp only [PyData.eqv]; exact eqvs_self xs h
  | .dict _, h => by simp [PyData.canLay0] at h
theorem eqvs_self : ∀ (ps : List PyData), PyData.canLayAll0 ps = true → PyData.eqvAll ps ps = true
  | [], _ => by simp [PyData.eqvAll]
  | p :: ps, h => by
    simp only [PyData.canLayAll0, Bool.and_eq_true] at h
    simp only [PyData.eqvAll, eqv_self p h.1, eqvs_self ps h.2]; rfl
end
/-- == of plain data, as a Bool -/
def eqD (a b : Dt) : Bool := match toPy a, toPy b with
  | some p, some q => PyData.eqv p q
  | _, _ => false
theorem scal_eqv {v w : V} {p q : PyData} (hs : scal v w = true) (h1 : toPy (.at v) = some p) (h2 : toPy (.at w) = some q) : decide (v = w) = PyData.eqv p q := by
  cases v <;> simp only [toPy, Option.some.injEq, reduceCtorEq] at h1 <;> subst h1 <;> cases w <;> simp only [toPy, Option.some.injEq, reduceCtorEq] at h2 <;> subst h2 <;> simp [scal] at hs <;> simp [PyData.eqv, Bool.beq_eq_decide_eq]
theorem shaped_of {p : PyData} {n : Nat} (h1 : p.canLay0 = true) (h2 : p.depth = n) (h3 : n ≤ 64) : SeqAt.shaped p = true := by
  unfold SeqAt.shaped
  rw [h1, h2, decide_eq_true h3]; rfl
theorem eqB_pl {a b : Dt} (ha : plB a = true) (hb : plB b = true) (da : dep a ≤ 64) (db : dep b ≤ 64) : eqB a b = some (eqD a b) := by
  obtain ⟨p, h1, h2, h3⟩ := pl_py a ha
  obtain ⟨q, g1, g2, g3⟩ := pl_py b hb
  have sp := shaped_of h2 h3 da
  have sq := shaped_of g2 g3 db
  have hd : eqD a b = PyData.eqv p q := by unfold eqD; rw [h1, g1]
  have key : (match toPy a, toPy b with
    | some p, some q => if (SeqAt.shaped p && SeqAt.shaped q) = true then some (PyData.eqv p q) else none
    | _, _ => none) = some (eqD a b) := by
    rw [h1, g1, hd]
    simp [sp, sq]
  unfold eqB
  split
  · rename_i v w
    split
    · rename_i hs
      rw [scal_eqv hs h1 g1, hd]
    · exact key
  · exact key
theorem fEq_pl {a b : Dt} (ha : plB a = true) (hb : plB b = true) (da : dep a ≤ 64) (db : dep b ≤ 64) : fEq a b = some (.bl (eqD a b)) := by unfold fEq; rw [eqB_pl ha hb da db]
theorem fNe_pl {a b : Dt} (ha : plB a = true) (hb : plB b = true) (da : dep a ≤ 64) (db : dep b ≤ 64) : fNe a b = some (.bl (!eqD a b)) := by unfold fNe; rw [eqB_pl ha hb da db]
theorem eqD_self {a : Dt} (ha : plB a = true) : eqD a a = true := by
  obtain ⟨p, h1, h2, _⟩ := pl_py a ha
  unfold eqD; rw [h1]; exact eqv_self p h2
theorem eqD_nil {xs : List Dt} (h : plBs xs = true) : eqD (.lst xs) (.lst []) = xs.isEmpty := by
  obtain ⟨ps, h1, _⟩ := pls_py xs h
  unfold eqD
  simp only [toPy, h1, toPys]
  cases xs with
  | nil => simp only [toPys, Option.some.injEq] at h1; subst h1; simp [PyData.eqv, PyData.eqvAll]
  | cons x xs =>
    cases ps with
    | nil => simp only [toPys] at h1; split at h1 <;> cases h1
    | cons p ps => simp [PyData.eqv, PyData.eqvAll]
theorem eqD_tnil {xs : List Dt} (h : plBs xs = true) : eqD (.tup xs) (.tup []) = xs.isEmpty := by
  obtain ⟨ps, h1, _⟩ := pls_py xs h
  unfold eqD
  simp only [toPy, h1, toPys]
  cases xs with
  | nil => simp only [toPys, Option.some.injEq] at h1; subst h1; simp [PyData.eqv, PyData.eqvAll]
  | cons x xs =>
    cases ps with
    | nil => simp only [toPys] at h1; split at h1 <;> cases h1
    | cons p ps => simp [PyData.eqv, PyData.eqvAll]
@[simp] theorem eqD_int (i j : Int) : eqD (.at (.int i)) (.at (.int j)) = decide (i = j) := by simp [eqD, toPy, PyData.eqv, Bool.beq_eq_decide_eq]
@[simp] theorem eqD_str (i j : Str) : eqD (.at (.str i)) (.at (.str j)) = decide (i = j) := by simp [eqD, toPy, PyData.eqv, Bool.beq_eq_decide_eq]
@[simp] theorem fEq_int (i j : Int) : fEq (.at (.int i)) (.at (.int j)) = some (.bl (decide (i = j))) := by
  rw [fEq_pl (by simp [plB]) (by simp [plB]) (by simp [dep]) (by simp [dep]), eqD_int]
@[simp] theorem fNe_int (i j : Int) : fNe (.at (.int i)) (.at (.int j)) = some (.bl (!decide (i = j))) := by
  rw [fNe_pl (by simp [plB]) (by simp [plB]) (by simp [dep]) (by simp [dep]), eqD_int]
theorem fEq_lnil {xs : List Dt} (h : plBs xs = true) (hl : xs.length ≤ 10000) (hd : deps xs ≤ 60) : fEq (.lst xs) (.lst []) = some (.bl xs.isEmpty) := by
  rw [fEq_pl (by rw [plB, h, decide_eq_true hl]; rfl) (by simp [plB, plBs]) (by rw [dep]; omega) (by simp [dep, deps]), eqD_nil h]
theorem fNe_lnil {xs : List Dt} (h : plBs xs = true) (hl : xs.length ≤ 10000) (hd : deps xs ≤ 60) : fNe (.lst xs) (.lst []) = some (.bl (!xs.isEmpty)) := by
  rw [fNe_pl (by rw [plB, h, decide_eq_true hl]; rfl) (by simp [plB, plBs]) (by rw [dep]; omega) (by simp [dep, deps]), eqD_nil h]
theorem fNe_tnil {xs : List Dt} (h : plBs xs = true) (hl : xs.length ≤ 10000) (hd : deps xs ≤ 60) : fNe (.tup xs) (.tup []) = some (.bl (!xs.isEmpty)) := by
  rw [fNe_pl (by rw [plB, h, decide_eq_true hl]; rfl) (by simp [plB, plBs]) (by rw [dep]; omega) (by simp [dep, deps]), eqD_tnil h]
theorem plBs_filter {xs : List Dt} {f : Dt → Bool} (h : plBs xs = true) : plBs (xs.filter f) = true := plBs_of fun x hx => plBs_mem h ((List.mem_filter.mp hx).1)
theorem deps_filter {xs : List Dt} {f : Dt → Bool} : deps (xs.filter f) ≤ deps xs := deps_le fun x hx => deps_mem ((List.mem_filter.mp hx).1)
/-- a loop that ends at the first bad item -/
theorem forL_chk {g : Tgt} {b : WSt} (P : En → Prop) (ok : Dt → Bool) (bad : Dt) : ∀ {ds : List Dt} {e : En}, (∀ d ∈ ds, ∀ e, P e → ∃ e1, g d e = some e1 ∧ (ok d = true → ∃ e2, b e1 = some (.nx e2) ∧ P e2) ∧ (ok d = false → ∃ e2, b e1 = some (.rt (.v bad) e2))) → P e →
    (ds.all ok = true → ∃ e2, forL g b ds e = some (.nx e2) ∧ P e2) ∧ (ds.all ok = false → ∃ e2, forL g b ds e = some (.rt (.v bad) e2))
  | [], e, _, h => ⟨fun _ => ⟨e, rfl, h⟩, fun h => by simp at h⟩
  | d :: ds, e, hs, h => by
    obtain ⟨e1, h1, h2, h3⟩ := hs d List.mem_cons_self e h
    cases hd : ok d with
    | true =>
      obtain ⟨e2, h4, h5⟩ := h2 hd
      have ih := forL_chk P ok bad (fun x hx => hs x (List.mem_cons_of_mem _ hx)) h5
      have e : forL g b (d :: ds) e = forL g b ds e2 := by rw [forL_cons, h1]; simp only [h4]
      rw [e, List.all_cons, hd, Bool.true_and]
      exact ih
    | false =>
      obtain ⟨e2, h4⟩ := h3 hd
      refine ⟨fun h => by rw [List.all_cons, hd] at h; simp at h, fun _ => ⟨e2, ?_⟩⟩
      rw [forL_cons, h1]; simp only [h4]
theorem fI_int {c : Int → Int → Bool} {g : Int → Int → V} {i j : Int} (h : c i j = true) : fI c g (.at (.int i)) (.at (.int j)) = some (.at (g i j)) := if_pos h
@[simp] theorem fI0_int (g : Int → Int → V) (i j : Int) : fI0 g (.at (.int i)) (.at (.int j)) = some (.at (g i j)) := rfl
@[simp] theorem fLt_int (i j : Int) : fLt (.at (.int i)) (.at (.int j)) = some (.bl (decide (i < j))) := rfl
@[simp] theorem fLe_int (i j : Int) : fLe (.at (.int i)) (.at (.int j)) = some (.bl (decide (i ≤ j))) := rfl
@[simp] theorem fGt_int (i j : Int) : fGt (.at (.int i)) (.at (.int j)) = some (.bl (decide (j < i))) := rfl
@[simp] theorem fGe_int (i j : Int) : fGe (.at (.int i)) (.at (.int j)) = some (.bl (decide (j ≤ i))) := rfl
@[simp] theorem fAdd_int (i j : Int) : fAdd (.at (.int i)) (.at (.int j)) = some (.int (i + j)) := rfl
@[simp] theorem fNeg_int (i : Int) : fNeg (.at (.int i)) = some (.int (-i)) := rfl
@[simp] theorem fLen_t (xs : List Dt) : fLen [.tup xs] = some (.int (xs.length : Nat)) := rfl
@[simp] theorem fLen_l (xs : List Dt) : fLen [.lst xs] = some (.int (xs.length : Nat)) := rfl
@[simp] theorem fLen_s (xs : List Int) : fLen [.scr xs] = some (.int (xs.length : Nat)) := rfl
@[simp] theorem fInt_int (i : Int) : fInt [.at (.int i)] = some (.int i) := rfl
theorem fMul_int {i j : Int} (h : (-(2 ^ 64) < i ∧ i < 2 ^ 64) ∨ (-(2 ^ 64) < j ∧ j < 2 ^ 64)) : fMul (.at (.int i)) (.at (.int j)) = some (.int (i * j)) := by
  exact fI_int (decide_eq_true h)
theorem fDiv_int {i j : Int} (h : j ≠ 0 ∧ j.natAbs < 1073741824) : fDiv (.at (.int i)) (.at (.int j)) = some (.int (i.fdiv j)) := by
  exact fI_int (decide_eq_true h)
theorem fMod_int {i j : Int} (h : j ≠ 0) : fMod (.at (.int i)) (.at (.int j)) = some (.int (i.fmod j)) := by
  exact fI_int (decide_eq_true h)
theorem fPow_int {i j : Int} (h : 0 ≤ j ∧ j ≤ 1000000 ∧ i.natAbs < 2 ^ 64) : fPow (.at (.int i)) (.at (.int j)) = some (.int (i ^ j.toNat)) := by
  exact fI_int (decide_eq_true h)
end Ly
set_option maxHeartbeats 2000000
/-! Ly21: list.count of flat values. -/
namespace Ly
open PySem PySem.Spec PyProof.Rows L2

def unV : Value → V
  | .none => .non
  | .bool b => .bl b
  | .int i _ => .int i
  | .str x _ => .str x
  | _ => .non
theorem unV_of {v : V} {u : Value} (r : RelV v u) (h : flatV v = true) : unV u = v := by
  cases v with
  | non => obtain rfl : u = .none := r; rfl
  | bl b => obtain rfl : u = .bool b := r; rfl
  | int i => obtain ⟨t, rfl⟩ := r; rfl
  | str x => obtain ⟨t, rfl⟩ := r; rfl
  | _ => simp [flatV] at h
def rCntF (K : PySem.W.Frag) : V → List V → Hp → VK → Prop := fun x xs H Q => ∃ (p : Addr) (vs : List V) (y : V), x = .ref p ∧ xs = [y] ∧ SqL K H p vs ∧ vs.all flatV = true ∧ flatV y = true ∧ Q (.int (vs.countP (fun v => eqV v y) : Nat)) H
theorem cnt_vals {y : V} : ∀ {vs : List V} {its : List Value}, Vals vs its → vs.all flatV = true → its.countP (fun u => eqV (unV u) y) = vs.countP (fun v => eqV v y)
  | [], [], .nil, _ => rfl
  | v :: vs, u :: us, .cons r rr, h => by
    rw [List.all_cons, Bool.and_eq_true] at h
    rw [List.countP_cons, List.countP_cons, cnt_vals rr h.2, unV_of r h.1]
theorem mem_vals : ∀ {vs : List V} {its : List Value} {u : Value}, Vals vs its → u ∈ its → ∃ v ∈ vs, RelV v u
  | [], [], _, .nil, h => nomatch h
  | v :: vs, w :: us, u, .cons r rr, h => by
    rcases List.mem_cons.mp h with e | e
    · subst e; exact ⟨v, List.mem_cons_self, r⟩
    · obtain ⟨x, hx, hr⟩ := mem_vals rr e
      exact ⟨x, List.mem_cons_of_mem _ hx, hr⟩
theorem mt_countF {X : Cx} : MtR X "list.count" (rCntF X.K) := by
  intro pins s σ H x xs v us Q I rx rxs ⟨p, vs, y, e1, e2, hs, hf, hy, q⟩
  subst e1 e2
  obtain rfl : v = .ref p := rx
  obtain ⟨u, rfl, ru⟩ := vals1 rxs
  obtain ⟨its, rv, ⟨⟨cls, dd, data, sl⟩, n, ho, hc, hdn, hd⟩, hlen⟩ := I.list hs
  simp only at hc hd
  subst hc hd
  refine call_meets PySem.F.slot_list_count ⟨_, ho, rfl⟩ PySem.F.entry_list_count (PySem.F.args_list_count_2 _ _)
    (SeqAt.list_countAt p its.toArray n dd sl u (fun z => eqV (unV z) y)) ⟨ho, fun z hz => ?_, ?_⟩
  · obtain ⟨w, hw, rw'⟩ := mem_vals rv (show z ∈ its by simpa using hz)
    have fw := List.all_eq_true.mp hf w hw
    have := eqAt_V (A := X.A.in1) (s := s) rw' ru fw hy
    rw [← unV_of rw' fw] at this
    exact this
  · have ec : its.toArray.toList.countP (fun z => eqV (unV z) y) = vs.countP (fun v => eqV v y) := by
      rw [List.toList_toArray]; exact cnt_vals rv hf
    refine ⟨.int (vs.countP (fun v => eqV v y) : Nat), H, I.tok _, ⟨s.toks, ?_⟩, q⟩
    show Value.int _ _ = Value.int _ _
    rw [ec]
def cntL (xs : List Dt) : Dt → Option Dt
  | .at y => (match atsOf xs with
    | some vs => if (vs.all flatV && flatV y) = true then some (.int (vs.countP (fun v => eqV v y) : Nat)) else none
    | none => none)
  | _ => none
def wCnt (wa wb : WEx) : WEx := fun e => bnd (wa e) fun d e1 => bnd (pur (listOf d) e1) fun xs e2 => bnd (wb e2) fun y e3 => pur (cntL xs y) e3
@[simp] theorem e_wCnt (wa wb : WEx) (e : En) : wCnt wa wb e = (bnd (wa e) fun d e1 => bnd (pur (listOf d) e1) fun xs e2 => bnd (wb e2) fun y e3 => pur (cntL xs y) e3) := rfl
section
variable {X : Cx} {A : Ax X.K} {a b : Expr} {wa wb : WEx} {p p2 pos' : Pos}
theorem n_count (ha : PE X a (TEx A wa)) (hb : PE X b (TEx A wb))
    (hbase : attributeBase a "count" X.env (eval a X.env) = eval a X.env := by rfl)
    (hfew : ((backTo pos' (starEach [b] X.env)).all (fun x => !x.1) && (backToKw pos' (keywordEach [] X.env)).all (fun x => x.1.isSome) && decide (([b] : List Expr).length + ([] : List Keyword).length + (if ([] : List Keyword).isEmpty then 0 else 1) < 30)) = true := by rfl)
    (hline : (p2.endLine == pos'.line) = true := by rfl) (hs : starEach [b] X.env = (false, eval b X.env) :: starEach [] X.env := by rfl) (hplain : (backTo pos' (starEach [] X.env)).any (·.1) = false := by rfl) :
    PE X (.Call (.Attribute a "count" p2) [b] [] pos') (TEx A (wCnt wa wb)) :=
  pe_imp (pe_bm PySem.F.plainAttrs_list PySem.F.slot_list_count PySem.F.type_list_count mt_countF ha (pa_cons hb pa_nil hs) hbase hfew hline hs hplain) fun σ H Q ⟨F, e, R, h⟩ => ⟨F, e, R, (FinG.bind (R := Rep X.K) h).imp fun x H1 ⟨F1, d, e1, s1, R1, r1, h1⟩ => by
    cases hd : listOf d with
    | none => rw [hd] at h1; exact h1.elim
    | some xs =>
      rw [hd] at h1
      have h1 : FinG A (Rep X.K) σ F1 Q (bnd (wb e1) fun y e3 => pur (cntL xs y) e3) := h1
      unfold listOf at hd
      split at hd
      · cases hd
        obtain ⟨q, vs, rfl, f, rs, l⟩ := rep_lst.mp r1
        refine ⟨Or.inl ⟨rfl, vs, SqL.of (R1.fh _ _ f)⟩, F1, e1, R1, (FinG.bind (R := Rep X.K) h1).imp fun y H2 ⟨F2, dy, e2, s2, R2, r2, h2⟩ => ?_⟩
        obtain ⟨d, hc, hg⟩ := fin_pur h2
        unfold cntL at hc
        split at hc
        · split at hc
          · rename_i us hu
            split at hc
            · rename_i hfl
              cases hc
              rw [Bool.and_eq_true] at hfl
              have rs2 := Reps.mono s2 _ _ rs
              rw [atsOf_inv hu, reps_ats] at rs2; subst rs2
              rw [rep_at] at r2; subst r2
              exact ⟨q, vs, _, rfl, rfl, SqL.of (R2.fh _ _ (s2 _ _ f)), hfl.1, hfl.2, goes_at hg R2⟩
            · cases hc
          · cases hc
        · cases hc
      · cases hd⟩
end
end Ly
set_option maxHeartbeats 2000000
/-! Ly22: tuple * 1, and an empty tuple times anything. -/
namespace Ly
open PySem PySem.Spec PyProof.Rows L2

theorem tup_mul_same (l : Addr) (items : Array Value) (n : Nat) (sl : Array (Option Value)) (x : Int) (u : Tok) (c0 : (decide (x < -(2 ^ 63)) || decide (x ≥ 2 ^ 63)) = false) (c1 : (items.isEmpty || x == 1) = true) (dd : Option Addr) :
    Meets (Builtin.«tuple.__mul__» ⟨[.ref l, .int x u], []⟩) (fun _ R s => s.heap.get? l = some { cls := .type "tuple", dict := dd, data := .seq items n, slots := sl } ∧ R (.ok (.ret (Value.ref l))) s) :=
  .of_wp fun prog w A R s h => by
    obtain ⟨hp, g, d, tk, os⟩ := s
    obtain ⟨hl, h⟩ := h
    have f1 := AutoSeq1.idx_int
    wp_walk using wpAny_loadPart' hl
    repeat (first
      | (refine wpAny_ite_false (decide_eq_false (by rw [c0]; exact Bool.false_ne_true)) ?_; wp_walk using wpAny_loadPart' hl)
      | (refine wpAny_ite_true (decide_eq_true (by rw [c1])) ?_; wp_walk using wpAny_loadPart' hl))
    exact ⟨_, rfl, h⟩
def rRepS (K : PySem.W.Frag) : R2 := fun x y H Q => ∃ l k xs, x = .ref l ∧ y = .int k ∧ SqT K H l xs ∧ (xs = [] ∨ k = 1) ∧ -1000 ≤ k ∧ k ≤ 1000 ∧ Q (.ref l) H
theorem op_repS {X : Cx} : OpR X (binaryOp .Mult) (rRepS X.K) := by
  intro pins s σ H x y v u Q I rx ry ⟨l, k, xs, e1, e2, hT, h1, k0, k1, q⟩
  subst e1 e2
  obtain rfl : v = .ref l := rx
  obtain ⟨t, rfl⟩ := ry
  obtain ⟨its, r, ⟨⟨cls, dd, data, sl⟩, ho, hc, n, hd⟩, hs⟩ := I.tuple hT
  simp only at hc hd
  subst hc hd
  have c0 : (decide (k < -(2 ^ 63)) || decide (k ≥ 2 ^ 63)) = false := by
    rw [decide_eq_false (by omega), decide_eq_false (by omega)] <;> rfl
  have c1 : (its.toArray.isEmpty || k == 1) = true := by
    rcases h1 with h1 | h1
    · have : its = [] := List.eq_nil_of_length_eq_zero (by rw [← r.length, h1]; rfl)
      rw [this]; rfl
    · rw [h1]; simp
  refine wpAny_binaryOp_repeat_ref (T := "tuple") (U := "int") (by decide) ⟨_, ho, rfl⟩ (fun s2 => typeIs_int s2 k t) noFill_tuple_mul PySem.F.fills_int_mul PySem.F.slot_int_rmul repeat_tuple PySem.F.slot_int_index.lookup
    (call_meets PySem.F.slot_int_rmul (typeIs_int s k t) PySem.F.entry_int_rmul (PySem.F.args_int_rmul_2 _ _) (int_rmul_tuple k t l its.toArray n dd sl)
      ⟨ho, rfl, ⟨_, ho, rfl⟩, call_meets PySem.F.slot_tuple_mul ⟨_, ho, rfl⟩ PySem.F.entry_tuple_mul (PySem.F.args_tuple_mul_2 _ _) (tup_mul_same l its.toArray n sl k t c0 c1 dd) ⟨ho, ?_⟩⟩)
  exact ⟨.ref l, H, I, rfl, q⟩
/-- tuple * int, 1 and the empty tuple too -/
def fMulU : Dt → Dt → Option Dt
  | .tup xs, .at (.int k) => if (xs = [] ∨ k = 1) ∧ -1000 ≤ k ∧ k ≤ 1000 then some (.tup xs) else fMulT (.tup xs) (.at (.int k))
  | _, _ => none
section
variable {X : Cx} {A : Ax X.K} {a b : Expr} {wa wb : WEx} {pos : Pos}
theorem n_mulU (ha : PE X a (TEx A wa)) (hb : PE X b (TEx A wb)) : PE X (.BinOp a .Mult b pos) (TEx A (wO fMulU wa wb)) := n_op (OpR.or op_repS op_repT) (fun σ F H e Q x y d1 d2 d R r1 r2 hf h => by
  unfold fMulU at hf
  split at hf
  · rename_i xs k
    split at hf
    · rename_i hc
      cases hf
      obtain ⟨ad, vs, rfl, f, q, z⟩ := rep_tup.mp r1
      rw [rep_at] at r2; subst r2
      have hl := q.len
      refine .inl ⟨ad, k, vs, rfl, rfl, sqt_mono R.fh f, hc.1.imp (fun e => List.eq_nil_of_length_eq_zero (by rw [← hl, e]; rfl)) id, hc.2.1, hc.2.2, h F H _ (Same.refl F) R r1⟩
    · have hf2 : (if xs ≠ [] ∧ 2 ≤ k ∧ k ≤ 1000 ∧ xs.length ≤ 1000 then some (Dt.tup (List.replicate k.toNat xs).flatten) else none) = some d := hf
      split at hf2
      · rename_i hc
        cases hf2
        obtain ⟨ad, vs, rfl, f, q, z⟩ := rep_tup.mp r1
        rw [rep_at] at r2; subst r2
        have hl := q.len
        refine .inr ⟨ad, _, vs, rfl, rfl, sqt_mono R.fh f, fun hv => hc.1 (List.eq_nil_of_length_eq_zero (by rw [hl, hv]; rfl)), hc.2.1, hc.2.2.1, by rw [← hl]; exact hc.2.2.2, goes_tup h R (q.rep _) ?_⟩
        rw [flat_len]
        have h2 : vs.length ≤ 1000 := by rw [← hl]; exact hc.2.2.2
        exact Nat.le_trans (Nat.mul_le_mul (show k.toNat ≤ 1000 by omega) h2) (by decide)
      · cases hf2
  · cases hf) ha hb
end
end Ly
set_option maxHeartbeats 2000000
/-! Ly23: a, b, c = x, y, z; split, index; dicts made of pairs, copied; sorted(d). -/
namespace Ly
open PySem PySem.Spec PyProof.Rows L2 HT

/-! ### {} as a value -/
def wD0 : WEx := fun e => some (.ok (.dic []) e)
@[simp] theorem e_wD0 (e : En) : wD0 e = some (.ok (.dic []) e) := rfl
section
variable {X : Cx} {A : Ax X.K} {a b c : Expr} {es : List Expr} {wa wb wc : WEx} {ws : WAx} {pos p p2 pos' cpos apos : Pos}
theorem n_dic0 : PE X (.Dict [] [] pos) (TEx A wD0) := pe_imp pe_dnewK fun σ H Q ⟨F, e, R, h⟩ q hq =>
  h (upd F q (.dK [])) _ _ (same_new (same_none R.fh hq)) (R.new hq) (rep_dic.mpr ⟨q, rfl, upd_same, Nat.zero_le _⟩)
/-! ### a, b, c = x, y, z -/
def wAsP3 (i j l : Nat) (ws : WAx) : WSt := fun e => bns (ws e) fun ds e1 => match ds with
  | [d1, d2, d3] => some (.nx (st (st (st e1 i (some (.v d1))) j (some (.v d2))) l (some (.v d3))))
  | _ => none
@[simp] theorem e_wAsP3 (i j l : Nat) (ws : WAx) (e : En) : wAsP3 i j l ws e = (bns (ws e) fun ds e1 => match ds with
  | [d1, d2, d3] => some (.nx (st (st (st e1 i (some (.v d1))) j (some (.v d2))) l (some (.v d3))))
  | _ => none) := rfl
theorem n_asP3 {i j l : Nat} {x y z : Str} {px py pz pt : Pos} {kt k2 : Nat} {pt2 : Pos} (hf : Free A i) (hfj : Free A j) (hfl : Free A l) (hc : X.calm = true) (hN : X.N.Nodup) (hx : X.N[i]? = some x) (hy : X.N[j]? = some y) (hz : X.N[l]? = some z) (hij : i ≠ j) (hil : i ≠ l) (hjl : j ≠ l)
    (hxl : X.env.scope.names.lookup x = some .local) (hyl : X.env.scope.names.lookup y = some .local) (hzl : X.env.scope.names.lookup z = some .local) (ha : PA X [a, b, c] (TAx A ws))
    (hw : swappedStores [.Tuple [.Name x px, .Name y py, .Name z pz] kt pt] (.Tuple [a, b, c] k2 pt2) X.env = pure (some [x, y, z])) (hs : swapsWithSole [.Tuple [.Name x px, .Name y py, .Name z pz] kt pt] (.Tuple [a, b, c] k2 pt2) pos.line X.env = pure false := by rfl) :
    PS X (.Assign [.Tuple [.Name x px, .Name y py, .Name z pz] kt pt] (.Tuple [a, b, c] k2 pt2) pos) (TSx A (wAsP3 i j l ws)) :=
  ps_imp (ps_par3 hc hN hx hy hz hij hil hjl hxl hyl hzl ha hw hs) fun D σ H ⟨F, e, R, h⟩ => ⟨F, e, R, (FinS.bind (R := Reps X.K) h).imp fun vs H1 ⟨F1, ds, e1, s1, R1, r1, h1⟩ => by
    split at h1
    · obtain ⟨v, u, w, rfl, r2, r3, r4⟩ := reps3 r1
      refine ⟨v, u, w, rfl, h1 F1 H1 _ (Same.refl F1) ?_⟩
      exact ((R1.setV (by rw [R1.ln]; exact hf.1) hf.2 r2).setV (by rw [st_len, R1.ln]; exact hfj.1) hfj.2 r3).setV (by rw [st_len, st_len, R1.ln]; exact hfl.1) hfl.2 r4
    · exact h1.elim⟩
/-! ### x, y = [], {}: the dict a value; x, y = e, [..] -/
def wAsLE (i j : Nat) : WSt := fun e => some (.nx (st (st e i (some (.m []))) j (some (.v (.dic [])))))
@[simp] theorem e_wAsLE (i j : Nat) (e : En) : wAsLE i j e = some (.nx (st (st e i (some (.m []))) j (some (.v (.dic []))))) := rfl
theorem n_asLE {i j : Nat} {x y : Str} {px py pt pq pr : Pos} {kt k2 : Nat} {pt2 : Pos} (hf : Free A i) (hfj : Free A j) (hc : X.calm = true) (hN : X.N.Nodup) (hx : X.N[i]? = some x) (hy : X.N[j]? = some y) (hij : i ≠ j) (hxl : X.env.scope.names.lookup x = some .local) (hyl : X.env.scope.names.lookup y = some .local)
    (hw : swappedStores [.Tuple [.Name x px, .Name y py] kt pt] (.Tuple [.List [] pq, .Dict [] [] pr] k2 pt2) X.env = pure (some [x, y])) (hs : swapsWithSole [.Tuple [.Name x px, .Name y py] kt pt] (.Tuple [.List [] pq, .Dict [] [] pr] k2 pt2) pos.line X.env = pure false := by rfl)
    (s1 : starEach [.List [] pq, .Dict [] [] pr] X.env = (false, eval (.List [] pq) X.env) :: starEach [.Dict [] [] pr] X.env := by rfl) (s2 : starEach [.Dict [] [] pr] X.env = (false, eval (.Dict [] [] pr) X.env) :: starEach [] X.env := by rfl) :
    PS X (.Assign [.Tuple [.Name x px, .Name y py] kt pt] (.Tuple [.List [] pq, .Dict [] [] pr] k2 pt2) pos) (TSx A (wAsLE i j)) :=
  ps_imp (ps_par hc hN hx hy hij hxl hyl (pa_cons (pe_lst pa_nil) (pa_cons pe_dnewK pa_nil s2) s1) hw hs) fun D σ H ⟨F, e, R, h⟩ => by
    refine ⟨Nat.zero_le _, fun q hq r hr => ⟨.ref q, .ref r, rfl, ?_⟩⟩
    have R1 := R.setO (o := .lst []) (s := .m []) (by rw [R.ln]; exact hf.1) hf.2 hq ⟨q, [], rfl, same_none R.fh hq, upd_same, reps_nil.mpr rfl, Nat.zero_le _, mn_new R hq⟩ trivial
    have sF : Same F (upd F r (.dK [])) := same_new (same_none R1.fh hr)
    have R2 := (R1.new (o := .dK []) hr).setV (i := j) (d := .dic []) (v := .ref r) (by rw [R1.ln]; exact hfj.1) hfj.2 (rep_dic.mpr ⟨r, rfl, upd_same, Nat.zero_le _⟩)
    exact h _ _ _ sF R2
def wAsVL (i j : Nat) (wa : WEx) (ws : WAx) : WSt := fun e => bns (wa e) fun d e1 => bns (ws e1) fun ds e2 => if ds.length ≤ sizeLine then some (.nx (st (st e2 i (some (.v d))) j (some (.m ds)))) else none
@[simp] theorem e_wAsVL (i j : Nat) (wa : WEx) (ws : WAx) (e : En) : wAsVL i j wa ws e = bns (wa e) fun d e1 => bns (ws e1) fun ds e2 => if ds.length ≤ sizeLine then some (.nx (st (st e2 i (some (.v d))) j (some (.m ds)))) else none := rfl
theorem n_asVL {i j : Nat} {x y : Str} {px py pt pq : Pos} {kt k2 : Nat} {pt2 : Pos} (hf : Free A i) (hfj : Free A j) (hc : X.calm = true) (hN : X.N.Nodup) (hx : X.N[i]? = some x) (hy : X.N[j]? = some y) (hij : i ≠ j) (hxl : X.env.scope.names.lookup x = some .local) (hyl : X.env.scope.names.lookup y = some .local)
    (ha : PE X a (TEx A wa)) (hl : PA X es (TAx A ws))
    (hw : swappedStores [.Tuple [.Name x px, .Name y py] kt pt] (.Tuple [a, .List es pq] k2 pt2) X.env = pure (some [x, y])) (hs : swapsWithSole [.Tuple [.Name x px, .Name y py] kt pt] (.Tuple [a, .List es pq] k2 pt2) pos.line X.env = pure false := by rfl)
    (s1 : starEach [a, .List es pq] X.env = (false, eval a X.env) :: starEach [.List es pq] X.env := by rfl) (s2 : starEach [.List es pq] X.env = (false, eval (.List es pq) X.env) :: starEach [] X.env := by rfl) :
    PS X (.Assign [.Tuple [.Name x px, .Name y py] kt pt] (.Tuple [a, .List es pq] k2 pt2) pos) (TSx A (wAsVL i j wa ws)) :=
  ps_imp (ps_par hc hN hx hy hij hxl hyl (pa_cons ha (pa_cons (pe_lst hl) pa_nil s2) s1) hw hs) fun D σ H ⟨F, e, R, h⟩ => ⟨F, e, R, (FinS.bind (R := Rep X.K) h).imp fun v H1 ⟨F1, d, e1, s1, R1, r1, h1⟩ => ⟨F1, e1, R1, (FinS.bind (R := Reps X.K) h1).imp fun us H2 ⟨F2, ds, e2, s2, R2, r2, h2⟩ => by
    split at h2
    · rename_i hlen
      refine ⟨by rw [← r2.len]; exact hlen, fun q hq => ⟨v, .ref q, rfl, ?_⟩⟩
      have R3 := R2.setV (i := i) (by rw [R2.ln]; exact hf.1) hf.2 (r1.mono s2)
      have R4 := R3.setO (i := j) (o := .lst us) (s := .m ds) (by rw [R3.ln]; exact hfj.1) hfj.2 hq ⟨q, us, rfl, same_none R2.fh hq, upd_same, r2, by rw [← r2.len]; exact hlen, mn_new R3 hq⟩ trivial
      exact h2 F2 _ _ (Same.refl F2) R4
    · exact h2.elim⟩⟩
/-! ### text.split(sep) -/
def strOf : Dt → Option Str
  | .at (.str x) => some x
  | _ => none
@[simp] theorem strOf_e (x : Str) : strOf (.at (.str x)) = some x := rfl
def fSplit (x : Str) : Dt → Option Dt
  | .at (.str y) => if (y.length == 0) = false ∧ x.length + 2 ≤ sizeLine then some (.lst ((Txt.split x y).map Dt.str)) else none
  | _ => none
def wSplit (wa wb : WEx) : WEx := fun e => bnd (wa e) fun d e1 => bnd (pur (strOf d) e1) fun x e2 => bnd (wb e2) fun y e3 => pur (fSplit x y) e3
@[simp] theorem e_wSplit (wa wb : WEx) (e : En) : wSplit wa wb e = (bnd (wa e) fun d e1 => bnd (pur (strOf d) e1) fun x e2 => bnd (wb e2) fun y e3 => pur (fSplit x y) e3) := rfl
theorem n_split (ha : PE X a (TEx A wa)) (hb : PE X b (TEx A wb)) (hs : starEach [b] X.env = [(false, eval b X.env)] := by rfl) (hbase : attributeBase a "split" X.env (eval a X.env) = eval a X.env := by rfl) (hline : (apos.endLine == pos.line) = true := by rfl) :
    PE X (.Call (.Attribute a "split" apos) [b] [] pos) (TEx A (wSplit wa wb)) :=
  pe_imp (pe_split ha hb hs hbase hline) fun σ H Q ⟨F, e, R, h⟩ => ⟨F, e, R, (FinG.bind (R := Rep X.K) h).imp fun x H1 ⟨F1, d, e1, s1, R1, r1, h1⟩ => by
    unfold strOf at h1
    split at h1
    · rename_i z
      rw [rep_at] at r1; subst r1
      have h1 : FinG A (Rep X.K) σ F1 Q (bnd (wb e1) fun y e3 => pur (fSplit z y) e3) := h1
      refine ⟨⟨z, rfl⟩, F1, e1, R1, (FinG.bind (R := Rep X.K) h1).imp fun y H2 ⟨F2, dy, e2, s2, R2, r2, h2⟩ => ?_⟩
      obtain ⟨d, hc, hg⟩ := fin_pur h2
      unfold fSplit at hc
      split at hc
      · rename_i w
        split at hc
        · rename_i hcond
          cases hc
          rw [rep_at] at r2; subst r2
          refine ⟨z, w, rfl, rfl, hcond.1, hcond.2, fun q hq => ?_⟩
          have e : (Txt.split z w).map V.str = (Txt.split z w).map V.str := rfl
          refine goes_lst hg R2 (ds := (Txt.split z w).map Dt.str) (vs := (Txt.split z w).map V.str) ?_ ?_ q hq
          · have : (Txt.split z w).map Dt.str = ((Txt.split z w).map V.str).map Dt.at := by rw [List.map_map]; rfl
            rw [this, reps_ats]
          · rw [List.length_map]
            exact Nat.le_trans (split_le z w) hcond.2
        · cases hc
      · cases hc
    · exact h1.elim⟩
/-! ### list.index -/
def idxV (ys : List V) (y : V) : Option Nat := ys.findIdx? fun z => eqV z y
def idxL (xs : List Dt) : Dt → Option Dt
  | .at y => (match atsOf xs with
    | some vs => if (vs.all flatV && flatV y) = true then (match idxV vs y with | some j => some (.int (j : Nat)) | none => none) else none
    | none => none)
  | _ => none
def wIdx (wa wb : WEx) : WEx := fun e => bnd (wa e) fun d e1 => bnd (pur (listOf d) e1) fun xs e2 => bnd (wb e2) fun y e3 => pur (idxL xs y) e3
@[simp] theorem e_wIdx (wa wb : WEx) (e : En) : wIdx wa wb e = (bnd (wa e) fun d e1 => bnd (pur (listOf d) e1) fun xs e2 => bnd (wb e2) fun y e3 => pur (idxL xs y) e3) := rfl
theorem n_index (ha : PE X a (TEx A wa)) (hb : PE X b (TEx A wb))
    (hbase : attributeBase a "index" X.env (eval a X.env) = eval a X.env := by rfl)
    (hfew : ((backTo pos' (starEach [b] X.env)).all (fun x => !x.1) && (backToKw pos' (keywordEach [] X.env)).all (fun x => x.1.isSome) && decide (([b] : List Expr).length + ([] : List Keyword).length + (if ([] : List Keyword).isEmpty then 0 else 1) < 30)) = true := by rfl)
    (hline : (p2.endLine == pos'.line) = true := by rfl) (hs : starEach [b] X.env = (false, eval b X.env) :: starEach [] X.env := by rfl) (hplain : (backTo pos' (starEach [] X.env)).any (·.1) = false := by rfl) :
    PE X (.Call (.Attribute a "index" p2) [b] [] pos') (TEx A (wIdx wa wb)) :=
  pe_imp (pe_bm PySem.F.plainAttrs_list PySem.F.slot_list_index PySem.F.type_list_index mt_index ha (pa_cons hb pa_nil hs) hbase hfew hline hs hplain) fun σ H Q ⟨F, e, R, h⟩ => ⟨F, e, R, (FinG.bind (R := Rep X.K) h).imp fun x H1 ⟨F1, d, e1, s1, R1, r1, h1⟩ => by
    cases hd : listOf d with
    | none => rw [hd] at h1; exact h1.elim
    | some xs =>
      rw [hd] at h1
      have h1 : FinG A (Rep X.K) σ F1 Q (bnd (wb e1) fun y e3 => pur (idxL xs y) e3) := h1
      unfold listOf at hd
      split at hd
      · cases hd
        obtain ⟨q, vs, rfl, f, rs, l⟩ := rep_lst.mp r1
        refine ⟨Or.inl ⟨rfl, vs, SqL.of (R1.fh _ _ f)⟩, F1, e1, R1, (FinG.bind (R := Rep X.K) h1).imp fun y H2 ⟨F2, dy, e2, s2, R2, r2, h2⟩ => ?_⟩
        obtain ⟨d, hc, hg⟩ := fin_pur h2
        unfold idxL at hc
        split at hc
        · split at hc
          · rename_i us hu
            split at hc
            · rename_i hfl
              split at hc
              · rename_i j hj
                cases hc
                rw [Bool.and_eq_true] at hfl
                have rs2 := Reps.mono s2 _ _ rs
                rw [atsOf_inv hu, reps_ats] at rs2; subst rs2
                rw [rep_at] at r2; subst r2
                unfold idxV at hj
                rw [List.findIdx?_eq_some_iff_getElem] at hj
                obtain ⟨g1, g2, g3⟩ := hj
                exact ⟨q, vs, _, j, vs[j], rfl, rfl, SqL.of (R2.fh _ _ (s2 _ _ f)), hfl.2, hfl.1, List.getElem?_eq_getElem g1, g2, (fun m z' hm hz => by
                  obtain ⟨k1, k2⟩ := List.getElem?_eq_some_iff.mp hz
                  have := g3 m hm
                  rw [k2] at this
                  simpa using this), goes_at hg R2⟩
              · cases hc
            · cases hc
          · cases hc
        · cases hc
      · cases hd⟩
end
end Ly
set_option maxHeartbeats 2000000
/-! Ly24: dicts of pairs, copies, get, sorted(d). -/
namespace Ly
open PySem PySem.Spec PyProof.Rows L2 HT

def prOf : Dt → Option (Key × V)
  | .tup [k, v] => (match keyOf k, vOf v with
    | some q, some u => some (q, u)
    | _, _ => none)
  | _ => none
def prsOf : List Dt → Option (List (Key × V))
  | [] => some []
  | d :: r => (match prOf d, prsOf r with
    | some q, some qs => some (q :: qs)
    | _, _ => none)
theorem prOf_inv {d : Dt} {q : Key × V} (h : prOf d = some q) : d = .tup [.at (kV q.1), .at q.2] := by
  unfold prOf at h
  split at h
  · split at h
    · rename_i k v q' u h1 h2
      cases h
      rw [keyOf_inv h1, vOf_inv h2]
    · cases h
  · cases h
theorem prsOf_len : ∀ {xs : List Dt} {kvs : List (Key × V)}, prsOf xs = some kvs → kvs.length = xs.length
  | [], kvs, h => by cases h; rfl
  | d :: r, kvs, h => by
    unfold prsOf at h
    split at h
    · rename_i q qs h1 h2
      cases h
      rw [List.length_cons, List.length_cons, prsOf_len h2]
    · cases h
theorem mergeK_len : ∀ (more kvs : List (Key × V)), (mergeK kvs more).length ≤ kvs.length + more.length
  | [], kvs => Nat.le_refl _
  | q :: more, kvs => by
    show (mergeK (putK kvs q.1 q.2) more).length ≤ _
    have h1 := mergeK_len more (putK kvs q.1 q.2)
    have h2 := length_putK kvs q.1 q.2
    rw [List.length_cons]; omega
theorem prs_paired {K : PySem.W.Frag} {F H : Hp} (s : Same F H) : ∀ {xs : List Dt} {kvs : List (Key × V)} {vs : List V}, prsOf xs = some kvs → Reps K F xs vs → ∃ ps : List Addr, vs = ps.map V.ref ∧ Paired (fun p kv => SqT K H p [kV kv.1, kv.2]) ps kvs
  | [], kvs, vs, h, r => by cases h; rw [reps_nil] at r; exact ⟨[], r, .nil⟩
  | d :: xs, kvs, vs, h, r => by
    unfold prsOf at h
    split at h
    · rename_i q qs h1 h2
      cases h
      obtain ⟨v, us, rfl, r1, r2⟩ := reps_cons.mp r
      obtain ⟨ps, rfl, hp⟩ := prs_paired s h2 r2
      rw [prOf_inv h1] at r1
      obtain ⟨a, ws, rfl, f, g, l⟩ := rep_tup.mp r1
      have g2 : Reps K F (([kV q.1, q.2] : List V).map Dt.at) ws := g
      rw [reps_ats] at g2; subst g2
      exact ⟨a :: ps, rfl, .cons (sqt_mono s f) hp⟩
    · cases h
theorem paired_imp {α β : Type} {P Q : α → β → Prop} (h : ∀ a b, P a b → Q a b) : ∀ {as : List α} {bs : List β}, Paired P as bs → Paired Q as bs
  | _, _, .nil => .nil
  | _, _, .cons p r => .cons (h _ _ p) (paired_imp h r)
def fDicP : List Dt → Option Dt
  | [.lst xs] => (match prsOf xs with
    | some kvs => some (.dic (mergeK [] kvs))
    | none => none)
  | _ => none
def intK : List (Key × V) → Option (List Int)
  | [] => some []
  | (.inl i, _) :: r => (match intK r with
    | some is => some (i :: is)
    | none => none)
  | _ => none
theorem intK_inv : ∀ {kvs : List (Key × V)} {is : List Int}, intK kvs = some is → kvs.map (·.1) = is.map Sum.inl
  | [], is, h => by cases h; rfl
  | (.inl i, v) :: r, is, h => by
    unfold intK at h
    split at h
    · rename_i js hj
      cases h
      rw [List.map_cons, List.map_cons, intK_inv hj]
    · cases h
  | (.inr i, v) :: r, is, h => by unfold intK at h; cases h
/-! ### sorted(d), a dict with whole keys, of any size -/
def rSortedB : List V → Hp → VK → Prop := fun xs H Q => ∃ (a : Addr) (kvs : List (Key × V)) (ks : List Int), xs = [.ref a] ∧ H a = some (.dK kvs) ∧ kvs.map (·.1) = ks.map Sum.inl ∧ ks.length ≤ sizeLine ∧
    ∀ (ys : List Int) (p : Addr), ys.Perm ks → ys.Pairwise (· ≤ ·) → H p = none → Q (.ref p) (upd H p (.lst (ys.map V.int)))
theorem call_sortedB {X : Cx} (hcalm : X.calm = true) : CallR X (.builtin "sorted") rSortedB := by
  intro pins s σ H xs us Q I r q
  obtain ⟨a, kvs, ks, ex, hd, hks, h64, q⟩ := q
  subst ex
  obtain ⟨u, eu, rx⟩ := vals1 r
  subst eu
  cases rx
  obtain ⟨z, lo, vs, rel, dd⟩ := dk_rd I.hok (.inl hd)
  obtain ⟨ep, hat⟩ := dd.dictAt
  have hkeys : vs.map (·.1) = ks.map Sum.inl := rel.keys.symm.trans hks
  have hl : vs.length = ks.length := by
    have e := congrArg List.length hkeys
    rw [List.length_map, List.length_map] at e
    exact e
  have h16 : vs.length ≤ sizeLine := by rw [hl]; exact h64
  refine Calls.call_function_entry PyProof.Rows.kind_sorted PyProof.Rows.plain_sorted PyProof.Rows.entry_sorted (PyProof.Rows.args_sorted1 _) ?_
  unfold Builtin.«sorted»
  refine wpAny_bind (m := checkCount "sorted" 1 1 _) (wpAny_pure ?_)
  refine wpAny_bind (PySem.W.kdu_collect (A := X.A.in1) (PySem.W.kdl_dict (knd := mixKind X.prog X.w) (kvs := vs) (ep := ep) lo) (I.ok.hd hcalm) hat h16 fun h' tk acc hk hacc => ?_)
  have hal : acc.toList.length = ks.length := by rw [Array.length_toList, hacc.1, hl]
  have hS : IntsAre acc.toList ks := ints_each hal fun j v e => by
    obtain ⟨k, x, e1, e2⟩ := hacc.2 j v (by rw [← Array.getElem?_toList]; exact e)
    have e3 : (vs.map (·.1))[j]? = some k := by rw [List.getElem?_map, e1]; rfl
    rw [hkeys, List.getElem?_map] at e3
    cases e4 : ks[j]? with
    | none => rw [e4] at e3; cases e3
    | some y =>
      rw [e4] at e3
      have e5 : Sum.inl y = k := Option.some.inj e3
      subst e5
      rcases keyIs_shape (show keyIs (Sum.inl y) v = true from e2) with ⟨i, t, ek, ev⟩ | ⟨z, t, ek, ev⟩
      · cases ek
        exact ⟨y, t, rfl, ev⟩
      · cases ek
  have I1 : Inv X pins σ H { s with heap := h', toks := tk } := I.kept hk
  have hzl : acc.toList.length ≤ sizeLine := by rw [hal]; exact h64
  refine wpAny_bind (wpAny_newList ?_ hzl)
  have hoL : (h'.push (seqObj "list" acc.toList.toArray 0)).get? h'.objs.size = some (seqObj "list" acc.toList.toArray 0) := Heap.get?_push_size _ rfl
  show wpAny _ _ _ _ _ { s with heap := h'.push (seqObj "list" acc.toList.toArray 0), toks := tk }
  refine wpAny_bind (wpAny_holding (wpAny_call_entry PyProof.Rows.slot_list_sort ⟨_, hoL, rfl⟩ PyProof.Rows.entry_list_sort
    (SrtO.list_sort_ord (s := { s with heap := h'.push (seqObj "list" acc.toList.toArray 0), toks := tk }) SrtO.swo_int hoL hzl (fun h2 => SrtO.ints_sortable hS h2) fun out h1 h2 => ⟨_, rfl, ?_⟩) (PyProof.Rows.args_list_sort _)))
  obtain ⟨k1, k2, k3⟩ := SrtO.ints_out hS h1 h2
  obtain ⟨e', he'⟩ := PyProof.Rows.sortedHeap_at (vs := acc.toList) (out := out.toArray) hoL
  have hlen : ((out.map SrtO.iv).map V.int).length ≤ sizeLine := by
    rw [List.length_map, k2.length_eq]
    exact h64
  refine wpAny_pure ⟨_, rfl, .ref h'.objs.size, upd H h'.objs.size (.lst ((out.map SrtO.iv).map V.int)), I1.laid (t' := tk) (fun b u e => ?_) (Nat.le_refl _)
    (show ObjOk X.prog X.w _ _ _ (.lst ((out.map SrtO.iv).map V.int)) from ⟨hlen, out, e', vals_of_ints k1, he'⟩), rfl, q _ _ k2 k3 (I1.hok.fresh (Nat.le_refl _))⟩
  have hb : b < h'.objs.size := Heap.lt_size e
  rw [PyProof.Rows.sortedHeap_old (Nat.ne_of_lt hb) (by rw [size_push']; exact Nat.lt_succ_of_lt hb)]
  exact Heap.get?_push_of_some _ e
def fSortedX : List Dt → Option Dt
  | [.dic kvs] => (match intK kvs with
    | some ns => some (.lst ((ns.mergeSort (· ≤ ·)).map Dt.int))
    | none => none)
  | ds => fSorted ds
theorem fSortedX_l (xs : List Dt) : fSortedX [.lst xs] = fSorted [.lst xs] := rfl
section
variable {K : PySem.W.Frag} {A : Ax K} {F H H' : Hp} {σ : St} {e : En}
/-- the heap grown by things of no name -/
theorem Rl.grow (R : Rl K A.B F H σ e) (x : ∀ b o, H b = some o → H' b = some o) : Rl K A.B F H' σ e := by
  refine ⟨fun b o h => x _ _ (R.fh _ _ h), R.f0, fun b o h1 h2 h3 => x _ _ (R.h0 b o h1 h2 h3), fun b o h1 => ?_, R.nf, R.tbs.ext x, R.tF, R.len, R.ln, fun i s hi => ?_, R.own, R.pin, R.pin0⟩
  · obtain ⟨o', h⟩ := R.th b o h1
    exact ⟨o', x _ _ h⟩
  · obtain ⟨v, h1, h2⟩ := R.sl i s hi
    refine ⟨v, h1, h2.mono (Same.refl F) fun q hq ho => ?_⟩
    subst hq
    obtain ⟨a1, ⟨ob, a2, _⟩, _⟩ := h2.at ho
    exact ⟨a1, by rw [a2, x _ _ a2]⟩
end
section
variable {X : Cx} {A : Ax X.K} {a b c : Expr} {es : List Expr} {wa wb wc : WEx} {ws : WAx} {pos p p2 p3 pos' cpos apos : Pos} {i : Nat} {x : Str}
theorem goes_dic {σ : St} {F H : Hp} {e : En} {Q : VK} {kvs : List (Key × V)} (h : Goes A σ F e Q (.dic kvs)) (R : Rl X.K A.B F H σ e) (hl : kvs.length ≤ sizeLine) : ∀ p, H p = none → Q (.ref p) (upd H p (.dK kvs)) := fun p hp =>
  h (upd F p (.dK kvs)) _ _ (same_new (same_none R.fh hp)) (R.new hp) (rep_dic.mpr ⟨p, rfl, upd_same, hl⟩)
theorem mk_len {kvs : List (Key × V)} (h : kvs.length ≤ sizeLine) : (mergeK [] kvs).length ≤ sizeLine := Nat.le_trans (mergeK_len kvs []) (by simpa using h)
/-- dict([(k, v), ..]) as a value -/
theorem n_dictP (hc : X.calm = true) (hg : Gl X "dict") (hm : X.mg "dict" = none) (ha : PA X [a] (TAx A ws)) (hv : bootBuiltins "dict" = some (.type "dict") := by decide +kernel) (he : starEach [a] X.env = (false, eval a X.env) :: starEach [] X.env := by rfl) (hpl : (backTo pos (starEach [] X.env)).any (·.1) = false := by rfl) :
    PE X (.Call (.Name "dict" p) [a] [] pos) (TEx A (wB fDicP ws)) := n_ct (call_dictP hc) (fun σ F H e Q vs ds d R r hf h => by
  unfold fDicP at hf
  split at hf
  · split at hf
    · rename_i xs kvs hk
      cases hf
      obtain ⟨v, rfl, r2⟩ := reps1 r
      obtain ⟨ad, us, rfl, f, q, l⟩ := rep_lst.mp r2
      obtain ⟨ps, rfl, hp⟩ := prs_paired R.fh hk q
      refine ⟨ad, ps, kvs, rfl, SqL.of (R.fh _ _ f), hp, goes_dic h R (mk_len ?_)⟩
      rw [prsOf_len hk, q.len]; exact l
    · cases hf
  · cases hf) hg hm hv ha (he := he) (hpl := hpl)
/-- x = dict([(k, v), ..]), to be changed later -/
def wAsDP (i : Nat) (w : WEx) : WSt := fun e => bns (w e) fun d e1 => match d with
  | .lst xs => (match prsOf xs with
    | some kvs => some (.nx (st e1 i (some (.k (mergeK [] kvs)))))
    | none => none)
  | _ => none
@[simp] theorem e_wAsDP (i : Nat) (w : WEx) (e : En) : wAsDP i w e = bns (w e) fun d e1 => match d with
  | .lst xs => (match prsOf xs with
    | some kvs => some (.nx (st e1 i (some (.k (mergeK [] kvs)))))
    | none => none)
  | _ => none := rfl
theorem own_new {F H : Hp} {σ : St} {e : En} {kvs : List (Key × V)} (hf : Free A i) (R : Rl X.K A.B F H σ e) {q : Addr} (hq : H q = none) (hl : kvs.length ≤ sizeLine) : Rl X.K A.B F (upd H q (.dK kvs)) (σ.set i (some (.ref q))) (st e i (some (.k kvs))) :=
  R.setO (by rw [R.ln]; exact hf.1) hf.2 hq ⟨q, rfl, same_none R.fh hq, upd_same, hl, mn_new R hq⟩ trivial
theorem n_asDP (hf : Free A i) (hc : X.calm = true) (hg : Gl X "dict") (hm : X.mg "dict" = none) (hN : X.N.Nodup) (hx : X.N[i]? = some x) (hl : Loc X.env.scope x) (ha : PE X a (TEx A wa)) (hs : swapsWith (.Call (.Name "dict" p) [a] [] p2) (some (.Name x pos')) pos.line X.env = pure false := by rfl)
    (hff : X.fn x = true ∨ X.env.scope.names.lookup x = some .local := by first | exact .inl rfl | exact .inr rfl | assumption) (hv : bootBuiltins "dict" = some (.type "dict") := by decide +kernel) (he1 : starEach [a] X.env = (false, eval a X.env) :: starEach [] X.env := by rfl) (hpl : (backTo p2 (starEach [] X.env)).any (·.1) = false := by rfl) :
    PS X (.Assign [.Name x pos'] (.Call (.Name "dict" p) [a] [] p2) pos) (TSx A (wAsDP i wa)) :=
  ps_imp (ps_set hN hx hl (pe_callTy (call_dictP hc) hg hm hv (pa_cons ha pa_nil he1) (he := he1) (hpl := hpl)) hs hff) fun D σ H ⟨F, e, R, h⟩ => ⟨F, e, R, (FinS.bind (R := Rep X.K) h).imp fun v H1 ⟨F1, d, e1, s1, R1, r1, h1⟩ => by
    split at h1
    · split at h1
      · rename_i xs kvs hk
        obtain ⟨ad, us, rfl, f, q, l⟩ := rep_lst.mp r1
        obtain ⟨ps, rfl, hp⟩ := prs_paired R1.fh hk q
        refine ⟨ad, ps, kvs, rfl, SqL.of (R1.fh _ _ f), hp, fun t ht => ?_⟩
        exact h1 F1 _ _ (Same.refl F1) (own_new hf R1 ht (mk_len (by rw [prsOf_len hk, q.len]; exact l)))
      · exact h1.elim
    · exact h1.elim⟩
/-- x = dict(list(d.items())), to be changed later -/
def wAsDC (i : Nat) (w : WEx) : WSt := fun e => bns (w e) fun d e1 => match d with
  | .dic kvs => some (.nx (st e1 i (some (.k (mergeK [] kvs)))))
  | _ => none
@[simp] theorem e_wAsDC (i : Nat) (w : WEx) (e : En) : wAsDC i w e = bns (w e) fun d e1 => match d with
  | .dic kvs => some (.nx (st e1 i (some (.k (mergeK [] kvs)))))
  | _ => none := rfl
theorem n_asDC {q1 q2 : Pos} (hf : Free A i) (hc : X.calm = true) (hg : Gl X "dict") (hm : X.mg "dict" = none) (hgl : Gl X "list") (hml : X.mg "list" = none) (hN : X.N.Nodup) (hx : X.N[i]? = some x) (hl : Loc X.env.scope x) (ha : PE X a (TEx A wa))
    (hs : swapsWith (.Call (.Name "dict" p) [.Call (.Name "list" q1) [.Call (.Attribute a "items" apos) [] [] cpos] [] q2] [] p2) (some (.Name x pos')) pos.line X.env = pure false := by rfl)
    (hff : X.fn x = true ∨ X.env.scope.names.lookup x = some .local := by first | exact .inl rfl | exact .inr rfl | assumption) (hv : bootBuiltins "dict" = some (.type "dict") := by decide +kernel) (hvl : bootBuiltins "list" = some (.type "list") := by decide +kernel)
    (hbase : attributeBase a "items" X.env (eval a X.env) = eval a X.env := by rfl) (hline : (apos.endLine == cpos.line) = true := by rfl)
    (hsi : starEach [.Call (.Attribute a "items" apos) [] [] cpos] X.env = (false, eval (.Call (.Attribute a "items" apos) [] [] cpos) X.env) :: starEach [] X.env := by rfl)
    (he1 : starEach [.Call (.Name "list" q1) [.Call (.Attribute a "items" apos) [] [] cpos] [] q2] X.env = (false, eval (.Call (.Name "list" q1) [.Call (.Attribute a "items" apos) [] [] cpos] [] q2) X.env) :: starEach [] X.env := by rfl) (hpl : (backTo p2 (starEach [] X.env)).any (·.1) = false := by rfl) :
    PS X (.Assign [.Name x pos'] (.Call (.Name "dict" p) [.Call (.Name "list" q1) [.Call (.Attribute a "items" apos) [] [] cpos] [] q2] [] p2) pos) (TSx A (wAsDC i wa)) :=
  ps_imp (ps_set hN hx hl (pe_callTy (call_dictP hc) hg hm hv (pa_cons (LiI.pe_listItems hc ha hgl hml hvl hbase hline hsi) pa_nil he1) (he := he1) (hpl := hpl)) hs hff) fun D σ H ⟨F, e, R, h⟩ => ⟨F, e, R, (FinS.bind (R := Rep X.K) h).imp fun v H1 ⟨F1, d, e1, s1, R1, r1, h1⟩ => by
    split at h1
    · rename_i kvs
      obtain ⟨ad, rfl, f, l⟩ := rep_dic.mp r1
      refine ⟨ad, kvs, rfl, R1.fh _ _ f, fun H' t ts hext ht hts hnt hl' hp => ?_⟩
      have R2 := R1.grow hext
      have hp2 : Paired (fun p kv => SqT X.K H' p [kV kv.1, kv.2]) ts kvs := paired_imp (fun _ _ h => SqT.of h) hp
      refine ⟨t, ts, kvs, rfl, SqL.of hl', hp2, fun q hq => ?_⟩
      exact h1 F1 _ _ (Same.refl F1) (own_new hf R2 hq (mk_len l))
    · exact h1.elim⟩
/-- d.get(k, v), d a value -/
def dicOf : Dt → Option (List (Key × V))
  | .dic kvs => some kvs
  | _ => none
@[simp] theorem dicOf_e (kvs : List (Key × V)) : dicOf (.dic kvs) = some kvs := rfl
def fGet (kvs : List (Key × V)) (k d : Dt) : Option Dt := match keyOf k, vOf d with
  | some q, some v => some (.at ((valV kvs q).getD v))
  | _, _ => none
def wGetV (wa wk wd : WEx) : WEx := fun e => bnd (wa e) fun d e1 => bnd (pur (dicOf d) e1) fun kvs e2 => bnd (wk e2) fun k e3 => bnd (wd e3) fun v e4 => pur (fGet kvs k v) e4
@[simp] theorem e_wGetV (wa wk wd : WEx) (e : En) : wGetV wa wk wd e = bnd (wa e) fun d e1 => bnd (pur (dicOf d) e1) fun kvs e2 => bnd (wk e2) fun k e3 => bnd (wd e3) fun v e4 => pur (fGet kvs k v) e4 := rfl
theorem n_getV (hu : X.A.units + 1 < cLine) (ha : PE X a (TEx A wa)) (hb : PE X b (TEx A wb)) (hcc : PE X c (TEx A wc)) (hm2 : M2 X a "get" p2 b c pos := by exact ⟨rfl, rfl, rfl, rfl⟩) :
    PE X (.Call (.Attribute a "get" p2) [b, c] [] pos) (TEx A (wGetV wa wb wc)) :=
  pe_imp (pe_dget2 hu ha hb hcc hm2) fun σ H Q ⟨F, e, R, h⟩ => ⟨F, e, R, (FinG.bind (R := Rep X.K) h).imp fun x H1 ⟨F1, d, e1, s1, R1, r1, h1⟩ => by
    cases hd : dicOf d with
    | none => rw [hd] at h1; exact h1.elim
    | some kvs =>
      rw [hd] at h1
      have h1 : FinG A (Rep X.K) σ F1 Q (bnd (wb e1) fun k e3 => bnd (wc e3) fun v e4 => pur (fGet kvs k v) e4) := h1
      unfold dicOf at hd
      split at hd
      · cases hd
        obtain ⟨q, rfl, f, l⟩ := rep_dic.mp r1
        refine ⟨q, rfl, .inl ⟨_, .inl (R1.fh _ _ f)⟩, F1, e1, R1, (FinG.bind (R := Rep X.K) h1).imp fun k H2 ⟨F2, dk, e2, s2, R2, r2, h2⟩ => ⟨F2, e2, R2, (FinG.bind (R := Rep X.K) h2).imp fun v H3 ⟨F3, dv, e3, s3, R3, r3, h3⟩ => ?_⟩⟩
        obtain ⟨d, hc, hg⟩ := fin_pur h3
        unfold fGet at hc
        split at hc
        · rename_i kk vv hk hvv
          cases hc
          have := keyOf_inv hk; subst this
          have := vOf_inv hvv; subst this
          rw [rep_at] at r2 r3; subst r2; subst r3
          exact ⟨_, DGet.k (R3.fh _ _ (s3 _ _ (s2 _ _ f))), goes_at hg R3⟩
        · cases hc
      · cases hd⟩
theorem n_sortedX (hc : X.calm = true) (hg : Gl X "sorted") (hm : X.mg "sorted" = none) (ha : PA X [a] (TAx A ws)) (hv : bootBuiltins "sorted" = some (.builtin "sorted") := by decide +kernel) (he : starEach [a] X.env = (false, eval a X.env) :: starEach [] X.env := by rfl) (hpl : (backTo pos (starEach [] X.env)).any (·.1) = false := by rfl) :
    PE X (.Call (.Name "sorted" p) [a] [] pos) (TEx A (wB fSortedX ws)) := n_cb (CallR.or cr_sortedI (call_sortedB hc)) (fun σ F H e Q vs ds d R r hf h => by
  unfold fSortedX at hf
  split at hf
  · split at hf
    · rename_i kvs _ ns hn
      cases hf
      obtain ⟨v, rfl, r2⟩ := reps1 r
      obtain ⟨ad, rfl, f, l⟩ := rep_dic.mp r2
      have hk := intK_inv hn
      have hlen : ns.length ≤ sizeLine := by
        have := congrArg List.length hk
        rw [List.length_map, List.length_map] at this
        omega
      refine .inr ⟨ad, kvs, ns, rfl, R.fh _ _ f, hk, hlen, fun ys q hp hs hq => ?_⟩
      have e : ys = ns.mergeSort (· ≤ ·) := sorted_uni hp hs
      rw [← e] at h
      exact goes_lst h R (reps_ints.mpr rfl) (by rw [List.length_map, hp.length_eq]; exact hlen) q hq
    · cases hf
  · unfold fSorted at hf
    split at hf
    · split at hf
      · rename_i ns hn
        cases hf
        obtain ⟨v, rfl, r2⟩ := reps1 r
        obtain ⟨ad, us, rfl, f, q, l⟩ := rep_lst.mp r2
        rw [intsOf_inv hn, reps_ints] at q
        subst q
        refine .inl ⟨ad, ns, rfl, SqL.of (R.fh _ _ f), fun ys t hp hs ht => ?_⟩
        have e : ys = ns.mergeSort (· ≤ ·) := sorted_uni hp hs
        rw [← e] at h
        exact goes_lst h R (reps_ints.mpr rfl) (by rw [List.length_map, hp.length_eq]; simpa using l) t ht
      · cases hf
    · cases hf) hg hm hv ha (he := he) (hpl := hpl)
end
end Ly
set_option maxHeartbeats 2000000
/-! Ly25: comprehensions over d.items(), d an own dict. -/
namespace Ly
open PySem PySem.Spec PyProof.Rows L2 HT

section
variable {K : PySem.W.Frag} {A : Ax K} {F F' H H' : Hp} {σ : St} {e : En}
theorem tabs_upd {T : List (Addr × Str)} (tb : LamX.Tabs T H) {p : Addr} {o o' : HO} (hp : H p = some o) (hT : ∀ q, (p, q) ∉ T) (hk : ∀ c q, o ≠ LamX.CodeO c q) : LamX.Tabs T (upd H p o') := fun q hq => by
  obtain ⟨ps, t1, t2, t3⟩ := tb q hq
  have nq : q.1 ≠ p := fun z => hT q.2 (by rw [← z]; exact hq)
  refine ⟨ps, by rw [upd_ne nq]; exact t1, t2, fun pos cv hc => ?_⟩
  obtain ⟨c, c1, c2⟩ := t3 pos cv hc
  refine ⟨c, c1, ?_⟩
  have nc : c ≠ p := fun z => by
    rw [z, hp] at c2
    exact hk p q.2 (Option.some.inj c2)
  rw [upd_ne nc]; exact c2
/-- an own dict put out of sight, locked -/
theorem Rl.hideK (R : Rl K A.B F H σ e) {i : Nat} {kvs : List (Key × V)} {p : Addr} {fr : HO} (hk : gt e i = some (.k kvs)) (hS : A.B.S ≠ none → i ≠ 0) (hv : σ[i]? = some (some (.ref p))) (fp : F p = none) (hp : H p = some (.dK kvs)) (mn : Mn A.B p) :
    Rl K (A.hid p fr).B F (upd H p fr) σ (st e i none) ∧ A.B.H p = none ∧ A.B.S ≠ some p ∧ (∀ q, (p, q) ∉ A.B.T) ∧ A.B.F p = none := by
  have sp : A.B.S ≠ some p := fun z => hS (by rw [z]; exact fun z => nomatch z) (R.pin p z i _ hk trivial hv)
  have bp : A.B.H p = none := mn.elim (fun z => absurd z sp) id
  have tp : ∀ q, (p, q) ∉ A.B.T := fun q hq => by
    obtain ⟨ps, h1⟩ := R.tab hq
    rw [hp] at h1; cases h1
  have bF : A.B.F p = none := by
    cases hb : A.B.F p with
    | none => rfl
    | some o => exact nomatch (fp.symm.trans (R.f0 _ _ hb))
  have hl := gt_lt e i _ hk
  refine ⟨⟨same_mut R.fh fp, R.f0, fun b x hb h1 h2 => ?_, fun b x hb => ?_, fun b x hb hf => ?_, tabs_upd R.tbs hp tp (fun c q z => by unfold LamX.CodeO at z; cases z), R.tF, by rw [st_len]; exact R.len, by rw [st_len]; exact R.ln, fun j s hj => ?_, fun j k s s' q h1 h2 o1 o2 q1 q2 => ?_, fun q hS2 j s hj ho hq => ?_, fun q hS2 => ?_⟩, bp, sp, tp, bF⟩
  · have hb : upd A.B.H p fr b = some x := hb
    by_cases z : b = p
    · subst z; rw [upd_same] at hb ⊢; exact hb
    · rw [upd_ne z] at hb ⊢; exact R.h0 b x hb h1 h2
  · have hb : upd A.B.H p fr b = some x := hb
    by_cases z : b = p
    · subst z; exact ⟨fr, upd_same⟩
    · rw [upd_ne z] at hb ⊢; exact R.th b x hb
  · have hb : upd A.B.H p fr b = some x := hb
    by_cases z : b = p
    · subst z; exact fp
    · rw [upd_ne z] at hb; exact R.nf b x hb hf
  · by_cases z : i = j
    · subst z; rw [gt_st_same _ _ _ hl] at hj; cases hj
    · rw [gt_st_ne _ _ _ _ z] at hj
      obtain ⟨v, a, b⟩ := R.sl j s hj
      refine ⟨v, a, ?_⟩
      have ne : ∀ q, v = .ref q → s.own → q ≠ p := fun q hq ho y => by
        subst hq
        exact z (R.own i j _ s p hk hj trivial ho hv (y ▸ a))
      have b2 : SlR K (A.hid p fr).B F H s v := Rl.slB b fun q hq ho mn => by
        rcases mn with m | m
        · exact .inl m
        · exact .inr (by show upd A.B.H p fr q = none; rw [upd_ne (ne q hq ho)]; exact m)
      refine b2.mono (Same.refl F) fun q hq ho => ?_
      subst hq
      exact ⟨(b.at ho).1, upd_ne (ne q rfl ho)⟩
  · have old : ∀ j t, gt (st e i none) j = some t → gt e j = some t := fun j t hj => by
      by_cases z : i = j
      · subst z; rw [gt_st_same _ _ _ hl] at hj; cases hj
      · rw [gt_st_ne _ _ _ _ z] at hj; exact hj
    exact R.own j k s s' q (old j s h1) (old k s' h2) o1 o2 q1 q2
  · by_cases z : i = j
    · subst z; rw [gt_st_same _ _ _ hl] at hj; cases hj
    · rw [gt_st_ne _ _ _ _ z] at hj; exact R.pin q hS2 j s hj ho hq
  · obtain ⟨xs, a, b⟩ := R.pin0 q hS2
    have hS2' : A.B.S = some q := hS2
    have : i ≠ 0 := hS (by rw [hS2']; exact fun z => nomatch z)
    exact ⟨xs, by rw [gt_st_ne _ _ _ _ this]; exact a, b⟩
/-- .. and back in its slot -/
theorem Rl.unhideK {i : Nat} {kvs : List (Key × V)} {p : Addr} {fr : HO} (R : Rl K (A.hid p fr).B F H σ e) (hi : i < e.length) (hS : A.B.S ≠ none → i ≠ 0) (hv : σ[i]? = some (some (.ref p))) (hl : kvs.length ≤ sizeLine) (hk : ∀ c q, fr ≠ LamX.CodeO c q)
    (bp : A.B.H p = none) (sp : A.B.S ≠ some p) (tp : ∀ q, (p, q) ∉ A.B.T) (bF : A.B.F p = none) : Rl K A.B F (upd H p (.dK kvs)) σ (st e i (some (.k kvs))) := by
  obtain ⟨hp, fp⟩ := hid_at R sp tp bF
  have nb : ∀ b x, A.B.H b = some x → b ≠ p := fun b x hb z => by rw [z, bp] at hb; cases hb
  have up : ∀ b x, A.B.H b = some x → (A.hid p fr).B.H b = some x := fun b x hb => by
    show upd A.B.H p fr b = some x
    rw [upd_ne (nb b x hb)]; exact hb
  have ne : ∀ j s q, gt e j = some s → s.own → σ[j]? = some (some (.ref q)) → q ≠ p := fun j s q hj ho hq z => by
    obtain ⟨v, a, b⟩ := R.sl j s hj
    rw [hq] at a; cases a
    obtain ⟨_, _, mn⟩ := b.at ho
    rcases mn with m | m
    · exact sp (by rw [← z]; exact m)
    · rw [z] at m
      exact nomatch (show some fr = none from (upd_same (H := A.B.H)).symm.trans m)
  refine ⟨same_mut R.fh fp, R.f0, fun b x hb h1 h2 => by rw [upd_ne (nb b x hb)]; exact R.h0 b x (up b x hb) h1 h2, fun b x hb => ?_, fun b x hb hf => R.nf b x (up b x hb) hf, tabs_upd R.tbs hp tp hk, R.tF, by rw [st_len]; exact R.len, by rw [st_len]; exact R.ln, fun j s hj => ?_, fun j k s s' q h1 h2 o1 o2 q1 q2 => ?_, fun q hS2 j s hj ho hq => ?_, fun q hS2 => ?_⟩
  · obtain ⟨o', h⟩ := R.th b x (up b x hb)
    exact ⟨o', by rw [upd_ne (nb b x hb)]; exact h⟩
  · by_cases z : i = j
    · subst z
      rw [gt_st_same _ _ _ hi] at hj; cases hj
      exact ⟨.ref p, hv, p, rfl, fp, upd_same, hl, .inr bp⟩
    · rw [gt_st_ne _ _ _ _ z] at hj
      obtain ⟨v, a, b⟩ := R.sl j s hj
      refine ⟨v, a, ?_⟩
      have b2 : SlR K A.B F H s v := Rl.slB (A := A.hid p fr) (B' := A.B) b fun q hq ho mn => by
        rcases mn with m | m
        · exact .inl m
        · have m' : upd A.B.H p fr q = none := m
          subst hq
          rw [upd_ne (ne j s q hj ho a)] at m'
          exact .inr m'
      refine b2.mono (Same.refl F) fun q hq ho => ?_
      subst hq
      exact ⟨(b.at ho).1, upd_ne (ne j s q hj ho a)⟩
  · by_cases z : i = j
    · by_cases y : i = k
      · exact z.symm.trans y
      · subst z
        rw [hv] at q1; cases q1
        rw [gt_st_ne _ _ _ _ y] at h2
        exact absurd rfl (ne k s' _ h2 o2 q2)
    · rw [gt_st_ne _ _ _ _ z] at h1
      by_cases y : i = k
      · subst y
        rw [hv] at q2; cases q2
        exact absurd rfl (ne j s _ h1 o1 q1)
      · rw [gt_st_ne _ _ _ _ y] at h2
        exact R.own j k s s' q h1 h2 o1 o2 q1 q2
  · by_cases z : i = j
    · subst z
      rw [hv] at hq; cases hq
      exact absurd hS2 sp
    · rw [gt_st_ne _ _ _ _ z] at hj; exact R.pin q hS2 j s hj ho hq
  · obtain ⟨xs, a, b⟩ := R.pin0 q hS2
    have : i ≠ 0 := hS (by rw [hS2]; exact fun z => nomatch z)
    exact ⟨xs, by rw [gt_st_ne _ _ _ _ this]; exact a, b⟩
end
def prsD (kvs : List (Key × V)) : List Dt := kvs.map fun q => .tup [.at (kV q.1), .at q.2]
def wLcI (i : Nat) (g : Tgt) (c : WTx) (t : WEx) (own : List Nat) : WEx := fun e => match gt e i with
  | some (.k kvs) => (match lcL g c t own (prsD kvs) (wipeE (st e i none) own) with
    | some (ys, e2) => some (.ok (.lst ys) (st (rsE (st e i none) e2 own) i (some (.k kvs))))
    | none => none)
  | _ => none
@[simp] theorem e_wLcI (i : Nat) (g : Tgt) (c : WTx) (t : WEx) (own : List Nat) (e : En) : wLcI i g c t own e = match gt e i with
  | some (.k kvs) => (match lcL g c t own (prsD kvs) (wipeE (st e i none) own) with
    | some (ys, e2) => some (.ok (.lst ys) (st (rsE (st e i none) e2 own) i (some (.k kvs))))
    | none => none)
  | _ => none := rfl
section
variable {X : Cx} {A : Ax X.K} {elt tg iter : Expr} {ifs : List Expr} {scope : Scope} {own : List (Str × Nat)} {pos : Pos} {wi : WIx} {g : Tgt} {graw : TG} {wc : WTx} {we : WEx}
theorem lc_readG {G : Hp → Prop} {F1 : Hp} {J : It} {xs : List Dt} {e1 : En} {tt : TT} {te : TE} (htt : ∀ Da o σ H Q, TTx (A.hid Da o) wc σ H Q → tt σ H Q) (hte : ∀ Da o σ H Q, TEx (A.hid Da o) we σ H Q → te σ H Q) {vs : List Nat} (hv : ∀ v ∈ vs, v < A.B.n ∧ (A.B.S ≠ none → v ≠ 0)) (hraw : RawG X.K g graw vs A.B.n A.B.S) {σ : St} {H1 : Hp} {Q : VK} (R1 : Rl X.K A.B F1 H1 σ e1) (hz : xs.length ≤ sizeLine)
    (W : Walk J xs.length G fun i H x H' => (H' = H ∧ ∃ d, xs[i]? = some d ∧ Rep X.K F1 d x) ∨ ∃ T a b da db, x = .ref T ∧ H T = none ∧ H' = upd H T (.tup [a, b]) ∧ xs[i]? = some (.tup [da, db]) ∧ Rep X.K F1 da a ∧ Rep X.K F1 db b)
    (hG : ∀ (Da : Addr) (o : HO) (F H : Hp) (e : En), H1 Da = none → Same F1 F → Rl X.K (A.hid Da o).B F H (wipe σ vs) e → G H)
    (h1 : FinG A (Rep X.K) σ F1 Q (match lcL g wc we vs xs (wipeE e1 vs) with | some (ys, e2) => some (.ok (.lst ys) (rsE e1 e2 vs)) | none => none)) :
    ∀ D, H1 D = none → ∃ W : Nat → Nat → Hp → Prop, (∃ m, W 0 m (upd H1 D (.lst []))) ∧ ∀ i m H, W i m H →
      (J.stop i H ∧ Q (.ref D) H) ∨ (J.go i H ∧ ∃ Nx : Hp → Prop, (∀ H', Nx H' → ∃ m', m' < m ∧ W (i + 1) m' H') ∧ ∀ x H', J.yld i H x H' → graw x (wipe σ vs) H' fun σ2 H2 => wipe σ2 vs = wipe σ vs ∧ tt σ2 H2 fun b H3 =>
        if b = true then te σ2 H3 fun y H4 => ∃ acc, H4 D = some (.lst acc) ∧ acc.length < sizeLine ∧ Nx (upd H4 D (.lst (acc ++ [y]))) else Nx H3) := by
  intro Da hDa
  cases hL : lcL g wc we vs xs (wipeE e1 vs) with
  | none => rw [hL] at h1; exact h1.elim
  | some r =>
    obtain ⟨ys, e2⟩ := r
    rw [hL] at h1
    have bD : A.B.H Da = none := by
      cases hb : A.B.H Da with
      | none => rfl
      | some o =>
        obtain ⟨o', ho⟩ := R1.th Da o hb
        rw [hDa] at ho; cases ho
    have fD : A.B.F Da = none := by
      cases hb : A.B.F Da with
      | none => rfl
      | some o => exact nomatch (hDa.symm.trans (R1.fh _ _ (R1.f0 _ _ hb)))
    have sD : A.B.S ≠ some Da := fun hS => by
      obtain ⟨zs, a, b⟩ := R1.pin0 Da hS
      obtain ⟨v, c, d⟩ := R1.sl 0 _ a
      rw [b] at c; cases c
      obtain ⟨_, ⟨ob, z, _⟩, _⟩ := d.at trivial
      rw [hDa] at z; cases z
    have tD : ∀ q, (Da, q) ∉ A.B.T := fun q hq => by
      obtain ⟨ps, hp⟩ := R1.tab hq
      rw [show H1 Da = some (.tbl ps) from hp] at hDa; cases hDa
    have Rw := R1.wipes (vs := vs) hv
    refine lc_it (J := J) (g := graw) (tt := tt) (te := te) (vs := vs) (σ := σ) (H1 := H1) (D := Da) (Qd := fun H => Q (.ref Da) H) W (fun i H => ∃ F e ac vl rest, Same F1 F ∧ Rl X.K (A.hid Da (.lst vl)).B F H (wipe σ vs) e ∧ Reps X.K F ac vl ∧ vl.length ≤ i ∧ lcL g wc we vs (xs.drop i) e = some (rest, e2) ∧ ac ++ rest = ys) ?_ ?_ ?_ ?_
    · refine ⟨F1, wipeE e1 vs, [], [], ys, Same.refl F1, Rl.hid0 (A := A) Rw hDa, reps_nil.mpr rfl, Nat.le_refl _, hL, rfl⟩
    · rintro i H hi ⟨F, e, ac, vl, rest, s, R, _⟩
      exact hG Da (.lst vl) F H e hDa s R
    · rintro i x H H' hi ⟨F, e, ac, vl, rest, s, R, ra, hl, hlc, hac⟩ hy
      have key : ∃ d F2, xs[i]? = some d ∧ Same F F2 ∧ Rl X.K (A.hid Da (.lst vl)).B F2 H' (wipe σ vs) e ∧ Rep X.K F2 d x := by
        rcases hy with ⟨rfl, d, h1, h2⟩ | ⟨T, a, b, da, db, rfl, h2, rfl, h4, h5, h6⟩
        · exact ⟨d, F, h1, Same.refl F, R, h2.mono s⟩
        · have fT := same_none R.fh h2
          have s2 : Same F (upd F T (.tup [a, b])) := same_new fT
          exact ⟨_, _, h4, s2, R.new h2, rep_tup.mpr ⟨T, [a, b], rfl, SqT.of upd_same, reps_cons.mpr ⟨a, [b], rfl, (h5.mono s).mono s2, reps_cons.mpr ⟨b, [], rfl, (h6.mono s).mono s2, reps_nil.mpr rfl⟩⟩, (by show 2 ≤ sizeLine; decide)⟩⟩
      obtain ⟨d, F2, hd, s2, R2, rd⟩ := key
      rw [drop_cons hd] at hlc
      unfold lcL at hlc
      split at hlc
      · cases hlc
      · rename_i e3 hg
        refine hraw.go (A.hid Da (.lst vl)) rfl rfl x _ F2 H' e e3 d _ R2 rd hg fun σ2 R3 hw => ?_
        have hw2 : wipe σ2 vs = wipe σ vs := hw.trans (wipe_wipe σ vs)
        refine ⟨hw2, htt Da (.lst vl) _ _ _ ⟨F2, e3, R3, ?_⟩⟩
        split at hlc
        · rename_i e4 hc
          rw [hc]
          intro F4 H4 b sF4 R4 rb
          obtain rfl : b = true := rb
          rw [if_pos rfl]
          refine hte Da (.lst vl) _ _ _ ⟨F4, e4, R4, ?_⟩
          split at hlc
          · rename_i y e5 ht
            rw [ht]
            intro F5 H5 yv sF5 R5 ry
            split at hlc
            · rename_i zs e6 hrec
              cases hlc
              obtain ⟨g1, g2⟩ := hid_at R5 sD tD fD
              refine ⟨vl, g1, Nat.lt_of_le_of_lt hl (Nat.lt_of_lt_of_le hi hz), F5, wipeE e5 vs, ac ++ [y], vl ++ [yv], zs, ((s.trans s2).trans sF4).trans sF5, ?_, (ra.mono (s2.trans (sF4.trans sF5))).app (reps_cons.mpr ⟨yv, [], rfl, ry, reps_nil.mpr rfl⟩), by rw [List.length_append]; exact Nat.succ_le_succ hl, hrec, by rw [← hac, List.append_assoc]; rfl⟩
              have R6 := Rl.hidSet (A := A) (o' := .lst (vl ++ [yv])) R5 sD tD fD (fun c q z => by unfold LamX.CodeO at z; cases z)
              have R7 := Rl.wipes (A := A.hid Da (.lst (vl ++ [yv]))) R6 (vs := vs) hv
              rw [hw2] at R7
              exact R7
            · cases hlc
          · cases hlc
        · rename_i e4 hc
          rw [hc]
          intro F4 H4 b sF4 R4 rb
          obtain rfl : b = false := rb
          rw [if_neg (by decide)]
          have R7 := Rl.wipes (A := A.hid Da (.lst vl)) R4 (vs := vs) hv
          rw [hw2] at R7
          exact ⟨F4, wipeE e4 vs, ac, vl, rest, (s.trans s2).trans sF4, R7, ra.mono (s2.trans sF4), Nat.le_succ_of_le hl, hlc, hac⟩
        · cases hlc
    · rintro H ⟨F, e, ac, vl, rest, s, R, ra, hl, hlc, hac⟩
      rw [List.drop_length] at hlc
      cases hlc
      rw [List.append_nil] at hac
      subst hac
      have R2 := Rl.unhid (A := A) R bD sD tD fD
      obtain ⟨g1, g2⟩ := hid_at R sD tD fD
      have sF : Same F (upd F Da (.lst vl)) := same_new g2
      exact h1 (upd F Da (.lst vl)) H (.ref Da) (s.trans sF) (Rl.restore R1 R2 (s.trans sF) hv) (rep_lst.mpr ⟨Da, vl, rfl, upd_same, ra.mono sF, Nat.le_trans hl hz⟩)
theorem n_lcI {i : Nat} {y : Str} {elts : List Expr} {kk : Nat} {tpos p apos cpos : Pos} (hf : Free A i) (hc : X.calm = true) (hN : X.N.Nodup) (ok : BlkOk X.N X.env.scope scope own) (hv : ∀ v ∈ own.map (·.2), v < A.B.n ∧ (A.B.S ≠ none → v ≠ 0)) (hraw : RawG X.K g graw (own.map (·.2)) A.B.n A.B.S)
    (hg : ∀ (s : Shared) (H : Hp) (C : Addr) (cl : List (Str × Addr)) (fp : List Addr), PG (X.blk s H scope (compEnvC scope cl C X.env) fp) (.Tuple elts kk tpos) graw)
    (ht : ∀ (p0 : Addr) (o0 : HO) (Da : Addr) (o : HO) (s : Shared) (H : Hp) (C : Addr) (cl : List (Str × Addr)) (fp : List Addr), PTs (X.blk s H scope (compEnvC scope cl C X.env) fp) ifs (TTx ((A.hid p0 o0).hid Da o) wc))
    (he : ∀ (p0 : Addr) (o0 : HO) (Da : Addr) (o : HO) (s : Shared) (H : Hp) (C : Addr) (cl : List (Str × Addr)) (fp : List Addr), PE (X.blk s H scope (compEnvC scope cl C X.env) fp) elt (TEx ((A.hid p0 o0).hid Da o) we))
    (hNx : X.N[i]? = some y := by rfl) (hvis : Vis X.env.scope y := by first | exact Or.inl rfl | exact Or.inr (Or.inl rfl) | exact Or.inr (Or.inr rfl)) (hd : (y == ("__debug__" : Str)) = false := by decide) (hcd : (y == ("__classdict__" : Str)) = false := by decide)
    (hbase : attributeBase (.Name y p) "items" X.env (eval (.Name y p) X.env) = eval (.Name y p) X.env := by rfl) (hline : (apos.endLine == cpos.line) = true := by rfl)
    (hs : ∀ x, foldedSetIterable (.Call (.Attribute (.Name y p) "items" apos) [] [] cpos) X.env x = pure x := by intro _; rfl) :
    PE X (.ListComp elt [⟨.Tuple elts kk tpos, .Call (.Attribute (.Name y p) "items" apos) [] [] cpos, ifs, 0⟩] scope pos) (TEx A (wLcI i g wc we (own.map (·.2)))) :=
  pe_imp (pe_lock (pe_lc (tt := fun σ H Q => ∃ p0 o0 Da o, TTx ((A.hid p0 o0).hid Da o) wc σ H Q) (te := fun σ H Q => ∃ p0 o0 Da o, TEx ((A.hid p0 o0).hid Da o) we σ H Q) hc hN (pi_items (pe_var hNx hvis hd hcd) hbase hline) ok hg (fun s H C cl fp => ⟨fun pins s' σ H Q I ⟨p0, o0, Da, o, q⟩ => (ht p0 o0 Da o s _ C cl fp).run pins s' σ H Q I q⟩) (fun s H C cl fp => ⟨fun pins s' σ H Q I ⟨p0, o0, Da, o, q⟩ => (he p0 o0 Da o s _ C cl fp).run pins s' σ H Q I q⟩) hs)) fun σ H Q ⟨F, e, R, h⟩ => by
    unfold wLcI at h
    split at h
    · rename_i kvs hk
      obtain ⟨q, g1, g2, g3, g4, g6⟩ := own_k R hk
      refine ⟨q, .dK kvs, g3, trivial, fun od => ?_⟩
      obtain ⟨R1, bp, sp, tp, bF⟩ := R.hideK (fr := .frz od (.dK kvs)) hk hf.2 g1 g2 g3 g6
      refine ⟨.ref q, g1, q, od, kvs, rfl, upd_same, ?_⟩
      intro D hD
      refine lc_readG (A := A.hid q (.frz od (.dK kvs))) (G := fun H => H q = some (.frz od (.dK kvs))) (J := Iti q od kvs) (xs := prsD kvs) (g := g) (wc := wc) (we := we) (Q := fun v H' => H' q = some (.frz od (.dK kvs)) ∧ Q v (upd H' q (.dK kvs))) (tt := fun σ H Q => ∃ p0 o0 Da o, TTx ((A.hid p0 o0).hid Da o) wc σ H Q) (te := fun σ H Q => ∃ p0 o0 Da o, TEx ((A.hid p0 o0).hid Da o) we σ H Q) (fun Da o σ H Q z => ⟨_, _, Da, o, z⟩) (fun Da o σ H Q z => ⟨_, _, Da, o, z⟩) hv hraw R1 (by unfold prsD; rw [List.length_map]; exact g4) ?_ ?_ ?_ D hD
      · have hlen : (prsD kvs).length = kvs.length := by unfold prsD; rw [List.length_map]
        rw [hlen]
        refine Walk.mono walk_items (fun H s => s) fun i H x H' hi s hy => ?_
        obtain ⟨T, a, b, e1, e2, e3, e4, e5⟩ := hy
        have e4 : kvs[i]?.map (fun kv => kV kv.1) = some a := e4
        have e5 : kvs[i]?.map Prod.snd = some b := e5
        refine .inr ⟨T, a, b, .at a, .at b, e1, e2, e3, ?_, rep_at.mpr rfl, rep_at.mpr rfl⟩
        unfold prsD
        rw [List.getElem?_map]
        cases hki : kvs[i]? with
        | none => rw [hki] at e4; cases e4
        | some kv =>
          rw [hki] at e4 e5
          cases e4; cases e5
          rfl
      · intro Da o F3 H3 e3 hDa s3 R3
        have ne : q ≠ Da := fun z => by rw [← z, upd_same] at hDa; cases hDa
        exact R3.h0 q _ (show upd (upd A.B.H q (.frz od (.dK kvs))) Da o q = _ by rw [upd_ne ne, upd_same]) sp tp
      · cases hL : lcL g wc we (own.map (·.2)) (prsD kvs) (wipeE (st e i none) (own.map (·.2))) with
        | none => rw [hL] at h; exact h.elim
        | some r =>
          obtain ⟨ys, e2⟩ := r
          rw [hL] at h
          intro F' H' v s' R' r'
          obtain ⟨k1, k2⟩ := hid_at R' sp tp bF
          have hlen : i < (rsE (st e i none) e2 (own.map (·.2))).length := by
            rw [R'.ln]; exact hf.1
          exact ⟨k1, h F' _ v s' (R'.unhideK hlen hf.2 g1 g4 (fun c q z => by unfold LamX.CodeO at z; cases z) bp sp tp bF) r'⟩
    · exact h.elim
end
end Ly
set_option maxHeartbeats 2000000
/-! Ly26: lambdas kept in lists: the closure stands in the heap's table. -/
namespace Ly
open PySem PySem.Spec PyProof.Rows L2 HotX L2H LamX
/-- a closure, by its one object -/
def CloO (f : Addr) (q : Str) (params : Arguments) (body : Expr) (scope : Scope) (cl : List (Str × Addr)) (c1 : Addr) : HO :=
  .ext fun h => ∃ pm ctv : Value, h.get? f = some (PySem.W.kla_obj "<lambda>" q params body scope cl pm c1 ctv)
theorem clo_ok {P : Program} {w : World} {H : Hp} {h : Heap} {f c1 : Addr} {q : Str} {params : Arguments} {body : Expr} {scope : Scope} {cl : List (Str × Addr)} {pm ctv : Value} (e : h.get? f = some (PySem.W.kla_obj "<lambda>" q params body scope cl pm c1 ctv)) : ObjOk P w H h f (CloO f q params body scope cl c1) :=
  ⟨⟨pm, ctv, e⟩, ⟨_, e⟩, fun h1 h2 ⟨pm, ctv, e⟩ k => ⟨pm, ctv, k _ e⟩⟩
section
variable {X : Cx} {pins : List (Addr × Obj)} {σ : St} {H : Hp} {s : Shared}
theorem lam_makeU {T : List (Addr × Str)} {c P : Addr} {params : Arguments} {body : Expr} {scope : Scope} {pos : Pos} {E : Value → Shared → Prop} {Q : Value → Shared → Prop} (I : Inv X pins σ H s) (TB : TabB X.base X.mg c P) (hcode : X.env.code = .ref c)
    (hm : (P, X.env.qual ++ "<lambda>") ∈ T) (hu : ∀ p ∈ T, p.1 = P → p.2 = X.env.qual ++ "<lambda>") (hT : Tabs T H) (hdef : defaultsOf params X.env = ([], [])) (hfree : ∀ y ∈ scope.names, y.2 = .free → ∃ c, X.env.cells.lookup y.1 = some c)
    (h : ∀ (f c1 : Addr) (H1 : Hp) (t : Shared), Inv X pins σ H1 t → ExtT T H H1 → Tabs T H1 → H f = none →
      H1 f = some (CloO f (X.env.qual ++ "<lambda>") params body scope (cloFrom X.env.cells scope.names []) c1) → f ∉ frs X.stack → H1 c1 = some (CodeO c1 (X.env.qual ++ "<lambda>")) → Q (.ref f) t) :
    wpAny (model X.prog X.w) X.A (eval (.Lambda params body scope pos) X.env) Q E s := by
  obtain ⟨ps, hP, tri, am⟩ := hT _ hm
  have atP : s.heap.get? P = some { cls := .none, data := .fields ps } := I.hok P _ hP
  have bn : s.heap.BuiltinsAt X.mg P := TB.bm.keeps I.bk
  have out : ∀ {g : Addr}, s.heap.objs.size ≤ g → g ∉ frs X.stack := fun {g} hg z => (List.mem_cons.mp (I.stkSub _ z)).elim (fun e => Nat.lt_irrefl _ (Nat.lt_of_lt_of_le (e ▸ I.lt) hg)) fun e => I.nofs hg e
  refine PySem.W.kla_eval hdef ?_
  cases hc : codeAmong pos ps.toList with
  | some cv =>
    obtain ⟨c1, e, hco⟩ := am pos cv hc
    subst e
    refine PySem.W.kla_makeFunctionHit (mg := X.mg) (c := c) (P := P) (ps := ps) (closure_ok hfree) I.ok.glob (I.mod.glob.keeps I.bk) hcode (TB.code.keeps I.bk) atP tri hc bn fun ctv g tk hx hsz => ?_
    have hfs : H g.objs.size = none := I.hok.fresh hsz
    have kp : ∀ b o, s.heap.get? b = some o → (g.push (PySem.W.kla_obj "<lambda>" (X.env.qual ++ "<lambda>") params body scope (cloFrom X.env.cells scope.names []) ((X.mg "__name__").getD .none) c1 ctv)).get? b = some o := fun b o e => Heap.get?_push_of_some _ (hx b o e)
    have J : Inv X pins σ (upd H g.objs.size (CloO g.objs.size (X.env.qual ++ "<lambda>") params body scope (cloFrom X.env.cells scope.names []) c1)) { s with heap := g.push (PySem.W.kla_obj "<lambda>" (X.env.qual ++ "<lambda>") params body scope (cloFrom X.env.cells scope.names []) ((X.mg "__name__").getD .none) c1 ctv), toks := tk } := I.un (Un.laid kp hsz hfs) (I.hok.laid kp hsz (clo_ok (Heap.get?_push_size _ rfl)))
    have kH : ∀ b o, H b = some o → upd H g.objs.size (CloO g.objs.size (X.env.qual ++ "<lambda>") params body scope (cloFrom X.env.cells scope.names []) c1) b = some o := fun b o e => by rw [upd_ne (ne_of_none e hfs)]; exact e
    exact h g.objs.size c1 _ _ J (fun b o e _ => kH b o e) (hT.ext kH) hfs upd_same (out hsz) (kH _ _ hco)
  | none =>
    refine PySem.W.kla_makeFunction (mg := X.mg) (c := c) (P := P) (ps := ps) (closure_ok hfree) I.ok.glob (I.mod.glob.keeps I.bk) hcode (TB.code.keeps I.bk) atP tri hc TB.gP bn fun c1 ctv g tk hx hge hlt hrec htb => ?_
    obtain ⟨c2, oc, vs, t, e2, hoc, hd, hv⟩ := hrec
    cases e2
    have hsz : s.heap.objs.size ≤ g.objs.size := Nat.le_trans hge (Nat.le_of_lt hlt)
    have nC : H c1 = none := I.hok.fresh hge
    have nPc : P ≠ c1 := ne_of_none hP nC
    have J0 := inv_table (t' := tk) (more := #[rawInt pos.line, rawInt pos.col, .ref c1]) (h' := g) I hP (fun b o hb e => hx b o hb e) htb hge ⟨oc, vs, t, hoc, hd, hv⟩
    have nf : upd (upd H P (.tbl (ps ++ #[rawInt pos.line, rawInt pos.col, .ref c1]))) c1 (CodeO c1 (X.env.qual ++ "<lambda>")) g.objs.size = none := J0.hok.fresh (Nat.le_refl _)
    have kp : ∀ b o, g.get? b = some o → (g.push (PySem.W.kla_obj "<lambda>" (X.env.qual ++ "<lambda>") params body scope (cloFrom X.env.cells scope.names []) ((X.mg "__name__").getD .none) c1 ctv)).get? b = some o := fun b o e => Heap.get?_push_of_some _ e
    have J := J0.un (t' := tk) (Un.laid (o := (CloO g.objs.size (X.env.qual ++ "<lambda>") params body scope (cloFrom X.env.cells scope.names []) c1)) kp (Nat.le_refl _) nf) (J0.hok.laid kp (Nat.le_refl _) (clo_ok (Heap.get?_push_size _ rfl)))
    have kH : ∀ b o, upd (upd H P (.tbl (ps ++ #[rawInt pos.line, rawInt pos.col, .ref c1]))) c1 (CodeO c1 (X.env.qual ++ "<lambda>")) b = some o → upd (upd (upd H P (.tbl (ps ++ #[rawInt pos.line, rawInt pos.col, .ref c1]))) c1 (CodeO c1 (X.env.qual ++ "<lambda>"))) g.objs.size (CloO g.objs.size (X.env.qual ++ "<lambda>") params body scope (cloFrom X.env.cells scope.names []) c1) b = some o := fun b o e => by rw [upd_ne (ne_of_none e nf)]; exact e
    have eL : (ps ++ #[rawInt pos.line, rawInt pos.col, .ref c1]).toList = ps.toList ++ [rawInt pos.line, rawInt pos.col, .ref c1] := by simp
    have keep : ∀ b o, H b = some o → b ≠ P → upd (upd H P (.tbl (ps ++ #[rawInt pos.line, rawInt pos.col, .ref c1]))) c1 (CodeO c1 (X.env.qual ++ "<lambda>")) b = some o := fun b o e n => by
      rw [upd_ne (ne_of_none e nC), upd_ne n]; exact e
    have codes : ∀ {b q : _}, H b = some (CodeO b q) → b ≠ P := fun {b q} e z => by
      rw [z, hP] at e
      exact codeO_ne ps (Option.some.inj e).symm
    refine h g.objs.size c1 _ _ J (fun b o e n => kH _ _ (keep b o e fun z => n _ (z ▸ hm))) (Tabs.ext (fun p hp => ?_) kH) (I.hok.fresh hsz) upd_same (out hsz) (kH _ _ upd_same)
    · by_cases hb : p.1 = P
      · rw [hu p hp hb, hb]
        refine ⟨_, (upd_ne nPc).trans upd_same, eL ▸ PySem.TriplesOk_snoc _ _ _ _ tri, fun p' cv hcv => ?_⟩
        rw [eL] at hcv
        rcases among_app _ tri hcv with z | z
        · obtain ⟨c0, e1, e2⟩ := am p' cv z
          exact ⟨c0, e1, keep _ _ e2 (codes e2)⟩
        · exact ⟨c1, z, upd_same⟩
      · obtain ⟨qs, a1, a2, a3⟩ := hT p hp
        refine ⟨qs, keep _ _ a1 hb, a2, fun p' cv hcv => ?_⟩
        obtain ⟨c0, e1, e2⟩ := a3 p' cv hcv
        exact ⟨c0, e1, keep _ _ e2 (codes e2)⟩
end
/-! ### a closure's cells -/
/-- what a closure keeps: its names stand in cells; N, σ: the names that are read, and their values -/
structure CloC (scope : Scope) (cl : List (Str × Addr)) (N : List Str) (σ : St) (H : Hp) (h : Heap) : Prop where
  kind : scope.kind = .function
  co : scope.isCoroutine = false
  gen : scope.isGenerator = false
  own : ∀ y ∈ scope.names, y.2 ≠ .local ∧ y.2 ≠ .cell
  look : ∀ y ∈ scope.names, y.2 = .free → ∃ c, cl.lookup y.1 = some c
  inj : ∀ x y c, cl.lookup x = some c → cl.lookup y = some c → x = y
  cell : ∀ y c, cl.lookup y = some c → H c = none ∧ ∃ v, h.IsCell c v
  val : ∀ (i : Nat) (y : Str) (v : V) (c : Addr), N[i]? = some y → σ[i]? = some (some v) → cl.lookup y = some c → ∃ u, RelV v u ∧ h.IsCell c (some u)
  len : σ.length = N.length
theorem CloC.keep {scope : Scope} {cl : List (Str × Addr)} {N : List Str} {σ : St} {H H1 : Hp} {h h1 : Heap} {fs : List Addr} (C : CloC scope cl N σ H h) (un : Un fs [] H H1 h h1) : CloC scope cl N σ H1 h1 := by
  have cellK : ∀ {c : Addr} {v : Option Value}, H c = none → h.IsCell c v → h1.IsCell c v := fun {c v} n ⟨o, ho, hd⟩ => by
    obtain ⟨sl, q⟩ := un.any ho n (by simp)
    exact ⟨_, q, hd⟩
  refine ⟨C.kind, C.co, C.gen, C.own, C.look, C.inj, fun y c e => ?_, fun i y v c e1 e2 e3 => ?_, C.len⟩
  · obtain ⟨n, v, hv⟩ := C.cell y c e
    obtain ⟨o, ho, hd⟩ := hv
    exact ⟨un.free c o ho n (by simp), v, cellK n ⟨o, ho, hd⟩⟩
  · obtain ⟨u, r, hu⟩ := C.val i y v c e1 e2 e3
    exact ⟨u, r, cellK (C.cell y c e3).1 hu⟩
abbrev envG (q : Str) (scope : Scope) (L f c' : Addr) (cl : List (Str × Addr)) : Env := PySem.W.envX q scope L f (.ref c') cl
/-- the context of the body of a closure, entered at s from the frames outer -/
def lamG0 (P : Program) (w : World) (K : PySem.W.Frag) (mg : Str → Option Value) (base : Heap) (q : Str) (N : List Str) (A : Around) (outer : List Env) (s : Shared) (H : Hp) (E : XK) (scope : Scope) (f c' : Addr) (cl : List (Str × Addr)) : Cx where
  prog := P
  w := w
  K := K
  mg := mg
  base := base
  A := A.deeper (envG q scope s.heap.objs.size f c' cl)
  N := N
  s_0 := s
  H_0 := H
  env := envG q scope s.heap.objs.size f c' cl
  outer := outer
  stack := envG q scope s.heap.objs.size f c' cl :: outer
  ex := []
  fn := fun _ => false
  calm := true
  pn := []
  xe := fun e s' => wpAny (model P w) (A.deeper (envG q scope s.heap.objs.size f c' cl)) (leaving (envG q scope s.heap.objs.size f c' cl) e) (fun _ s'' => L2.CX P w outer H s E e s'') (fun e' s'' => L2.CX P w outer H s E e' s'') s'
def lamG (P : Program) (w : World) (K : PySem.W.Frag) (mg : Str → Option Value) (base : Heap) (q : Str) (N : List Str) (A : Around) (outer : List Env) (s : Shared) (H : Hp) (E : XK) (scope : Scope) (f c1 : Addr) (cl : List (Str × Addr)) : Cx :=
  (lamG0 P w K mg base q N A outer s H E scope f c1 cl).tr [] (fun e t => wpAny (model P w) (A.deeper (envG q scope s.heap.objs.size f c1 cl)) (leaving (envG q scope s.heap.objs.size f c1 cl) e) (fun _ t2 => L2N.CX P w outer H s E e t2) (fun e2 t2 => L2N.CX P w outer H s E e2 t2) t)
section
variable {X : Cx} {q : Str} {N : List Str} {σ : St} {H HZ : Hp} {s s1 : Shared} {cl : List (Str × Addr)}
theorem takesG {A : Around} {outer : List Env} {E : XK} {scope : Scope} {f c1 : Addr} : L2N.Takes (lamG X.prog X.w X.K X.mg X.base q N A outer s H E scope f c1 cl) (fun cls d _ H => E cls d H) := L2N.takes_of rfl rfl rfl rfl
theorem passG {A : Around} {outer : List Env} {E : XK} {scope : Scope} {f c1 : Addr} : Passes (L2N.CX (lamG X.prog X.w X.K X.mg X.base q N A outer s H E scope f c1 cl).prog (lamG X.prog X.w X.K X.mg X.base q N A outer s H E scope f c1 cl).w) (lamG X.prog X.w X.K X.mg X.base q N A outer s H E scope f c1 cl) E := L2N.passes_call takesG fun _ _ _ _ h => h
theorem lam_startG {A : Around} {outer : List Env} {E : XK} {scope : Scope} {f c' : Addr} {h₁ : Heap} {tk : Nat} (C : CloC scope cl N σ HZ s1.heap) (e0 : Env0 X.prog X.w X.K X.mg X.base A outer s1 HZ) (hd : A.handled = none)
    (hns : h₁.Ns s1.heap.objs.size fun y => ([] : List (Str × Value)).reverse.lookup y) (kp : ∀ b o, s1.heap.get? b = some o → h₁.get? b = some o) :
    Inv (lamG0 X.prog X.w X.K X.mg X.base q N A outer s1 HZ E scope f c' cl) [] σ HZ { s1 with heap := h₁, toks := tk } := by
  have look : ∀ {y}, scope.names.lookup y = some .free → ∃ c, cl.lookup y = some c := fun {y} hl => C.look (y, NameKind.free) (PySem.mem_of_lookup hl) rfl
  have cellK : ∀ {c : Addr} {v : Option Value}, s1.heap.IsCell c v → h₁.IsCell c v := fun {c v} ⟨o, ho, hd⟩ => ⟨_, kp _ _ ho, hd⟩
  have noA : ∀ b : Addr, b ∉ (lamG0 X.prog X.w X.K X.mg X.base q N A outer s1 HZ E scope f c' cl).ex := fun b z => absurd (show b ∈ ([] : List Addr) from z) (by simp)
  refine ⟨⟨e0.mod, C.kind, rfl, rfl, Nat.le_refl _, fun y z c e1 e2 => C.inj y z c e1 e2, fun y hy => ?_, fun y c z _ => ?_, fun _ => hd, Around.frames_deeper e0.frames, .inr ⟨rfl, rfl⟩, fun b z => absurd z (noA b), e0.bs, e0.bsz, fun b _ _ => noA b,
      fun b z => absurd z (noA b), e0.funs, e0.frf⟩,
    rfl, e0.bare, Un.kept kp, ⟨_, hns, fun i y v e1 e2 e3 => ?_⟩, fun y c e => ?_, e0.hok.fresh (Nat.le_refl _), fun y c e => ?_, fun q hq => absurd (show q ∈ ([] : List (Addr × Obj)) ++ [] from hq) (by simp), e0.hok.kept kp, C.len⟩
  · have hy : scope.names.lookup y = some .cell ∨ scope.names.lookup y = some .free := hy
    rcases hy with hy | hy
    · exact absurd rfl (C.own _ (PySem.mem_of_lookup hy)).2
    · exact look hy
  · have z : false = true := z
    cases z
  · have e3 : Vis scope y := e3
    rcases e3 with k | k | k
    · exact absurd rfl (C.own _ (PySem.mem_of_lookup k)).1
    · exact absurd rfl (C.own _ (PySem.mem_of_lookup k)).2
    · obtain ⟨c2, h2⟩ := look k
      obtain ⟨u, r, hu⟩ := C.val i y v c2 e1 e2 h2
      exact ⟨u, r, .inr ⟨.inr k, c2, h2, cellK hu⟩⟩
  · obtain ⟨_, w', z⟩ := C.cell y c e
    exact ⟨w', cellK z⟩
  · exact (C.cell y c e).1
theorem act_c {Ng : List Str} {qg : Str} {sg : Scope} {g f c1 : Addr} {cdg : Value} {params : Arguments} {body : Expr} {scope : Scope} {k i : Nat} {a : Str} {pn : List (Addr × Obj)} {xe : Value → Shared → Prop} {W : WX} {E Eg : XK} {tb : TE} {p1 p2 : Pos}
    (C : CloC scope cl N σ H s.heap) (hbind : ∀ (pm cv ctv : Value), bindArgs (PySem.W.kla_fn "<lambda>" q params body scope cl pm cv ctv) ⟨[], []⟩ = pure [])
    (tk : L2N.Takes ((cxOf (L2N.CX X.prog X.w) X.prog X.w X.K X.mg X.base Ng qg sg g cdg X.A X.stack s H Eg).tr pn xe) W) (hW : ∀ cls d σ' H', E cls d H' → W cls d σ' H') (hr : Room (k + 1) (X.A.deeper (envOfC qg sg s.heap.objs.size g cdg)))
    (hbody : ∀ (A : Around) (outer : List Env) (s : Shared) (H : Hp), Room k (A.deeper (envG q scope s.heap.objs.size f c1 cl)) → PE (lamG X.prog X.w X.K X.mg X.base q N A outer s H E scope f c1 cl) body tb)
    (hN : Ng[i]? = some a) (hv : Vis sg a) (hd : (a == ("__debug__" : Str)) = false := by decide) (hcd : (a == ("__classdict__" : Str)) = false := by decide) :
    PE ((cxOf (L2N.CX X.prog X.w) X.prog X.w X.K X.mg X.base Ng qg sg g cdg X.A X.stack s H Eg).tr pn xe) (.Call (.Name a p1) [] [] p2)
      (fun σZ HZ Q => σZ[i]? = some (some (.ref f)) ∧ HZ f = some (CloO f q params body scope cl c1) ∧ HZ c1 = some (CodeO c1 q) ∧ tb σ HZ Q) := by
  refine ⟨fun pinsZ sZ σZ HZ Q IZ ⟨hs, hf, hc, ht⟩ => ?_⟩
  refine wpAny_Call_Name_kw (thn ((pe_var (pos := p1) (i := i) hN hv hd hcd).run pinsZ sZ σZ HZ (fun v H1 => v = .ref f ∧ H1 = HZ) IZ ⟨.ref f, hs, rfl, rfl⟩) fun u sy ⟨v, H1, I1, r1, ev, eH⟩ => ?_)
  subst ev eH
  obtain rfl : u = Value.ref f := r1
  obtain ⟨⟨pm, ctv, atF⟩, _, _⟩ := I1.hok f _ hf
  refine PySem.W.callWith_F0 ⟨_, _, _, _, atF⟩ ?_
  have un : Un (frs X.stack) [] H H1 s.heap sy.heap := I1.base
  obtain ⟨⟨oc, vs, t, hoc, hdc, hvc⟩, _, _⟩ := I1.hok c1 _ hc
  have C1 := C.keep un
  have rc : codeAny (model X.prog X.w) (X.A.deeper (envOfC qg sg s.heap.objs.size g cdg)) (.call (.ref f) ⟨[], []⟩) (CR (L2N.CX X.prog X.w) (envOfC qg sg s.heap.objs.size g cdg :: X.stack) X.prog X.w H1 sy Q E) sy := by
    refine PySem.W.kla_callFunE hr.depth atF rfl C.co C.gen rfl ⟨c1, oc, vs, t, rfl, hoc, hdc, hvc⟩ ?_
    rw [hbind]
    refine wpAny_pure (wpAny_newFunctionEnv (fun y hy => (C.own y hy).2) (fun y hy => absurd hy (by simp)) (fun h₁ hns hsb => ⟨I1.nolimit.fresh _ hsb, ?_⟩) C.kind)
    show codeAny _ _ (.expr body (envG q scope sy.heap.objs.size f c1 cl)) _ _
    have kp : ∀ b o, sy.heap.get? b = some o → h₁.get? b = some o := fun b o e => hsb.extBut b o (Nat.ne_of_lt (Heap.lt_size e)) (Heap.get?_push_of_some _ e)
    have J0 : Inv (lamG0 X.prog X.w X.K X.mg X.base q N (X.A.deeper (envOfC qg sg s.heap.objs.size g cdg)) (envOfC qg sg s.heap.objs.size g cdg :: X.stack) sy H1 E scope f c1 cl) [] σ H1 { sy with heap := h₁, toks := sy.toks + ([] : List (Str × Value)).length } :=
      lam_startG C1 I1.env0 hr.hd hns kp
    have J : Inv (lamG X.prog X.w X.K X.mg X.base q N (X.A.deeper (envOfC qg sg s.heap.objs.size g cdg)) (envOfC qg sg s.heap.objs.size g cdg :: X.stack) sy H1 E scope f c1 cl) [] σ H1 { sy with heap := h₁, toks := sy.toks + ([] : List (Str × Value)).length } := J0.toTry _
    refine PySem.W.kla_codeExpr (wpAny_mono ((hbody _ _ sy H1 (hr.deeper _)).run [] _ _ H1 Q J ht) (fun v s2 ⟨w2, H2, J2, rv, q⟩ => ?_) fun e s2 hq => hq)
    exact ⟨w2, H2, J2.os, J2.bare, J2.base, J2.hok, rv, q⟩
  have hx : Passes (L2N.CX X.prog X.w) ((cxOf (L2N.CX X.prog X.w) X.prog X.w X.K X.mg X.base Ng qg sg g cdg X.A X.stack s H Eg).tr pn xe) E := L2N.passes_call tk hW
  refine wpAny_call (codeAny_mono rc fun r s2 hq => ?_)
  match r, hq with
  | .error e, hq => exact hx pinsZ σZ H1 sy e s2 I1 hq
  | .ok (.ret u), hq => exact I1.after hq
  | .ok .next, hq => exact False.elim hq
  | .ok .brk, hq => exact False.elim hq
  | .ok .cont, hq => exact False.elim hq
end
/-! ### x(y), y a closure that raises -/
/-- a closure that is known to end with an error of this name: its object and code stand in H0, its values in F0, its cells in base -/
structure TellB (P : Program) (w : World) (K : PySem.W.Frag) (mg : Str → Option Value) (base : Heap) (T : List (Addr × Str)) (cl : Str → Option Addr) (errN : Str → Option Str) (F0 H0 : Hp) (k : Nat) (f : Addr) (nm : Str) : Prop where
  ex : ∃ (q : Str) (params : Arguments) (body : Expr) (scope : Scope) (cs : List (Str × Addr)) (c1 : Addr) (N : List Str) (σ0 : St) (e0 : En) (we : WEx) (cc : Str),
    H0 f = some (CloO f q params body scope cs c1) ∧ H0 c1 = some (CodeO c1 q) ∧ (∀ z, (f, z) ∉ T) ∧ (∀ z, (c1, z) ∉ T) ∧
    (scope.kind = .function ∧ scope.isCoroutine = false ∧ scope.isGenerator = false ∧ (∀ y ∈ scope.names, y.2 ≠ .local ∧ y.2 ≠ .cell) ∧ (∀ y ∈ scope.names, y.2 = .free → ∃ c, cs.lookup y.1 = some c) ∧ ∀ x y c, cs.lookup x = some c → cs.lookup y = some c → x = y) ∧
    (∀ y c, cs.lookup y = some c → ∃ v, base.IsCell c v) ∧ (∀ (i : Nat) (y : Str) (v : V) (c : Addr), N[i]? = some y → σ0[i]? = some (some v) → cs.lookup y = some c → ∃ u, RelV v u ∧ base.IsCell c (some u)) ∧
    σ0.length = N.length ∧ e0.length = N.length ∧ (∀ i s, gt e0 i = some s → ∃ d v, s = .v d ∧ σ0[i]? = some (some v) ∧ Rep K F0 d v) ∧
    (∀ (pm cv ctv : Value), bindArgs (PySem.W.kla_fn "<lambda>" q params body scope cs pm cv ctv) ⟨[], []⟩ = pure []) ∧
    (∀ (A1 : Around) (outer : List Env) (s : Shared) (H : Hp) (E : XK) (Fz Hz : Hp), Room k (A1.deeper (envG q scope s.heap.objs.size f c1 cs)) → PE (lamG P w K mg base q N A1 outer s H E scope f c1 cs) body (TEx (K := K) ⟨⟨Fz, Hz, none, T, N.length⟩, E, cl⟩ we)) ∧
    we e0 = some (.er cc) ∧ errN cc = some nm
theorem TellB.mono {P : Program} {w : World} {K : PySem.W.Frag} {mg : Str → Option Value} {base : Heap} {T : List (Addr × Str)} {cl : Str → Option Addr} {errN : Str → Option Str} {F0 F1 H0 : Hp} {k : Nat} {f : Addr} {nm : Str} (t : TellB P w K mg base T cl errN F0 H0 k f nm) (s : Same F0 F1) : TellB P w K mg base T cl errN F1 H0 k f nm := by
  obtain ⟨q, params, body, scope, cs, c1, N, σ0, e0, we, cc, h1, h2, h3, h4, h5, h6, h7, h8, h9, h10, h11, h12, h13, h14⟩ := t.ex
  exact ⟨q, params, body, scope, cs, c1, N, σ0, e0, we, cc, h1, h2, h3, h4, h5, h6, h7, h8, h9, fun i s hs => by
    obtain ⟨d, v, e1, e2, e3⟩ := h10 i s hs
    exact ⟨d, v, e1, e2, Rep.mono ‹_› _ _ e3⟩, h11, h12, h13, h14⟩
theorem TellB.hid {P : Program} {w : World} {K : PySem.W.Frag} {mg : Str → Option Value} {base : Heap} {T : List (Addr × Str)} {cl : Str → Option Addr} {errN : Str → Option Str} {F0 H0 : Hp} {k : Nat} {f : Addr} {nm : Str} {Da : Addr} {o : HO} (t : TellB P w K mg base T cl errN F0 H0 k f nm) (h : H0 Da = none) : TellB P w K mg base T cl errN F0 (upd H0 Da o) k f nm := by
  obtain ⟨q, params, body, scope, cs, c1, N, σ0, e0, we, cc, h1, h2, h3⟩ := t.ex
  exact ⟨q, params, body, scope, cs, c1, N, σ0, e0, we, cc, by rw [upd_ne (ne_of_none h1 h)]; exact h1, by rw [upd_ne (ne_of_none h2 h)]; exact h2, h3⟩
def wCameV (tells : Addr → Option Str) (wa : WEx) : WEx := fun e => bnd (wa e) fun d e1 => match d with
  | .at (.ref f) => (match tells f with
    | some nm => some (.ok (.str nm) e1)
    | none => none)
  | _ => none
section
variable {X : Cx} {A : Ax X.K} {x y : Str} {j k : Nat} {p p2 pos : Pos} {wa : WEx} {errN : Str → Option Str}
theorem n_cameV {tells : Addr → Option Str} (G : GCame X.prog X.w X.K X.mg X.base A.B.T A.cl j x errN) (hj : j ≤ k) (hr : Room (k + 2) X.A) (hg : Gl X x)
    (CT : ∀ f nm, tells f = some nm → TellB X.prog X.w X.K X.mg X.base A.B.T A.cl errN A.B.F A.B.H k f nm) (hS : A.B.S = none) (ha : PE X (.Name y p2) (TEx A wa))
    (hdb : (x == ("__debug__" : Str)) = false := by decide) : PE X (.Call (.Name x p) [.Name y p2] [] pos) (TEx A (wCameV tells wa)) := by
  obtain ⟨g, fd, pg, sg, CS, xe, p1, p2', p3, p4, p5, p6, p7, p8, p9, p10, p11, FD, Sg, hm, hb, he1, he2, he3, he4, he5, hmS, GE, hex⟩ := G.ex
  obtain ⟨oc, od, dV, kV, doc, pm0, an, cdv, ct, osl, efd, lk, hcd, _, _⟩ := FD.ex
  refine ⟨fun pins s σ H Q I ⟨F, e, R, h⟩ => ?_⟩
  refine wpAny_Call_Name_kw (ld_glob I hg hm ?_ hdb)
  refine PySem.W.callWith_K (h₀ := X.base) I.ok.mod.kin FD.kp (thn ((n_cons ha n_nil).run pos pins s σ H (fun vs H1 => ∃ f nm F1 e1, vs = [.ref f] ∧ tells f = some nm ∧ Rl X.K A.B F1 H1 σ e1 ∧ ∀ F2 H2, Same F1 F2 → Rl X.K A.B F2 H2 σ e1 → Q (.str nm) H2) I ⟨F, e, R, ?_⟩) fun us s1 ⟨vs0, H1, I1, r, f, nm, F1, e1, ev, hf, R1, hQ⟩ => ⟨I1.kIn, ?_⟩) (by rfl) (by rfl)
  · unfold wCameV at h
    show FinG A (Reps X.K) σ F _ (bnd (wa e) fun d e1 => bnd (wNil e1) fun ds e2 => some (.ok (d :: ds) e2))
    revert h
    cases hw : wa e with
    | none => exact fun h => h
    | some r =>
      cases r with
      | er c => exact fun h => h
      | ok d e1 =>
        intro h F2 H2 vs sF R2 r2
        simp only [bnd_ok] at h
        obtain ⟨v, r', rfl, q1, q2⟩ := reps_cons.mp r2
        obtain rfl := reps_nil.mp q2
        cases d with
        | «at» v0 =>
          cases v0 with
          | ref f =>
            obtain rfl := rep_at.mp q1
            dsimp only at h
            cases ht : tells f with
            | none => rw [ht] at h; exact h.elim
            | some nm =>
              rw [ht] at h
              exact ⟨f, nm, F2, _, rfl, ht, R2, fun F3 H3 s3 R3 => h F3 H3 (.str nm) (sF.trans s3) R3 (rep_at.mpr rfl)⟩
          | _ => exact h.elim
        | _ => exact h.elim
  subst ev
  obtain ⟨u, rfl, ru⟩ := vals1 r
  obtain rfl : u = .ref f := ru
  obtain ⟨q, params, body, scope, cs, c1, N, σ0, e0, we, cc, hF, hC, hfT, hcT, ⟨z1, z2, z3, z4, z5, z6⟩, hcell, hval, hlen, hlen2, hreps, hbind, hbody, hw, hn⟩ := (CT f nm hf).ex
  have bc : ∀ {c : Addr} {v : Option Value}, X.base.IsCell c v → H1 c = none ∧ s1.heap.IsCell c v := fun {c v} ⟨o, ho, hd⟩ => ⟨(I1.bs c o ho).2, o, (I1.bs c o ho).1, hd⟩
  have C : CloC scope cs N σ0 H1 s1.heap := ⟨z1, z2, z3, z4, z5, z6, fun y c e => by
      obtain ⟨v, hv⟩ := hcell y c e
      exact ⟨(bc hv).1, v, (bc hv).2⟩, fun i y v c e1 e2 e3 => by
      obtain ⟨u, r, hu⟩ := hval i y v c e1 e2 e3
      exact ⟨u, r, (bc hu).2⟩, hlen⟩
  have Rm : Rl X.K ⟨F1, H1, none, A.B.T, N.length⟩ F1 H1 σ0 e0 := ⟨R1.fh, Same.refl F1, fun b o hb _ _ => hb, fun b o hb => ⟨o, hb⟩, fun b o _ hf => hf, R1.tbs, R1.tF, hlen.trans hlen2.symm, hlen2, fun i s hi => by
      obtain ⟨d, v, rfl, h1, h2⟩ := hreps i s hi
      exact ⟨v, h1, Rep.mono R1.f0 _ _ h2⟩, fun i j s s' p h1 _ o1 _ _ _ => by
      obtain ⟨d, v, rfl, _, _⟩ := hreps i s h1
      exact o1.elim, fun p h => (nomatch h), fun p h => (nomatch h)⟩
  have hF1 : H1 f = some (CloO f q params body scope cs c1) := R1.h0 _ _ hF (by rw [hS]; exact fun z => by cases z) hfT
  have hC1 : H1 c1 = some (CodeO c1 q) := R1.h0 _ _ hC (by rw [hS]; exact fun z => by cases z) hcT
  have rc : codeAny (model X.prog X.w) X.A (.call (.ref g) ⟨[.ref f], []⟩) (CR (L2N.CX X.prog X.w) X.stack X.prog X.w H1 s1 Q (fun _ _ _ => False)) s1 := by
    have bi := hb s1 [.ref f] I1.kIn rfl
    rw [efd] at lk bi
    refine run_ofS (N := ["call_so", "e"]) (ps := ["call_so"]) (us := [.ref f]) (vs := [.ref f]) lk hcd Sg hr I1.env0 bi (.cons rfl .nil) rfl fun hr2 => ?_
    have hgS : Gl (cxOf (L2N.CX X.prog X.w) X.prog X.w X.K X.mg X.base ["call_so", "e"] x sg g cdv X.A X.stack s1 H1 (fun _ _ _ => False)) "StepError" := he3
    refine ⟨_, pss_one (L2N.ps_try_as (X := cxOf (L2N.CX X.prog X.w) X.prog X.w X.K X.mg X.base ["call_so", "e"] x sg g cdv X.A X.stack s1 H1 (fun _ _ _ => False)) (Wout := fun _ _ _ _ => False) (c := .ref CS) (i := 1) (n := "e")
      (tb := fun W D σZ HZ => ∃ Ech : XK, (∀ cls d σ2 H2, Ech cls d H2 → W cls d σ2 H2) ∧ σZ[0]? = some (some (.ref f)) ∧ HZ f = some (CloO f q params body scope cs c1) ∧ HZ c1 = some (CodeO c1 q) ∧ TEx (K := X.K) ⟨⟨F1, H1, none, A.B.T, N.length⟩, Ech, A.cl⟩ we σ0 HZ (fun v H2 => 1 ≤ sizeLine ∧ ∀ q, H2 q = none → D.rt (.ref q) (upd H2 q (.lst [v]))))
      (ts := fun a cls d => tRet (tErr X.K A.B.T A.cl errN 1 a cls d))
      rfl rfl Sg.nd rfl he1 ⟨hgS, by decide, .inl hmS⟩ takesF (fun W pn xx tk _ => ⟨fun pins2 s2 σ2 H2 D I2 ⟨Ech, hW, h1, h2, h4, h3⟩ => ?_⟩) (fun a oe cls d pn hz hfd => pss_one (ps_ret ?_))), ?_⟩
    · refine (pss_one (ps_ret (pe_lst (pa_cons (act_c (i := 0) (E := Ech) (tb := TEx (K := X.K) ⟨⟨F1, H1, none, A.B.T, N.length⟩, Ech, A.cl⟩ we) C hbind tk hW hr2 (fun A1 outer s3 H3 hr3 => hbody A1 outer s3 H3 Ech F1 H1 hr3) rfl (Or.inl he2)) pa_nil)))).run pins2 s2 σ2 H2 D I2 ?_
      exact ⟨h1, h2, h4, h3⟩
    · have hrE : RoomH j ((cxOf (L2N.CX X.prog X.w) X.prog X.w X.K X.mg X.base ["call_so", "e"] x sg g cdv X.A X.stack s1 H1 (fun _ _ _ => False)).suite a ((a, oe) :: pn)).A := by
        have := (roomH_of hr2).mono (show j ≤ k + 1 by omega)
        exact ⟨this.dp, this.un⟩
      obtain ⟨vs, hvs⟩ := id hfd
      exact pe_err2 (Y := (cxOf (L2N.CX X.prog X.w) X.prog X.w X.K X.mg X.base ["call_so", "e"] x sg g cdv X.A X.stack s1 H1 (fun _ _ _ => False)).suite a ((a, oe) :: pn)) GE hrE ⟨rfl, vs, hvs, hz.2.2 vs hvs⟩ List.mem_cons_self ⟨hz.1, hz.2.1⟩ hfd he4 rfl (Or.inl he1) (by decide) (by decide) he5 rfl rfl
    · refine ⟨fun cls d H2 => ∃ (C : Addr) (cc n : Str) (F2 : Hp), cls = .ref C ∧ d = none ∧ A.cl cc = some C ∧ errN cc = some n ∧ Rl X.K ⟨F1, H1, none, A.B.T, 0⟩ F2 H2 [] [] ∧ ∀ F3 H3, Rl X.K ⟨F2, H2, none, A.B.T, 0⟩ F3 H3 [] [] → Q (.str n) H3, fun cls d σ2 H2 ⟨C, cc, n, F2, e1, e2, e3, e4, e5, e6⟩ => ⟨true, by rw [e1]; exact hex cc n C e3 e4, fun _ a _ => ⟨C, cc, n, F2, e1, e2, e3, e4, ⟨σ2, rfl⟩, e5.fh, e5.tbs, e5.tF, e6⟩, fun z => by cases z⟩, rfl, hF1, hC1, F1, e0, Rm, ?_⟩
      rw [hw]
      intro a F2 H2 σ2 e2 hc R2
      refine ⟨a, cc, nm, F2, rfl, rfl, hc, hn, R2.bare, fun F3 H3 R4 => ?_⟩
      obtain ⟨R5, s5⟩ := R1.call R2
      obtain ⟨R6, s6⟩ := R5.call R4
      exact hQ F3 H3 (s5.trans s6) R6
  refine wpAny_call (codeAny_mono rc fun r s2 hh => ?_)
  match r, hh with
  | .error e, ⟨_, _, _, _, _, _, _, _, _, _, _, _, z⟩ => exact z.elim
  | .ok (.ret u), hh => exact I1.after hh
  | .ok .next, hh => exact False.elim hh
  | .ok .brk, hh => exact False.elim hh
  | .ok .cont, hh => exact False.elim hh
end
end Ly
set_option maxHeartbeats 2000000
/-! Ly27: a def that gets closures; a base that knows cells. -/
namespace Ly
open PySem PySem.Spec PyProof.Rows L2 HotX L2H LamX
@[simp] theorem e_wCameV (tells : Addr → Option Str) (wa : WEx) (e : En) : wCameV tells wa e = (bnd (wa e) fun d e1 => match d with
  | .at (.ref f) => (match tells f with
    | some nm => some (.ok (.str nm) e1)
    | none => none)
  | _ => none) := rfl
section
variable {P : Program} {w : World} {K : PySem.W.Frag} {mg : Str → Option Value} {base : Heap}
/-- the promise of a def that gets closures: what they tell is known where it is called -/
def spC (P : Program) (w : World) (K : PySem.W.Frag) (mg : Str → Option Value) (base : Heap) (T : List (Addr × Str)) (cl : Str → Option Addr) (errN : Str → Option Str) (j : Nat) (tells : Addr → Option Str) (k : Nat) (f : Fn) : Sp := fun vs H Q E => vs.length = k ∧ ∃ F ds, Same F H ∧ Reps K F ds vs ∧ LamX.Tabs T H ∧ NoT F ∧ (∀ g nm, tells g = some nm → TellB P w K mg base T cl errN F H j g nm) ∧ FinF K ⟨F, H, none, T, 0⟩ E cl Q (f ds)
theorem fn_clo {x qual : Str} {params : Arguments} {body : List Stmt} {scope : Scope} {f : Addr} {fd : FuncData} {N ps : List Str} {k j : Nat} (n : Nat) (T : List (Addr × Str)) (cl : Str → Option Addr) (errN : Str → Option Str) (tells : Addr → Option Str) (ws : WSt)
    (F : FunD K x qual params body scope [] [] f fd) (S : FnScope N ps scope) (hn : N.length = n)
    (hbody : ∀ (cdv : Value) (A : Around) (outer : List Env) (s : Shared) (H : Hp) (E : XK) (Fz : Hp), (∀ g nm, tells g = some nm → TellB P w K mg base T cl errN Fz H j g nm) → Room k (A.deeper (envOfC qual scope s.heap.objs.size f cdv)) →
      PSs (cxOf (L2N.CX P w) P w K mg base N qual scope f cdv A outer s H E) body (TSx (K := K) ⟨⟨Fz, H, none, T, n⟩, E, cl⟩ ws)) :
    FnOk P w K mg base (L2N.CX P w) (k + 1) f fd ps (spC P w K mg base T cl errN j tells ps.length (semOf ps.length n ws)) := by
  refine F.ok S (fun vs H Q E h => h.1) fun cdv A outer s H vs Q E hr ⟨hl, Fz, ds, sm, r, tb, tF, hT, hq⟩ => ⟨_, hbody cdv A outer s H E Fz hT hr, ?_⟩
  have hds : ds.length = vs.length := r.len
  have hpl : ps.length ≤ N.length := by have := congrArg List.length S.pre; rw [List.length_take] at this; omega
  refine ⟨Fz, iniE n ds, Rl.ini sm r tb tF (by omega) (by rw [start_len (by omega), hn]) (fun i v => start_get), ?_⟩
  unfold semOf at hq
  rw [if_pos (by omega)] at hq
  revert hq
  cases hw : ws (iniE n ds) with
  | none => exact fun h => h
  | some o =>
    cases o with
    | nx e1 => exact fun h F' H' σ' _ R' => h F' H' _ R'.bare (rep_at.mpr rfl)
    | rt t e1 =>
      cases t with
      | v d => exact fun h F' H' σ' v _ R' r' _ => h F' H' v R'.bare r'
      | m xs =>
        exact fun h F' H' σ' v _ R' r' hb => by
          obtain ⟨F'', q1, q2⟩ := R'.out r' (hb trivial)
          exact h F'' H' v q1 q2
      | k kvs => exact fun h => h.elim
    | bk e1 => exact fun h => h.elim
    | ct e1 => exact fun h => h.elim
    | er c => exact fun h a F' H' σ' e' hc R' => h a F' H' hc R'.bare
end
/-! ### a base with some cells more -/
/-- the heap, seen only at some addresses -/
def only (h : Heap) (S : Addr → Bool) (life : Life) : Heap := ⟨h.objs.mapIdx fun i o => if S i then o else { o with data := .freed }, life⟩
theorem only_size (h : Heap) (S : Addr → Bool) (life : Life) : (only h S life).objs.size = h.objs.size := by
  unfold only
  simp
theorem only_get (h : Heap) (S : Addr → Bool) (life : Life) (a : Addr) : (only h S life).get? a = if S a then h.get? a else none := by
  unfold only Heap.get?
  simp only [Array.getElem?_mapIdx]
  cases ho : h.objs[a]? with
  | none => cases S a <;> rfl
  | some o =>
    cases hS : S a with
    | true => simp [hS]
    | false => simp [hS]
section
variable {P : Program} {w : World} {K : PySem.W.Frag} {mg : Str → Option Value} {base : Heap} {A : Around} {outer : List Env} {s : Shared} {H : Hp} {cells : Addr → Bool}
/-- the base, and some cells more -/
def baseC (base h : Heap) (cells : Addr → Bool) : Heap := only h (fun b => (base.get? b).isSome || cells b) base.life
theorem baseC_keep (k : ∀ b o, base.get? b = some o → s.heap.get? b = some o) : ∀ b o, base.get? b = some o → (baseC base s.heap cells).get? b = some o := fun b o e => by
  unfold baseC
  rw [only_get, if_pos (by rw [e]; rfl)]
  exact k b o e
theorem baseC_cell {c : Addr} {v : Option Value} (hc : cells c = true) (h : s.heap.IsCell c v) : (baseC base s.heap cells).IsCell c v := by
  obtain ⟨o, ho, hd⟩ := h
  refine ⟨o, ?_, hd⟩
  unfold baseC
  rw [only_get, if_pos (by rw [hc, Bool.or_true])]
  exact ho
theorem frames_baseC {h : Heap} : ∀ {l : List Env}, (∀ b ∈ frs l, cells b = false) → h.FunFrames base l → h.FunFrames (baseC base h cells) l
  | [], _, _ => trivial
  | env :: r, hf, ⟨a, ⟨L, o, b1, b2, b3, b4⟩, c⟩ => by
    have hm : ∀ b ∈ frs r, b ∈ frs (env :: r) := fun b hb => by
      unfold frs at hb ⊢
      rw [List.filterMap_cons]
      split
      · exact hb
      · exact List.mem_cons_of_mem _ hb
    refine ⟨a, ⟨L, o, b1, ?_, b3, b4⟩, frames_baseC (fun b hb => hf b (hm b hb)) c⟩
    unfold baseC
    have hL : cells L = false := hf L (by unfold frs; rw [List.filterMap_cons, b1]; exact List.mem_cons_self)
    rw [only_get, if_neg (by rw [b2, hL]; decide)]
theorem env0_re (e : Env0 P w K mg base A outer s H) (hc : ∀ b, cells b = true → H b = none) (hf : ∀ b ∈ frs outer, cells b = false) : Env0 P w K mg (baseC base s.heap cells) A outer s H := by
  have kp := baseC_keep (cells := cells) (s := s) fun b o h => (e.bs b o h).1
  refine ⟨e.frames, ⟨e.mod.kin.keeps kp, e.mod.glob.keeps kp, ?_, e.mod.nolimit.keeps kp⟩, fun b o h => ?_, ?_, frames_baseC hf e.funs, e.frf, e.hok, e.bare⟩
  · obtain ⟨mb, h1, h2⟩ := e.mod.blt
    exact ⟨mb, h1.keeps kp, h2⟩
  · unfold baseC at h
    rw [only_get] at h
    split at h
    · rename_i hS
      refine ⟨h, ?_⟩
      cases hb : base.get? b with
      | some o' => exact (e.bs b o' hb).2
      | none =>
        rw [hb] at hS
        exact hc b (by simpa using hS)
    · cases h
  · unfold baseC
    rw [only_size]
    exact Nat.le_refl _
end
end Ly
set_option maxHeartbeats 2000000
/-! Ly28: lists of lambdas: made, handed on, called. -/
namespace Ly
open PySem PySem.Spec PyProof.Rows L2 HotX L2H LamX
/-! ### slots -/
theorem st_st : ∀ (e : En) (i : Nat) (a b : Option Sl), st (st e i a) i b = st e i b
  | [], _, _, _ => rfl
  | _ :: _, 0, _, _ => rfl
  | x :: r, n + 1, a, b => by show x :: st (st r n a) n b = x :: st r n b; rw [st_st r n a b]
theorem st_gt : ∀ (e : En) (i : Nat) (s : Sl), gt e i = some s → st e i (some s) = e
  | [], _, _, h => by cases h
  | x :: r, 0, s, h => by
    have h : x = some s := h
    rw [h]; rfl
  | x :: r, n + 1, s, h => by show x :: st r n (some s) = x :: r; rw [st_gt r n s h]
theorem mask_forget : ∀ (e : En) (i : Nat), maskS (gt e i) = none → mask (st e i none) = mask e
  | [], _, _ => rfl
  | x :: r, 0, h => by
    show maskS none :: mask r = maskS x :: mask r
    rw [show maskS x = none from h]; rfl
  | x :: r, n + 1, h => by
    show maskS x :: mask (st r n none) = maskS x :: mask r
    rw [mask_forget r n h]
theorem Rl.forget {K : PySem.W.Frag} {B : Bs} {F H : Hp} {σ : St} {e : En} (R : Rl K B F H σ e) {i : Nat} (hi : i < e.length) (hp : B.S ≠ none → i ≠ 0) : Rl K B F H σ (st e i none) := by
  have hl : i < σ.length := by rw [R.len]; exact hi
  have := R.wipe1 hp hi (σ[i])
  rwa [List.set_getElem_self] at this
/-! ### one lambda -/
structure Lm where
  params : Arguments
  body : Expr
  scope : Scope
  we : WEx
/-- the closure of L, made in the frame X, stands at f -/
def Clo1 (X : Cx) (H : Hp) (L : Lm) (f : Addr) : Prop := ∃ c1, H f = some (CloO f (X.env.qual ++ "<lambda>") L.params L.body L.scope (cloFrom X.env.cells L.scope.names []) c1) ∧ H c1 = some (CodeO c1 (X.env.qual ++ "<lambda>"))
def KeepC (H H' : Hp) : Prop := ∀ b φ, H b = some (.ext φ) → H' b = some (.ext φ)
section
variable {H H1 H2 : Hp}
theorem KeepC.refl (H : Hp) : KeepC H H := fun _ _ h => h
theorem KeepC.trans (a : KeepC H H1) (b : KeepC H1 H2) : KeepC H H2 := fun c φ h => b c φ (a c φ h)
theorem KeepC.new {p : Addr} {o : HO} (h : H p = none) : KeepC H (upd H p o) := fun b φ e => by rw [upd_ne (ne_of_none e h)]; exact e
theorem KeepC.mut {p : Addr} {o u : HO} (h : H p = some u) (hu : ∀ φ, u ≠ .ext φ) : KeepC H (upd H p o) := fun b φ e => by
  rw [upd_ne fun z => ?_]
  · exact e
  · rw [z, h] at e; exact hu φ (Option.some.inj e)
theorem KeepC.ofT {T : List (Addr × Str)} (x : ExtT T H H1) (tb : Tabs T H) : KeepC H H1 := fun b φ e => x b _ e fun q hq => by
  obtain ⟨ps, h1, _⟩ := tb _ hq
  rw [show H b = some (.tbl ps) from h1] at e
  cases e
theorem Clo1.keep {X : Cx} {L : Lm} {f : Addr} (c : Clo1 X H L f) (k : KeepC H H1) : Clo1 X H1 L f := by
  obtain ⟨c1, a, b⟩ := c
  exact ⟨c1, k f _ a, k c1 _ b⟩
inductive All2 {α β : Type} (R : α → β → Prop) : List α → List β → Prop
  | nil : All2 R [] []
  | cons {a b l r} : R a b → All2 R l r → All2 R (a :: l) (b :: r)
theorem All2.imp {α β : Type} {R S : α → β → Prop} (k : ∀ a b, R a b → S a b) : ∀ {l r}, All2 R l r → All2 S l r
  | _, _, .nil => .nil
  | _, _, .cons a b => .cons (k _ _ a) (b.imp k)
theorem All2.snoc {α β : Type} {R : α → β → Prop} : ∀ {l : List α} {r : List β} {a b}, All2 R l r → R a b → All2 R (l ++ [a]) (r ++ [b])
  | _, _, _, _, .nil, h => .cons h .nil
  | _, _, _, _, .cons x y, h => .cons x (y.snoc h)
theorem All2.right {α β : Type} {R : α → β → Prop} : ∀ {l : List α} {r : List β} {b}, All2 R l r → b ∈ r → ∃ a ∈ l, R a b
  | _, _, _, .cons (a := a) x y, h => by
    rcases List.mem_cons.mp h with rfl | h
    · exact ⟨a, List.mem_cons_self, x⟩
    · obtain ⟨z, h1, h2⟩ := y.right h
      exact ⟨z, List.mem_cons_of_mem _ h1, h2⟩
theorem All2.len {α β : Type} {R : α → β → Prop} : ∀ {l : List α} {r : List β}, All2 R l r → l.length = r.length
  | _, _, .nil => rfl
  | _, _, .cons x y => by rw [List.length_cons, List.length_cons, y.len]
end
def refs (fs : List Addr) : List Dt := fs.map fun f => Dt.at (.ref f)
def tClo1 (X : Cx) (A : Ax X.K) (L : Lm) : TE := fun σ H Q => ∃ F e, Rl X.K A.B F H σ e ∧ ∀ H1 f, Rl X.K A.B F H1 σ e → KeepC H H1 → Clo1 X H1 L f → Q (.ref f) H1
/-- what is asked of a lambda: its names, its body's walk -/
structure OkL (X : Cx) (T : List (Addr × Str)) (cl : Str → Option Addr) (k : Nat) (L : Lm) : Prop where
  ls : LamS X.env.scope L.scope
  bind : ∀ (q : Str) (cs : List (Str × Addr)) (pm cv ctv : Value), bindArgs (PySem.W.kla_fn "<lambda>" q L.params L.body L.scope cs pm cv ctv) ⟨[], []⟩ = pure []
  body : ∀ (base : Heap) (cs : List (Str × Addr)) (A1 : Around) (outer : List Env) (s : Shared) (H : Hp) (E : XK) (f c1 : Addr) (Fz Hz : Hp), Room k (A1.deeper (envG (X.env.qual ++ "<lambda>") L.scope s.heap.objs.size f c1 cs)) →
    PE (lamG X.prog X.w X.K X.mg base (X.env.qual ++ "<lambda>") X.N A1 outer s H E L.scope f c1 cs) L.body (TEx (K := X.K) ⟨⟨Fz, Hz, none, T, X.N.length⟩, E, cl⟩ L.we)
open Classical in
noncomputable def cellsOf (X : Cx) (b : Addr) : Bool := decide (∃ y, X.env.cells.lookup y = some b)
theorem cellsOf_iff {X : Cx} {b : Addr} : cellsOf X b = true ↔ ∃ y, X.env.cells.lookup y = some b := by unfold cellsOf; simp
section
variable {X : Cx} {A : Ax X.K} {pins : List (Addr × Obj)} {σ : St} {H F : Hp} {s : Shared} {e : En} {i j k : Nat} {x y nm : Str} {L : Lm} {Ls : List Lm} {c P f : Addr} {params : Arguments} {body : Expr} {scope : Scope} {p p2 p3 p4 p5 pos pos' lp : Pos} {we : WEx} {errN : Str → Option Str}
theorem n_clo (TB : TabB X.base X.mg c P) (hcode : X.env.code = .ref c) (hmT : (P, X.env.qual ++ "<lambda>") ∈ A.B.T) (hu : ∀ p ∈ A.B.T, p.1 = P → p.2 = X.env.qual ++ "<lambda>")
    (LS : LamS X.env.scope scope) (hdef : defaultsOf params X.env = ([], [])) : PE X (.Lambda params body scope pos) (tClo1 X A ⟨params, body, scope, we⟩) :=
  ⟨fun pins s σ H Q I ⟨F, e, R, h⟩ => lam_makeU I TB hcode hmT hu R.tbs hdef (LS.has I.ok) fun f c1 H1 t I1 xT T1 hfn hf hfr hco => ⟨.ref f, H1, I1, rfl, h H1 f (R.extT xT T1) (KeepC.ofT xT R.tbs) ⟨c1, hf, hco⟩⟩⟩
theorem n_asClo (hf : Free A i) (hN : X.N.Nodup) (hx : X.N[i]? = some x) (hl : Loc X.env.scope x) (hc : PE X (.Lambda params body scope lp) (tClo1 X A L)) (hs : swapsWith (.List [.Lambda params body scope lp] p) (some (.Name x pos')) pos.line X.env = pure false := by rfl)
    (hff : X.fn x = true ∨ X.env.scope.names.lookup x = some .local := by first | exact .inl rfl | exact .inr rfl | assumption) :
    PS X (.Assign [.Name x pos'] (.List [.Lambda params body scope lp] p) pos) (fun D σ H => ∃ F e, Rl X.K A.B F H σ e ∧ ∀ H' σ' f, Rl X.K A.B F H' σ' (st e i (some (.m (refs [f])))) → KeepC H H' → Clo1 X H' L f → D.nx σ' H') :=
  ps_imp (ps_set hN hx hl (pe_lst (pa_cons hc pa_nil)) hs hff) fun D σ H ⟨F, e, R, h⟩ => ⟨F, e, R, fun H1 f R1 k1 c1 => ⟨(by decide : 1 ≤ sizeLine), fun q hq =>
    h _ _ f (R1.setO (by rw [R1.ln]; exact hf.1) hf.2 hq ⟨q, [.ref f], rfl, same_none R1.fh hq, upd_same, reps_cons.mpr ⟨.ref f, [], rfl, rep_at.mpr rfl, reps_nil.mpr rfl⟩, (by decide : 1 ≤ sizeLine), mn_new R1 hq⟩ trivial) (k1.trans (KeepC.new hq)) (c1.keep (KeepC.new hq))⟩⟩
def tApp1 (X : Cx) (A : Ax X.K) (i : Nat) (L : Lm) : TS := fun D σ H => ∃ F e fs, Rl X.K A.B F H σ e ∧ gt e i = some (.m (refs fs)) ∧ fs.length < sizeLine ∧ ∀ H' σ' f, Rl X.K A.B F H' σ' (st e i (some (.m (refs (fs ++ [f]))))) → KeepC H H' → Clo1 X H' L f → D.nx σ' H'
theorem n_appClo (hc : PE X (.Lambda params body scope lp) (tClo1 X A L)) (hN : X.N[i]? = some x := by rfl) (hv : Vis X.env.scope x := by first | exact Or.inl rfl | exact Or.inr (Or.inl rfl) | exact Or.inr (Or.inr rfl))
    (hbase : attributeBase (.Name x p) "append" X.env (eval (.Name x p) X.env) = eval (.Name x p) X.env := by rfl)
    (hfew : ((backTo pos' (starEach [.Lambda params body scope lp] X.env)).all (fun x => !x.1) && (backToKw pos' (keywordEach [] X.env)).all (fun x => x.1.isSome) && decide (([.Lambda params body scope lp] : List Expr).length + ([] : List Keyword).length + (if ([] : List Keyword).isEmpty then 0 else 1) < 30)) = true := by rfl)
    (hline : (p2.endLine == pos'.line) = true := by rfl) (hplain : (backTo pos' (starEach [] X.env)).any (·.1) = false := by rfl)
    (hsw : swapsWith (.Call (.Attribute (.Name x p) "append" p2) [.Lambda params body scope lp] [] pos') none pos.line X.env = pure false := by rfl)
    (hd : (x == ("__debug__" : Str)) = false := by decide) (hcd : (x == ("__classdict__" : Str)) = false := by decide) : PS X (.Expr (.Call (.Attribute (.Name x p) "append" p2) [.Lambda params body scope lp] [] pos') pos) (tApp1 X A i L) :=
  ps_imp (ps_expr (pe_bm PySem.F.plainAttrs_list PySem.F.slot_list_append PySem.F.type_list_append mt_append (pe_var hN hv hd hcd) (pa_cons hc pa_nil) hbase hfew hline rfl hplain) hsw) fun D σ H ⟨F, e, fs, R, hg, hz, h⟩ => by
    obtain ⟨q, us, g1, g2, g3, _⟩ := own_m R hg
    refine ⟨.ref q, g1, Or.inl ⟨rfl, us, SqL.of g3⟩, F, e, R, fun H1 f R1 k1 c1 => ?_⟩
    obtain ⟨q', vs, f1, f2, f3, f4, f5, f6⟩ := own_m R1 hg
    rw [g1] at f1; cases f1
    have hl : vs.length < sizeLine := by rw [← f4.len]; unfold refs; rw [List.length_map]; exact hz
    have km : KeepC H1 (upd H1 q (.lst (vs ++ [.ref f]))) := KeepC.mut f3 fun φ z => by cases z
    refine ⟨q, vs, .ref f, rfl, rfl, f3, hl, h _ σ f ?_ (k1.trans km) (c1.keep km)⟩
    have := mut_m R1 hg g1 f2 (f4.app (reps_cons.mpr ⟨.ref f, [], rfl, rep_at.mpr rfl, reps_nil.mpr rfl⟩)) (by rw [List.length_append]; exact hl) f6
    unfold refs
    rw [List.map_append]
    exact this
/-- what a closure tells, from the frame that made it -/
theorem tellB_of {B : Bs} {cl : Str → Option Addr} {cc : Str} (I : Inv X pins σ H s) (R : Rl X.K B F H σ e) (hC : Clo1 X H L f) (ok : OkL X B.T cl k L) (he : L.we (mask e) = some (.er cc)) (hn : errN cc = some nm) (base : Heap) :
    TellB X.prog X.w X.K X.mg (baseC base s.heap (cellsOf X)) B.T cl errN F H k f nm := by
  obtain ⟨c1, hf, hco⟩ := hC
  have cm : ∀ {y c}, (cloFrom X.env.cells L.scope.names []).lookup y = some c → (y, NameKind.free) ∈ L.scope.names ∧ X.env.cells.lookup y = some c := fun {y c} h => by
    rcases cloFrom_mem (PySem.mem_of_lookup h) with hm | ⟨h1, h2⟩
    · cases hm
    · refine ⟨h1, ?_⟩
      obtain ⟨c2, hc⟩ := ok.ls.has I.ok _ h1 rfl
      have hc : X.env.cells.lookup y = some c2 := hc
      rw [hc] at h2 ⊢
      rw [h2]; rfl
  have nT : ∀ {b : Addr} {φ : Heap → Prop}, H b = some (.ext φ) → ∀ z, (b, z) ∉ B.T := fun {b φ} hb z hz => by
    obtain ⟨ps, h1⟩ := R.tab hz
    rw [show H b = some (.tbl ps) from h1] at hb
    cases hb
  refine ⟨_, L.params, L.body, L.scope, cloFrom X.env.cells L.scope.names [], c1, X.N, σ, mask e, L.we, cc, hf, hco, nT hf, nT hco, ⟨ok.ls.kind, ok.ls.co, ok.ls.gen, ok.ls.own, fun y hy hk => ?_, fun a b c h1 h2 => I.ok.inj a b c (cm h1).2 (cm h2).2⟩, fun y c h => ?_, fun i y v c h1 h2 h3 => ?_, I.len, ?_, fun i sl hi => ?_, ok.bind _ _, fun A1 outer s1 H1 E Fz Hz => ok.body _ _ A1 outer s1 H1 E f c1 Fz Hz, he, hn⟩
  · obtain ⟨y1, y2⟩ := y
    have hk : y2 = .free := hk
    subst hk
    exact L2.mem_lookup (cloFrom_has (cells := X.env.cells) (acc := []) hy)
  · obtain ⟨v, hv⟩ := I.cell y c (cm h).2
    exact ⟨v, baseC_cell (cellsOf_iff.mpr ⟨y, (cm h).2⟩) hv⟩
  · obtain ⟨m, _, hl⟩ := I.loc
    obtain ⟨hy, hcy⟩ := cm h3
    have hv : Vis X.env.scope y := (ok.ls.free _ hy rfl).elim (fun k => .inr (.inl k)) fun k => .inr (.inr k)
    obtain ⟨u, r, q⟩ := hl i y v h1 h2 hv
    refine ⟨u, r, baseC_cell (cellsOf_iff.mpr ⟨y, hcy⟩) ?_⟩
    rcases q with ⟨kl, _⟩ | ⟨_, c3, e3, z⟩
    · have kl : X.env.scope.names.lookup y = some .local := kl
      rcases ok.ls.free _ hy rfl with k2 | k2 <;> rw [show X.env.scope.names.lookup y = _ from k2] at kl <;> cases kl
    · rw [hcy] at e3
      cases e3
      exact z
  · rw [mask_len, ← R.len]; exact I.len
  · rw [gt_mask] at hi
    obtain ⟨d, rfl, hd⟩ := maskS_inv hi
    obtain ⟨v, h1, h2⟩ := R.sl i _ hd
    exact ⟨d, v, rfl, h1, h2⟩
end
end Ly
set_option maxHeartbeats 2000000
/-! Ly29: a def that calls all of a list of lambdas. -/
namespace Ly
open PySem PySem.Spec PyProof.Rows L2 HotX L2H LamX
/-- the def that gets a list of closures and a word: whether each call ends with the error of this name -/
structure GAll (P : Program) (w : World) (K : PySem.W.Frag) (mg : Str → Option Value) (T : List (Addr × Str)) (cl : Str → Option Addr) (errN : Str → Option Str) (j k : Nat) (x : Str) : Prop where
  ex : ∃ (fa : Addr) (fd : FuncData) (n1 n2 : Str) (sA : (Addr → Option Str) → Fn), (∀ (base : Heap) (tells : Addr → Option Str), FnOk P w K mg base (L2N.CX P w) j fa fd [n1, n2] (spC P w K mg base T cl errN k tells 2 (sA tells))) ∧
    mg x = some (.ref fa) ∧ PySem.W.keepIn K (.ref fa) = true ∧ Binds K fd [n1, n2] [] ∧ ∀ (tells : Addr → Option Str) (fs : List Addr) (nm : Str), (∀ f ∈ fs, tells f = some nm) → sA tells [.lst (refs fs), .str nm] = some (.ok (.bl true))
def saysB (errN : Str → Option Str) (nm : Str) (r : Option (Rt Dt)) : Bool := match r with
  | some (.er cc) => decide (errN cc = some nm)
  | _ => false
theorem saysB_ok {errN : Str → Option Str} {nm : Str} {r : Option (Rt Dt)} (h : saysB errN nm r = true) : ∃ cc, r = some (.er cc) ∧ errN cc = some nm := by
  unfold saysB at h
  split at h
  · exact ⟨_, rfl, of_decide_eq_true h⟩
  · cases h
section
variable {X : Cx} {pins : List (Addr × Obj)} {σ : St} {H F : Hp} {s : Shared}
theorem cells_out (I : Inv X pins σ H s) (hfn : ∀ y, X.fn y = true) : ∀ y c, X.env.cells.lookup y = some c → c ∉ X.env.locals :: X.fs := fun y c e hm => by
  rcases List.mem_cons.mp hm with z | z
  · exact I.cne y c e z
  · obtain ⟨_, o, ho, _⟩ := I.ok.funs.mem z
    exact absurd (Nat.lt_of_lt_of_le (Heap.lt_size ho) (I.ok.cab y c (hfn y) e)) (Nat.lt_irrefl _)
open Classical in
noncomputable def tellsOf (fs : List Addr) (nm : Str) (f : Addr) : Option Str := if f ∈ fs then some nm else none
theorem call_all {T : List (Addr × Str)} {cl : Str → Option Addr} {errN : Str → Option Str} {j k : Nat} {fa p : Addr} {fd : FuncData} {n1 n2 nm : Str} {sA : (Addr → Option Str) → Fn} {us : List Value} {fs : List Addr} {Q : VK} {cells : Addr → Bool}
    (FA : ∀ (base : Heap) (tells : Addr → Option Str), FnOk X.prog X.w X.K X.mg base (L2N.CX X.prog X.w) j fa fd [n1, n2] (spC X.prog X.w X.K X.mg base T cl errN k tells 2 (sA tells))) (hb : Binds X.K fd [n1, n2] [])
    (hA : ∀ (tells : Addr → Option Str) (fs : List Addr) (nm : Str), (∀ f ∈ fs, tells f = some nm) → sA tells [.lst (refs fs), .str nm] = some (.ok (.bl true))) (hr : Room j X.A)
    (I : Inv X pins σ H s) (hc1 : ∀ b, cells b = true → H b = none) (hc2 : ∀ b ∈ frs X.stack, cells b = false) (hT : ∀ f ∈ fs, TellB X.prog X.w X.K X.mg (baseC X.base s.heap cells) T cl errN F H k f nm)
    (sm : Same F H) (tb : Tabs T H) (tF : NoT F) (rep : Rep X.K F (.lst (refs fs)) (.ref p)) (r : Vals [V.ref p, V.str nm] us) (hQ : ∀ F' H', Rl X.K ⟨F, H, none, T, 0⟩ F' H' [] [] → Q (.bl true) H') :
    wpAny (model X.prog X.w) X.A (call (.ref fa) us) (EP X pins σ Q) X.xe s := by
  have hlen : us.length = 2 := by rw [← r.length]; rfl
  have bi := hb s us I.kIn (by rw [List.append_nil, hlen]; rfl)
  rw [List.append_nil] at bi
  refine wpAny_call (codeAny_mono ((FA (baseC X.base s.heap cells) (tellsOf fs nm)).run X.A X.stack s H ⟨us, []⟩ us [V.ref p, V.str nm] Q (fun _ _ _ => False) hr (env0_re I.env0 hc1 hc2) bi r
    ⟨rfl, F, [.lst (refs fs), .str nm], sm, reps_cons.mpr ⟨_, _, rfl, rep, reps_cons.mpr ⟨_, _, rfl, rep_at.mpr rfl, reps_nil.mpr rfl⟩⟩, tb, tF, fun g n hg => ?_, ?_⟩) fun r s2 hh => ?_)
  · unfold tellsOf at hg
    split at hg
    · rename_i hm
      cases hg
      exact hT g hm
    · cases hg
  · rw [hA _ fs nm fun f hf => by unfold tellsOf; rw [if_pos hf]]
    intro F' H' v R' rv
    rw [rep_at] at rv
    subst rv
    exact hQ F' H' R'
  · match r, hh with
    | .error e, ⟨_, _, _, _, _, _, _, _, _, _, _, _, z⟩ => exact z.elim
    | .ok (.ret u), hh => exact I.after hh
    | .ok .next, hh => exact False.elim hh
    | .ok .brk, hh => exact False.elim hh
    | .ok .cont, hh => exact False.elim hh
end
section
variable {X : Cx} {A : Ax X.K} {pins : List (Addr × Obj)} {σ : St} {H F : Hp} {s : Shared} {e : En} {i j k jl : Nat} {x y nm : Str} {L : Lm} {Ls : List Lm} {c P f : Addr} {params : Arguments} {body : Expr} {scope : Scope} {p p2 p3 p4 p5 pos pos' lp : Pos} {we : WEx} {errN : Str → Option Str}
/-- each of the lambdas ends with the error of this name -/
def Says (errN : Str → Option Str) (nm : Str) (Ls : List Lm) (e : En) : Prop := ∀ L ∈ Ls, ∃ cc, L.we e = some (.er cc) ∧ errN cc = some nm
/-- f(y, 'w'), y a list of lambdas of one's own -/
theorem n_allS (G : GAll X.prog X.w X.K X.mg A.B.T A.cl errN j k x) (hr : Room j X.A) (hg : Gl X x) (hf : Free A i) (hfn : ∀ z, X.fn z = true) (hN : X.N[i]? = some y := by rfl) (hv : Vis X.env.scope y := by first | exact Or.inl rfl | exact Or.inr (Or.inl rfl) | exact Or.inr (Or.inr rfl))
    (hd : (y == ("__debug__" : Str)) = false := by decide) (hcd : (y == ("__classdict__" : Str)) = false := by decide) (hdb : (x == ("__debug__" : Str)) = false := by decide) :
    PE X (.Call (.Name x p) [.Name y p2, .Constant (.str nm) jl p3] [] pos) (fun σ H Q => ∃ F e fs Ls, Rl X.K A.B F H σ e ∧ gt e i = some (.m (refs fs)) ∧ All2 (Clo1 X H) Ls fs ∧ (∀ L ∈ Ls, OkL X A.B.T A.cl k L) ∧ Says errN nm Ls (mask e) ∧
      ∀ F' H', Same F F' → Rl X.K A.B F' H' σ (st e i none) → Q (.bl true) H') := by
  obtain ⟨fa, fd, n1, n2, sA, FA, hm, hkp, hb, hA⟩ := G.ex
  refine ⟨fun pins s σ H Q I ⟨F, e, fs, Ls, R, hi, hc, hL, hS, h⟩ => ?_⟩
  obtain ⟨q, us, g1, g2, g3, g4, g5, g6⟩ := own_m R hi
  refine wpAny_Call_Name_kw (ld_glob I hg hm ?_ hdb)
  refine PySem.W.callWith_K (h₀ := X.base) I.ok.mod.kin hkp (thn ((pa_cons (pe_var hN hv hd hcd) (pa_cons pe_str pa_nil)).run pos pins s σ H (fun vs H1 => vs = [.ref q, .str nm] ∧ H1 = H) I ⟨.ref q, g1, rfl, rfl⟩) fun us1 s1 ⟨vs, H1, I1, r, ev, eH⟩ => ⟨I1.kIn, ?_⟩) (by rfl) (by rfl)
  subst ev eH
  have sF : Same F (upd F q (.lst us)) := same_new g2
  have rd : Rep X.K (upd F q (.lst us)) (.lst (refs fs)) (.ref q) := rep_lst.mpr ⟨q, us, rfl, upd_same, g4.mono sF, g5⟩
  have R1 := (R.freeze hi trivial hf.2 g1 g3 rd).1
  have R2 := R1.forget (i := i) (by rw [R1.ln]; exact hf.1) hf.2
  rw [st_st] at R2
  have em : mask (st e i none) = mask e := mask_forget e i (by rw [hi]; rfl)
  refine call_all (F := upd F q (.lst us)) (cells := cellsOf X) FA hb hA hr I1 (fun b hb => ?_) (fun b hb => ?_) (fun f hf2 => ?_) R2.fh R2.tbs R2.tF rd r fun F' H' R' => ?_
  · obtain ⟨z, hz⟩ := cellsOf_iff.mp hb
    exact I1.freeC z b hz
  · cases hz : cellsOf X b with
    | false => rfl
    | true =>
      obtain ⟨z, hz⟩ := cellsOf_iff.mp hz
      exact absurd (I1.stkSub b hb) (cells_out I1 hfn z b hz)
  · obtain ⟨L, hl, hcl⟩ := hc.right hf2
    obtain ⟨cc, h1, h2⟩ := hS L hl
    exact tellB_of I1 R2 hcl (hL L hl) (by rw [em]; exact h1) h2 X.base
  · obtain ⟨a, b⟩ := R2.call R'
    exact h F' H' (sF.trans b) a
/-- .. behind it: if not f(y, 'w'): .. -/
def tRest (X : Cx) (A : Ax X.K) (errN : Str → Option Str) (k i : Nat) (nm : Str) (Ls : List Lm) : TS := fun D σ H => ∃ F e fs0 Ls0, Rl X.K A.B F H σ e ∧ gt e i = some (.m (refs fs0)) ∧ All2 (Clo1 X H) Ls0 fs0 ∧ (∀ L ∈ Ls0, OkL X A.B.T A.cl k L) ∧ Says errN nm Ls0 (mask e) ∧ Says errN nm Ls (mask e) ∧ fs0.length + Ls.length ≤ sizeLine ∧
  ∀ F' H' σ', Same F F' → Rl X.K A.B F' H' σ' (st e i none) → D.nx σ' H'
theorem blk_end {ss : List Stmt} {p6 p7 : Pos} (G : GAll X.prog X.w X.K X.mg A.B.T A.cl errN j k x) (hr : Room j X.A) (hg : Gl X x) (hf : Free A i) (hfn : ∀ z, X.fn z = true) (hN : X.N[i]? = some y := by rfl) (hv : Vis X.env.scope y := by first | exact Or.inl rfl | exact Or.inr (Or.inl rfl) | exact Or.inr (Or.inr rfl))
    (hd : (y == ("__debug__" : Str)) = false := by decide) (hcd : (y == ("__classdict__" : Str)) = false := by decide) (hdb : (x == ("__debug__" : Str)) = false := by decide) :
    PSs X [.If (.UnaryOp .Not (.Call (.Name x p) [.Name y p2, .Constant (.str nm) jl p3] [] pos) p6) ss [] p7] (tRest X A errN k i nm []) :=
  pss_imp (pss_one (ps_if (pt_not (pt_val (n_allS G hr hg hf hfn hN hv hd hcd hdb))) pss_never pss_nil)) fun D σ H ⟨F, e, fs, Ls, R, hi, hc, hL, hS, _, _, h⟩ => ⟨F, e, fs, Ls, R, hi, hc, hL, hS, fun F' H' s R' => ⟨true, rfl, by
    show (if (!true) = true then tNever D σ H' else tNext D σ H')
    rw [if_neg (by decide)]
    exact h F' H' σ s R'⟩⟩
theorem blk_app {rest : List Stmt} (hs : PS X (.Expr (.Call (.Attribute (.Name y p) "append" p2) [.Lambda params body scope lp] [] pos') pos) (tApp1 X A i ⟨params, body, scope, we⟩)) (ok : OkL X A.B.T A.cl k ⟨params, body, scope, we⟩) (h : PSs X rest (tRest X A errN k i nm Ls)) :
    PSs X (.Expr (.Call (.Attribute (.Name y p) "append" p2) [.Lambda params body scope lp] [] pos') pos :: rest) (tRest X A errN k i nm (⟨params, body, scope, we⟩ :: Ls)) :=
  pss_imp (pss_cons hs h) fun D σ H ⟨F, e, fs, Ls0, R, hi, hc, hL, hS, hS2, hz, h⟩ => by
    refine ⟨F, e, fs, R, hi, by rw [List.length_cons] at hz; omega, fun H' σ' f R' k1 c1 => ?_⟩
    have hl : i < e.length := gt_lt e i _ hi
    refine ⟨F, _, fs ++ [f], Ls0 ++ [⟨params, body, scope, we⟩], R', gt_st_same _ _ _ hl, (hc.imp fun a b c => c.keep k1).snoc c1, fun L hl => ?_, fun L hl => ?_, fun L hl => ?_, by rw [List.length_append, List.length_singleton]; rw [List.length_cons] at hz; omega, fun F2 H2 σ2 s2 R2 => h F2 H2 σ2 s2 ?_⟩
    · rcases List.mem_append.mp hl with q | q
      · exact hL L q
      · rw [List.mem_singleton.mp q]; exact ok
    · rw [show mask (st e i (some (.m (refs (fs ++ [f]))))) = mask e from ?_]
      · rcases List.mem_append.mp hl with q | q
        · exact hS L q
        · exact hS2 L (by rw [List.mem_singleton.mp q]; exact List.mem_cons_self)
      · rw [← mask_forget (st e i _) i (by rw [gt_st_same _ _ _ ‹_›]; rfl), st_st]
        exact mask_forget e i (by rw [hi]; rfl)
    · rw [show mask (st e i (some (.m (refs (fs ++ [f]))))) = mask e from ?_]
      · exact hS2 L (List.mem_cons_of_mem _ hl)
      · rw [← mask_forget (st e i _) i (by rw [gt_st_same _ _ _ ‹_›]; rfl), st_st]
        exact mask_forget e i (by rw [hi]; rfl)
    · rw [st_st] at R2; exact R2
/-- some = [lambda: ..]; some.append(lambda: ..); if not f(some, 'w'): .. -/
def wBlk (errN : Str → Option Str) (i : Nat) (nm : Str) (ws : List WEx) : WSt := fun e => if ((maskS (gt e i)).isNone && ws.all fun w => saysB errN nm (w (mask e))) = true then some (.nx (st e i none)) else none
theorem n_blk {rest : List Stmt} {ws : List WEx} (hs : PS X (.Assign [.Name y pos'] (.List [.Lambda params body scope lp] p) pos) (fun D σ H => ∃ F e, Rl X.K A.B F H σ e ∧ ∀ H' σ' f, Rl X.K A.B F H' σ' (st e i (some (.m (refs [f])))) → KeepC H H' → Clo1 X H' ⟨params, body, scope, we⟩ f → D.nx σ' H')) (hf : Free A i)
    (ok : OkL X A.B.T A.cl k ⟨params, body, scope, we⟩) (h : PSs X rest (tRest X A errN k i nm Ls)) (hws : Ls.map Lm.we = ws := by rfl) (hz : 1 + Ls.length ≤ sizeLine := by decide) : PSs X (.Assign [.Name y pos'] (.List [.Lambda params body scope lp] p) pos :: rest) (TSx A (wBlk errN i nm (we :: ws))) :=
  pss_imp (pss_cons hs h) fun D σ H ⟨F, e, R, h⟩ => by
    subst hws
    unfold wBlk at h
    split at h
    · rename_i hw
      rw [Bool.and_eq_true, List.all_eq_true] at hw
      obtain ⟨hm, hw⟩ := hw
      have hm := Option.isNone_iff_eq_none.mp hm
      have hw := fun w h => saysB_ok (hw w h)
      have hi : i < e.length := by rw [R.ln]; exact hf.1
      refine ⟨F, e, R, fun H' σ' f R' k1 c1 => ?_⟩
      have em : mask (st e i (some (.m (refs [f])))) = mask e := by
        rw [← mask_forget (st e i _) i (by rw [gt_st_same _ _ _ hi]; rfl), st_st]
        exact mask_forget e i hm
      refine ⟨F, _, [f], [⟨params, body, scope, we⟩], R', gt_st_same _ _ _ hi, .cons c1 .nil, fun L hl => by rw [List.mem_singleton.mp hl]; exact ok, fun L hl => ?_, fun L hl => ?_, hz, fun F2 H2 σ2 s2 R2 => h F2 H2 σ2 s2 (by rw [st_st] at R2; exact R2)⟩
      · rw [em, List.mem_singleton.mp hl]
        exact hw _ List.mem_cons_self
      · rw [em]
        exact hw _ (List.mem_cons_of_mem _ (List.mem_map_of_mem hl))
    · exact h.elim
end
end Ly
set_option maxHeartbeats 2000000
/-! Ly30: a def that gives a list of lambdas; f(g(a), 'w'). -/
namespace Ly
open PySem PySem.Spec PyProof.Rows L2 HotX L2H LamX
/-- a call's end, told of the state behind it -/
def CRt (CX : CXT) (outer : List Env) (P : Program) (w : World) (H : Hp) (s : Shared) (Q : V → Hp → Shared → Prop) (E : XK) (r : Result) (s' : Shared) : Prop :=
  match r with
  | .ok (.ret u) => CE outer P w H s (fun v H' => Q v H' s') u s'
  | .ok _ => False
  | .error e => CX outer H s E e s'
/-- a body's end by return, told of the frame -/
def RetS (X : Cx) (pins : List (Addr × Obj)) (Q : V → Hp → Shared → Prop) (fl : Flow) (s' : Shared) : Prop :=
  match fl with
  | .ret u => ∃ v σ' H', Inv X pins σ' H' s' ∧ RelV v u ∧ Q v H' s'
  | _ => False
theorem run_pre {CX : CXT} {P : Program} {w : World} {K : PySem.W.Frag} {mg : Str → Option Value} {base : Heap} {k : Nat} {f : Addr} {nm qual : Str} {params : Arguments} {body : List Stmt} {scope : Scope} {dV kV doc pm cdv ct oc : Value} {an od : Option Addr}
    {osl : Array (Option Value)} {N ps : List Str} {A : Around} {outer : List Env} {s : Shared} {H : Hp} {args : Args} {us : List Value} {vs : List V} {Q : V → Hp → Shared → Prop} {E : XK}
    (lk : K.lookup f = some ⟨oc, od, .func (PySem.W.fnOf nm qual params body scope dV kV doc pm an cdv ct), osl⟩) (hcd : PySem.W.codeIn K cdv qual = true) (S : FnScope N ps scope) (hr : Room (k + 1) A) (e0 : Env0 P w K mg base A outer s H)
    (hb : BindsTo s (PySem.W.fnOf nm qual params body scope dV kV doc pm an cdv ct) args (ps.zip us)) (r : Vals vs us) (hl : vs.length = ps.length)
    (hbody : Room k (A.deeper (envOfC qual scope s.heap.objs.size f cdv)) → ∀ s1, Inv (cxOf CX P w K mg base N qual scope f cdv A outer s H E) [] (L2.start N vs) H s1 →
      wpAny (model P w) (A.deeper (envOfC qual scope s.heap.objs.size f cdv)) (execs body (envOfC qual scope s.heap.objs.size f cdv)) (RetS (cxOf CX P w K mg base N qual scope f cdv A outer s H E) [] Q) (cxOf CX P w K mg base N qual scope f cdv A outer s H E).xe s1) :
    codeAny (model P w) A (.call (.ref f) args) (CRt CX outer P w H s Q E) s := by
  have kin : K.In s.heap := e0.mod.kin.keeps fun b o q => (e0.bs b o q).1
  have nol : s.heap.NoLimit := e0.mod.nolimit.keeps fun b o q => (e0.bs b o q).1
  have kinds : ∀ z ∈ ps.zip us, scope.names.lookup z.1 = some .local ∨ (scope.names.lookup z.1 = some .cell ∧ ((cellsFrom (s.heap.objs.size + 1) scope.names []).lookup z.1).isSome = true) := fun z hz =>
    (S.par z.1 (List.of_mem_zip hz).1).imp id fun q => ⟨q, PySem.W.cellsFrom_some _ _ _ (.inl q)⟩
  refine codeAny_call_function hr.depth (kin _ _ lk) rfl S.co S.gen rfl (PySem.W.codeRec_of kin hcd) (hb _ _ _ _ (wpAny_newFunctionEnv_cells S.kind kinds fun env he s1 x => ?_))
  subst he
  refine ⟨nol.keeps x.toInCall.keep, codeAny_func ?_⟩
  refine wpAny_mono (hbody (hr.deeper _) s1 (inv_start S hr.hd e0 hl r x)) (fun fl t ht => ?_) fun e t ht => ht
  cases fl with
  | ret u =>
    obtain ⟨v, σ', H', J, rv, q⟩ := ht
    exact ⟨v, H', J.os, J.bare, J.base, J.hok, rv, q⟩
  | next => exact False.elim ht
  | brk => exact False.elim ht
  | cont => exact False.elim ht
section
variable {X : Cx} {A : Ax X.K} {i j k jl : Nat} {x y nm : Str} {L : Lm} {Ls : List Lm} {params : Arguments} {body : Expr} {scope : Scope} {p p2 p3 p4 p5 pos pos' lp : Pos} {we : WEx} {errN : Str → Option Str}
/-- what is told where a list of lambdas is returned -/
def TellR (X : Cx) (A : Ax X.K) (i : Nat) (pins : List (Addr × Obj)) (F : Hp) (e : En) (Ls : List Lm) (Q : V → Hp → Shared → Prop) : Prop :=
  ∀ s1 σ1 H1 fs q, Inv X pins σ1 H1 s1 → Rl X.K A.B F H1 σ1 (st e i (some (.m (refs fs)))) → All2 (Clo1 X H1) Ls fs → σ1[i]? = some (some (.ref q)) → Q (.ref q) H1 s1
structure CloR (X : Cx) (A : Ax X.K) (k i : Nat) (sts : List Stmt) (Ls : List Lm) : Prop where
  ok : ∀ L ∈ Ls, OkL X A.B.T A.cl k L
  run : ∀ (pins : List (Addr × Obj)) (s : Shared) (σ : St) (H F : Hp) (e : En) (fs0 : List Addr) (Ls0 : List Lm) (Q : V → Hp → Shared → Prop), Inv X pins σ H s → Rl X.K A.B F H σ e → gt e i = some (.m (refs fs0)) → All2 (Clo1 X H) Ls0 fs0 → fs0.length + Ls.length ≤ sizeLine →
    TellR X A i pins F e (Ls0 ++ Ls) Q → wpAny (model X.prog X.w) X.A (execs sts X.env) (RetS X pins Q) X.xe s
theorem clo_ret (hN : X.N[i]? = some y := by rfl) (hv : Vis X.env.scope y := by first | exact Or.inl rfl | exact Or.inr (Or.inl rfl) | exact Or.inr (Or.inr rfl))
    (hd : (y == ("__debug__" : Str)) = false := by decide) (hcd : (y == ("__classdict__" : Str)) = false := by decide) : CloR X A k i [.Return (some (.Name y p)) pos] [] where
  ok := fun L h => (nomatch h)
  run := fun pins s σ H F e fs0 Ls0 Q I R hi hc hz h => by
    obtain ⟨q, us, g1, _⟩ := own_m R hi
    refine wpAny_execs_cons (wpAny_Return_some (thn ((pe_var hN hv hd hcd).run pins s σ H (fun v H1 => v = .ref q ∧ H1 = H) I ⟨.ref q, g1, rfl, rfl⟩) fun u s1 ⟨v, H1, I1, r, ev, eH⟩ => ?_))
    subst ev eH
    rw [List.append_nil] at h
    exact ⟨.ref q, σ, H1, I1, r, h s1 σ H1 fs0 q I1 (by rw [st_gt e i _ hi]; exact R) hc g1⟩
theorem clo_app {rest : List Stmt} (hs : PS X (.Expr (.Call (.Attribute (.Name y p) "append" p2) [.Lambda params body scope lp] [] pos') pos) (tApp1 X A i ⟨params, body, scope, we⟩)) (ok : OkL X A.B.T A.cl k ⟨params, body, scope, we⟩) (h : CloR X A k i rest Ls) :
    CloR X A k i (.Expr (.Call (.Attribute (.Name y p) "append" p2) [.Lambda params body scope lp] [] pos') pos :: rest) (⟨params, body, scope, we⟩ :: Ls) where
  ok := fun L hl => (List.mem_cons.mp hl).elim (fun z => z ▸ ok) (h.ok L)
  run := fun pins s σ H F e fs0 Ls0 Q I R hi hc hz hq => by
    have hl : i < e.length := gt_lt e i _ hi
    refine wpAny_execs_cons (thn (hs.run pins s σ H { nx := fun σ' H' => ∃ f, Rl X.K A.B F H' σ' (st e i (some (.m (refs (fs0 ++ [f]))))) ∧ KeepC H H' ∧ Clo1 X H' ⟨params, body, scope, we⟩ f, rt := fun _ _ => False } I ⟨F, e, fs0, R, hi, by rw [List.length_cons] at hz; omega, fun H' σ' f a b c => ⟨f, a, b, c⟩⟩) fun fl s1 q => ?_)
    cases fl with
    | next =>
      obtain ⟨σ1, H1, I1, f, R1, k1, c1⟩ := q
      refine h.run pins s1 σ1 H1 F _ (fs0 ++ [f]) (Ls0 ++ [⟨params, body, scope, we⟩]) Q I1 R1 (gt_st_same _ _ _ hl) ((hc.imp fun a b c => c.keep k1).snoc c1) (by rw [List.length_append, List.length_singleton]; rw [List.length_cons] at hz; omega) fun s2 σ2 H2 fs q I2 R2 c2 hq2 => ?_
      rw [st_st] at R2
      rw [List.append_assoc] at c2
      exact hq s2 σ2 H2 fs q I2 R2 c2 hq2
    | ret u =>
      obtain ⟨_, _, _, _, _, z⟩ := q
      exact z.elim
    | brk =>
      obtain ⟨_, _, _, z⟩ := q
      exact z.elim
    | cont =>
      obtain ⟨_, _, _, z⟩ := q
      exact z.elim
/-- a def's body that gives a list of lambdas -/
structure CloB (X : Cx) (A : Ax X.K) (k i : Nat) (sts : List Stmt) (Ls : List Lm) : Prop where
  ok : ∀ L ∈ Ls, OkL X A.B.T A.cl k L
  run : ∀ (pins : List (Addr × Obj)) (s : Shared) (σ : St) (H F : Hp) (e : En) (Q : V → Hp → Shared → Prop), Inv X pins σ H s → Rl X.K A.B F H σ e → TellR X A i pins F e Ls Q → wpAny (model X.prog X.w) X.A (execs sts X.env) (RetS X pins Q) X.xe s
theorem clo_as {rest : List Stmt} (hs : PS X (.Assign [.Name y pos'] (.List [.Lambda params body scope lp] p) pos) (fun D σ H => ∃ F e, Rl X.K A.B F H σ e ∧ ∀ H' σ' f, Rl X.K A.B F H' σ' (st e i (some (.m (refs [f])))) → KeepC H H' → Clo1 X H' ⟨params, body, scope, we⟩ f → D.nx σ' H')) (hf : Free A i)
    (ok : OkL X A.B.T A.cl k ⟨params, body, scope, we⟩) (h : CloR X A k i rest Ls) (hz : 1 + Ls.length ≤ sizeLine := by decide) : CloB X A k i (.Assign [.Name y pos'] (.List [.Lambda params body scope lp] p) pos :: rest) (⟨params, body, scope, we⟩ :: Ls) where
  ok := fun L hl => (List.mem_cons.mp hl).elim (fun z => z ▸ ok) (h.ok L)
  run := fun pins s σ H F e Q I R hq => by
    have hl : i < e.length := by rw [R.ln]; exact hf.1
    refine wpAny_execs_cons (thn (hs.run pins s σ H { nx := fun σ' H' => ∃ f, Rl X.K A.B F H' σ' (st e i (some (.m (refs [f])))) ∧ Clo1 X H' ⟨params, body, scope, we⟩ f, rt := fun _ _ => False } I ⟨F, e, R, fun H' σ' f a b c => ⟨f, a, c⟩⟩) fun fl s1 q => ?_)
    cases fl with
    | next =>
      obtain ⟨σ1, H1, I1, f, R1, c1⟩ := q
      refine h.run pins s1 σ1 H1 F _ [f] [⟨params, body, scope, we⟩] Q I1 R1 (gt_st_same _ _ _ hl) (.cons c1 .nil) hz fun s2 σ2 H2 fs q I2 R2 c2 hq2 => ?_
      rw [st_st] at R2
      exact hq s2 σ2 H2 fs q I2 R2 c2 hq2
    | ret u =>
      obtain ⟨_, _, _, _, _, z⟩ := q
      exact z.elim
    | brk =>
      obtain ⟨_, _, _, z⟩ := q
      exact z.elim
    | cont =>
      obtain ⟨_, _, _, z⟩ := q
      exact z.elim
end
/-- the def at x, of one parameter, gives a list of lambdas -/
structure GClo (P : Program) (w : World) (K : PySem.W.Frag) (mg : Str → Option Value) (base : Heap) (T : List (Addr × Str)) (cl : Str → Option Addr) (j k : Nat) (x : Str) (Ls : List Lm) : Prop where
  ex : ∃ (fa : Addr) (fd : FuncData) (pa : Arguments) (bo : List Stmt) (sg : Scope) (n1 n2 : Str) (c0 : Value), FunD K x x pa bo sg [] [] fa fd ∧ FnScope [n1, n2] [n1] sg ∧ mg x = some (.ref fa) ∧ Binds K fd [n1] [] ∧ fd.code = c0 ∧
    ∀ (A : Around) (outer : List Env) (s : Shared) (H : Hp) (Fz : Hp), Room j (A.deeper (envOfC x sg s.heap.objs.size fa c0)) →
      CloB (cxOf (L2N.CX P w) P w K mg base [n1, n2] x sg fa c0 A outer s H (fun _ _ _ => False)) ⟨⟨Fz, H, none, T, 2⟩, fun _ _ _ => False, cl⟩ k 1 bo Ls
def wAllC (errN : Str → Option Str) (nm : Str) (ws : List WEx) (wa : WEx) : WEx := fun e => bnd (wa e) fun d e1 => if (ws.all fun w => saysB errN nm (w [some (.v d), none])) = true then some (.ok (.bl true) e1) else none
section
variable {X : Cx} {A : Ax X.K} {j jc k jl : Nat} {x xc nm : Str} {Ls : List Lm} {a : Expr} {wa : WEx} {p p2 p3 p4 p5 pos : Pos} {errN : Str → Option Str}
theorem n_allC {ws : List WEx} (hws : Ls.map Lm.we = ws) (G : GAll X.prog X.w X.K X.mg A.B.T A.cl errN j k x) (GC : GClo X.prog X.w X.K X.mg X.base A.B.T A.cl jc k xc Ls) (hr : Room j X.A) (hrc : Room (jc + 1) X.A) (hg : Gl X x) (hgc : Gl X xc) (ha : PE X a (TEx A wa))
    (hdb : (x == ("__debug__" : Str)) = false := by decide) (hdc : (xc == ("__debug__" : Str)) = false := by decide) (he : starEach [a] X.env = (false, eval a X.env) :: starEach [] X.env := by rfl) :
    PE X (.Call (.Name x p) [.Call (.Name xc p2) [a] [] p4, .Constant (.str nm) jl p3] [] pos) (TEx A (wAllC errN nm ws wa)) := by
  subst hws
  obtain ⟨fa, fd, n1, n2, sA, FA, hm, hkp, hb, hA⟩ := G.ex
  obtain ⟨fc, fdc, pa, bo, sg, m1, m2, c0, FD, Sg, hmc, hbc, hc0, hbody⟩ := GC.ex
  obtain ⟨oc, od, dV, kV, doc, pm0, an, cdv, ct, osl, efd, lk, hcd, _, _⟩ := FD.ex
  have ec : c0 = cdv := by rw [← hc0, efd]
  subst ec
  refine ⟨fun pins s σ H Q I ⟨F, e, R, h⟩ => ?_⟩
  refine wpAny_Call_Name_kw (ld_glob I hg hm ?_ hdb)
  refine PySem.W.callWith_K (h₀ := X.base) I.ok.mod.kin hkp ?_ (by rfl) (by rfl)
  show wpAny _ _ (spliced ((false, eval (.Call (.Name xc p2) [a] [] p4) X.env) :: backTo pos (starEach [.Constant (.str nm) jl p3] X.env))) _ _ s
  refine Calls.spliced_cons (wpAny_Call_Name_kw (ld_glob I hgc hmc ?_ hdc))
  refine PySem.W.callWith_K (h₀ := X.base) I.ok.mod.kin FD.kp (thn ((n_cons ha n_nil he).run p4 pins s σ H (fun vs H1 => ∃ F1 d e1 v, vs = [v] ∧ Rep X.K F1 d v ∧ Rl X.K A.B F1 H1 σ e1 ∧ (∀ w ∈ Ls.map Lm.we, ∃ cc, w [some (.v d), none] = some (.er cc) ∧ errN cc = some nm) ∧ ∀ F2 H2, Same F1 F2 → Rl X.K A.B F2 H2 σ e1 → Q (.bl true) H2) I ⟨F, e, R, ?_⟩) fun us s1 ⟨vs0, H1, I1, r, F1, d, e1, v, ev, rd, R1, hw, hQ⟩ => ⟨I1.kIn, ?_⟩) he (by rfl)
  · unfold wAllC at h
    show FinG A (Reps X.K) σ F _ (bnd (wa e) fun d e1 => bnd (wNil e1) fun ds e2 => some (.ok (d :: ds) e2))
    revert h
    cases hwa : wa e with
    | none => exact fun h => h
    | some r =>
      cases r with
      | er c => exact fun h => h
      | ok d e1 =>
        intro h F2 H2 vs sF R2 r2
        simp only [bnd_ok] at h
        obtain ⟨v, r', rfl, q1, q2⟩ := reps_cons.mp r2
        obtain rfl := reps_nil.mp q2
        split at h
        · rename_i hw
          rw [List.all_eq_true] at hw
          have hw := fun w h => saysB_ok (hw w h)
          exact ⟨F2, d, _, v, rfl, q1, R2, hw, fun F3 H3 s3 R3 => h F3 H3 (.bl true) (sF.trans s3) R3 (rep_at.mpr rfl)⟩
        · exact h.elim
  subst ev
  obtain ⟨u, rfl, ru⟩ := vals1 r
  rw [efd] at lk
  have bi := hbc s1 [u] I1.kIn rfl
  rw [efd] at bi
  have rc : codeAny (model X.prog X.w) X.A (.call (.ref fc) ⟨[u], []⟩) (CRt (L2N.CX X.prog X.w) X.stack X.prog X.w H1 s1 (fun v2 H2 s2 => ∃ fs F2 q, v2 = .ref q ∧ Rl X.K ⟨F1, H1, none, A.B.T, 0⟩ F2 H2 [] [] ∧ Rep X.K F2 (.lst (refs fs)) (.ref q) ∧
      (∀ f ∈ fs, TellB X.prog X.w X.K X.mg (baseC X.base s2.heap (cellsOf (cxOf (L2N.CX X.prog X.w) X.prog X.w X.K X.mg X.base [m1, m2] xc sg fc c0 X.A X.stack s1 H1 (fun _ _ _ => False)))) A.B.T A.cl errN F2 H2 k f nm) ∧
      ∀ y c, (cxOf (L2N.CX X.prog X.w) X.prog X.w X.K X.mg X.base [m1, m2] xc sg fc c0 X.A X.stack s1 H1 (fun _ _ _ => False)).env.cells.lookup y = some c → H2 c = none ∧ c ∉ frs X.stack) (fun _ _ _ => False)) s1 := by
    refine run_pre (N := [m1, m2]) (ps := [m1]) (us := [u]) (vs := [v]) lk hcd Sg hrc I1.env0 bi (.cons ru .nil) rfl fun hr2 s2 I2 => ?_
    have B := hbody X.A X.stack s1 H1 F1 hr2
    have Rm : Rl X.K ⟨F1, H1, none, A.B.T, 2⟩ F1 H1 (L2.start [m1, m2] [v]) (iniE 2 [d]) := Rl.ini R1.fh (reps_cons.mpr ⟨v, [], rfl, rd, reps_nil.mpr rfl⟩) R1.tbs R1.tF (by show 1 ≤ 2; decide) rfl fun i v h => start_get h
    refine B.run [] s2 _ H1 F1 (iniE 2 [d]) _ I2 Rm fun s3 σ3 H3 fs q I3 R3 c3 hq => ?_
    obtain ⟨q', us3, g1, g2, g3, g4, g5, g6⟩ := own_m (A := ⟨⟨F1, H1, none, A.B.T, 2⟩, fun _ _ _ => False, A.cl⟩) (i := 1) R3 (xs := refs fs) rfl
    rw [hq] at g1; cases g1
    have bq : H1 q = none := by
      rcases g6 with m | m
      · cases m
      · exact m
    have sF : Same F1 (upd F1 q (.lst us3)) := same_new g2
    have rq : Rep X.K (upd F1 q (.lst us3)) (.lst (refs fs)) (.ref q) := rep_lst.mpr ⟨q, us3, rfl, upd_same, g4.mono sF, g5⟩
    have R4 := (R3.freeze (i := 1) (s := .m (refs fs)) (d := .lst (refs fs)) rfl trivial (fun _ => by decide) hq g3 rq).1
    have R5 := R3.forget (i := 1) (by show 1 < 2; decide) (fun _ => by decide)
    refine ⟨fs, _, q, rfl, R4.bare, rq, fun f hf => ?_, fun y c hy => ⟨I3.freeC y c hy, fun hm => cells_out I3 (fun _ => rfl) y c hy (List.mem_cons_of_mem _ hm)⟩⟩
    obtain ⟨L, hl, hcl⟩ := c3.right hf
    obtain ⟨cc, h1, h2⟩ := hw L.we (List.mem_map_of_mem hl)
    exact (tellB_of (e := [some (.v d), none]) I3 R5 hcl (B.ok L hl) h1 h2 X.base).mono sF
  refine wpAny_call (codeAny_mono rc fun r s2 hh => ?_)
  match r, hh with
  | .error e, ⟨_, _, _, _, _, _, _, _, _, _, _, _, z⟩ => exact z.elim
  | .ok .next, hh => exact False.elim hh
  | .ok .brk, hh => exact False.elim hh
  | .ok .cont, hh => exact False.elim hh
  | .ok (.ret u2), hh =>
    obtain ⟨v2, H2, I2, rv, fs, F2, q, ev, R2, rq, hT, hcs⟩ := I1.after hh
    subst ev
    show wpAny _ _ (spliced [(false, eval (.Constant (.str nm) jl p3) X.env)]) _ _ s2
    refine Calls.spliced_cons (Calls.Constant_str (Calls.spliced_nil ⟨I2.kIn, ?_⟩))
    have I3 := I2.tok (s2.toks + 1)
    obtain ⟨R3, s3⟩ := R1.call R2
    refine call_all (F := F2) FA hb hA hr I3 (fun b hb => ?_) (fun b hb => ?_) hT R2.fh R2.tbs R2.tF rq (.cons rv (.cons ⟨_, rfl⟩ .nil)) fun F' H' R' => ?_
    · obtain ⟨z, hz⟩ := cellsOf_iff.mp hb
      exact (hcs z b hz).1
    · cases hz : cellsOf (cxOf (L2N.CX X.prog X.w) X.prog X.w X.K X.mg X.base [m1, m2] xc sg fc c0 X.A X.stack s1 H1 (fun _ _ _ => False)) b with
      | false => rfl
      | true =>
        obtain ⟨z, hz⟩ := cellsOf_iff.mp hz
        exact absurd hb (hcs z b hz).2
    · obtain ⟨a, b⟩ := R3.call R'
      exact hQ F' H' (s3.trans b) a
end
@[simp] theorem e_wAllC (errN : Str → Option Str) (nm : Str) (ws : List WEx) (wa : WEx) (e : En) : wAllC errN nm ws wa e = (bnd (wa e) fun d e1 => if (ws.all fun w => saysB errN nm (w [some (.v d), none])) = true then some (.ok (.bl true) e1) else none) := rfl
@[simp] theorem e_wBlk (errN : Str → Option Str) (i : Nat) (nm : Str) (ws : List WEx) (e : En) : wBlk errN i nm ws e = if ((maskS (gt e i)).isNone && ws.all fun w => saysB errN nm (w (mask e))) = true then some (.nx (st e i none)) else none := rfl
end Ly
set_option maxHeartbeats 2000000
/-! Ly31: C(..), whose __init__ ends with an error. -/
namespace Ly
open PySem PySem.Spec PyProof.Rows L2 HotX L2H LamX
theorem passG2 {P : Program} {w : World} {K : PySem.W.Frag} {mg : Str → Option Value} {base : Heap} {q : Str} {N : List Str} {A : Around} {outer : List Env} {s : Shared} {H : Hp} {E : XK} {scope : Scope} {f c1 : Addr} {cl : List (Str × Addr)} :
    Passes (L2N.CX P w) (lamG P w K mg base q N A outer s H E scope f c1 cl) E := L2N.passes_call (X := lamG P w K mg base q N A outer s H E scope f c1 cl) (L2N.takes_of rfl rfl rfl rfl) fun _ _ _ _ h => h
/-- the i-th statement of a class -/
def meth (s : Stmt) (i : Nat) : Stmt := match s with
  | .ClassDef _ _ _ body _ _ _ _ _ _ _ => body.getD i (.Pass ⟨0, 0, 0, 0⟩)
  | s => s
theorem Rl.newH {K : PySem.W.Frag} {B : Bs} {F H : Hp} {σ : St} {e : En} (R : Rl K B F H σ e) {p : Addr} {o : HO} (h : H p = none) : Rl K B F (upd H p o) σ e := by
  have fp := same_none R.fh h
  refine ⟨same_mut R.fh fp, R.f0, fun b x h1 h2 h3 => same_new h _ _ (R.h0 b x h1 h2 h3), fun b x hb => ?_, R.nf, R.tbs.ext (same_new h), R.tF, R.len, R.ln, fun i s hi => ?_, R.own, R.pin, R.pin0⟩
  · obtain ⟨o', ho⟩ := R.th b x hb
    exact ⟨o', same_new h _ _ ho⟩
  · obtain ⟨v, q1, q2⟩ := R.sl i s hi
    refine ⟨v, q1, q2.mono (Same.refl F) fun q hq ho => ?_⟩
    subst hq
    obtain ⟨z1, ⟨ob, z2, _⟩, _⟩ := q2.at ho
    exact ⟨z1, upd_ne (ne_of_none z2 h)⟩
/-- what __init__ says, where it ends with an error -/
def erF (f : Fn) : Fn := fun ds => match f ds with
  | some (.er c) => some (.er c)
  | _ => none
def wMk (f : Fn) (ws : WAx) : WEx := fun e => bnd (ws e) fun ds e1 => if ds.length ≤ sizeLine then (match f ds with
  | some (.er c) => some (.er c)
  | _ => none) else none
section
variable {P : Program} {w : World} {K : PySem.W.Frag} {mg : Str → Option Value} {base : Heap}
theorem cxUpN : StX.CXUp (L2N.CX P w) := by
  rintro outer s H s2 H2 E e s3 un kp ho ⟨a, B, H3, cls, d, ea, fl, hok, ub, na, os, ag, he⟩
  refine ⟨a, B, H3, cls, d, ea, fl, hok, ⟨?_, ?_, ?_, ?_, ?_, ?_, ?_⟩, na, os.trans ho, ag, he⟩
  · exact fun b o q n hb => ub.keep b o (kp b o q) (un.free b o q n (by simp)) hb
  · exact fun b o q hb => ub.slot b o (kp b o q) hb
  · exact fun b o q n => ub.free b o (kp b o q) (un.free b o q n (by simp))
  · exact fun b o q hb => ub.there b o (kp b o q) hb
  · exact fun b xs q => ub.tups b xs (un.tups b xs q)
  · exact fun b o xs q => ub.frzs b o xs (un.frzs b o xs q)
  · intro b ps q
    obtain ⟨m1, e1⟩ := un.tbls b ps q
    obtain ⟨m2, e2⟩ := ub.tbls b _ e1
    exact ⟨m1 ++ m2, by rw [e2, Array.append_assoc]⟩
/-- a class of the module, made by n arguments; f: its __init__'s errors -/
structure GMk (P : Program) (w : World) (K : PySem.W.Frag) (mg : Str → Option Value) (base : Heap) (T : List (Addr × Str)) (cl : Str → Option Addr) (j : Nat) (x : Str) (n : Nat) (f : Fn) : Prop where
  ex : ∃ (C fi : Addr) (fd : FuncData) (ps : List Str) (sI : Fn), Mk K C fi ∧ FnOk P w K mg base (L2N.CX P w) j fi fd ps (spP K T cl (n + 1) sI) ∧ mg x = some (.ref C) ∧ Binds K fd ps [] ∧ ∀ (a : Addr) (ds : List Dt) (c : Str), f ds = some (.er c) → sI (.at (.ref a) :: ds) = some (.er c)
/-- .. by any number -/
structure GMkS (P : Program) (w : World) (K : PySem.W.Frag) (mg : Str → Option Value) (base : Heap) (T : List (Addr × Str)) (cl : Str → Option Addr) (j : Nat) (x : Str) (f : Fn) : Prop where
  ex : ∃ (C fi : Addr) (sI : Fn), Mk K C fi ∧ FnR P w K mg base (L2N.CX P w) j fi (fun vs H Q E => ∃ ws rest, vs = ws ++ rest ∧ ws.length = 1 ∧ rest.length ≤ sizeLine ∧ ∀ p, H p = none → spP K T cl 2 sI (ws ++ [V.ref p]) (upd H p (.tup rest)) Q E) ∧
    mg x = some (.ref C) ∧ ∀ (a : Addr) (ds : List Dt) (c : Str), f ds = some (.er c) → sI [.at (.ref a), .tup ds] = some (.er c)
/-- def __init__(self, *v): .. -/
theorem fn_starP {qual pv : Str} {params : Arguments} {body : List Stmt} {scope : Scope} {f : Addr} {fd : FuncData} {N ps : List Str} {k : Nat} {x : Str} (n : Nat) (T : List (Addr × Str)) (cl : Str → Option Addr) (ws : WSt)
    (F : FunD K x qual params body scope [] [] f fd) (S : FnScope N (ps ++ [pv]) scope) (hn : N.length = n)
    (hb : ∀ (kV doc pm : Value) (an : Option Addr) (cdv ct : Value) (us rest : List Value), us.length = ps.length → bindArgs (PySem.W.fnOf x qual params body scope .none kV doc pm an cdv ct) ⟨us ++ rest, []⟩ = (newTuple rest >>= fun t => pure (ps.zip us ++ [(pv, t)])))
    (hbody : ∀ (cdv : Value) (A : Around) (outer : List Env) (s : Shared) (H : Hp) (E : XK) (Fz : Hp), Room k (A.deeper (envOfC qual scope s.heap.objs.size f cdv)) →
      PSs (cxOf (L2N.CX P w) P w K mg base N qual scope f cdv A outer s H E) body (TSx (K := K) ⟨⟨Fz, H, none, T, n⟩, E, cl⟩ ws)) :
    FnR P w K mg base (L2N.CX P w) (k + 1) f (fun vs H Q E => ∃ ws2 rest, vs = ws2 ++ rest ∧ ws2.length = ps.length ∧ rest.length ≤ sizeLine ∧ ∀ p, H p = none → spP K T cl (ps.length + 1) (semOf (ps.length + 1) n ws) (ws2 ++ [V.ref p]) (upd H p (.tup rest)) Q E) := by
  obtain ⟨oc, od, dV, kV, doc, pm, an, cdv, ct, osl, rfl, lk, hcd, hD, _⟩ := F.ex
  rcases hD with ⟨_, rfl⟩ | ⟨e, _⟩
  · refine StX.fn_star lk hcd S cxUpN (fun us rest h => hb kV doc pm an cdv ct us rest h) fun A outer s H vs Q E hr ⟨hl, Fz, ds, sm, r, tb, tF, hq⟩ => ⟨_, hbody cdv A outer s H E Fz hr, ?_⟩
    have hds : ds.length = vs.length := r.len
    have hpl : (ps ++ [pv]).length ≤ N.length := by have := congrArg List.length S.pre; rw [List.length_take] at this; omega
    rw [List.length_append, List.length_singleton] at hpl
    refine ⟨Fz, iniE n ds, Rl.ini sm r tb tF (by omega) (by rw [start_len (by omega), hn]) (fun i v => start_get), ?_⟩
    unfold semOf at hq
    rw [if_pos (by omega)] at hq
    revert hq
    cases hw : ws (iniE n ds) with
    | none => exact fun h => h
    | some o =>
      cases o with
      | nx e1 => exact fun h F' H' σ' _ R' => h F' H' _ R'.bare (rep_at.mpr rfl)
      | rt t e1 =>
        cases t with
        | v d => exact fun h F' H' σ' v _ R' r' _ => h F' H' v R'.bare r'
        | m xs =>
          exact fun h F' H' σ' v _ R' r' hb => by
            obtain ⟨F'', q1, q2⟩ := R'.out r' (hb trivial)
            exact h F'' H' v q1 q2
        | k kvs => exact fun h => h.elim
      | bk e1 => exact fun h => h.elim
      | ct e1 => exact fun h => h.elim
      | er c => exact fun h a F' H' σ' e' hc R' => h a F' H' hc R'.bare
  · exact absurd rfl e
end
section
variable {X : Cx} {A : Ax X.K} {a : Expr} {es : List Expr} {ws : WAx} {pos p : Pos} {x : Str} {j n : Nat} {f : Fn}
/-- C(a, ..) -/
theorem n_mk (G : GMk X.prog X.w X.K X.mg X.base A.B.T A.cl j x n f) (hr : Room (j + 1) X.A) (hx : Passes (L2N.CX X.prog X.w) X A.E) (hg : Gl X x) (ha : PA X (a :: es) (TAx A ws)) (hk : ∀ e ds e1, ws e = some (.ok ds e1) → ds.length = n)
    (hdb : (x == ("__debug__" : Str)) = false := by decide) (he : starEach (a :: es) X.env = (false, eval a X.env) :: starEach es X.env := by rfl) (hpl : (backTo pos (starEach es X.env)).any (·.1) = false := by rfl) :
    PE X (.Call (.Name x p) (a :: es) [] pos) (TEx A (wMk f ws)) := by
  obtain ⟨C, fi, fd, ps, sI, M, F, hm, hb, hs⟩ := G.ex
  refine pe_imp (pe_make M F hr hg hm hb .nil hx ha hdb he hpl) fun σ H Q ⟨F0, e, R, h⟩ => ⟨F0, e, R, (FinG.bindE (R := Reps X.K) h).imp fun vs H1 ⟨F1, ds, e1, hw, s1, R1, r1, h1⟩ o dx ho hd hne => ?_⟩
  rw [List.append_nil]
  have R2 := R1.newH (o := .own o) hd
  have R3 := R2.newH (p := o) (o := .ins C dx []) (by rw [upd_ne fun z => hne z.symm]; exact ho)
  refine ⟨by rw [List.length_cons, ← r1.len, hk e ds e1 hw], F1, .at (.ref o) :: ds, R3.fh, reps_cons.mpr ⟨.ref o, vs, rfl, rep_at.mpr rfl, r1⟩, R3.tbs, R3.tF, ?_⟩
  split at h1
  · split at h1
    · rename_i c hf
      rw [hs o ds c hf]
      exact fun ad F' H' hc R' => h1 ad F' H' σ e1 hc (R3.call R').1
    · exact h1.elim
  · exact h1.elim
theorem n_mkS (G : GMkS X.prog X.w X.K X.mg X.base A.B.T A.cl j x f) (hr : Room (j + 1) X.A) (hx : Passes (L2N.CX X.prog X.w) X A.E) (hg : Gl X x) (ha : PA X (a :: es) (TAx A ws))
    (hdb : (x == ("__debug__" : Str)) = false := by decide) (he : starEach (a :: es) X.env = (false, eval a X.env) :: starEach es X.env := by rfl) (hpl : (backTo pos (starEach es X.env)).any (·.1) = false := by rfl) :
    PE X (.Call (.Name x p) (a :: es) [] pos) (TEx A (wMk f ws)) := by
  obtain ⟨C, fi, sI, M, F, hm, hs⟩ := G.ex
  refine pe_imp (StX.pe_makeR M F hr hg hm hx ha hdb he hpl) fun σ H Q ⟨F0, e, R, h⟩ => ⟨F0, e, R, (FinG.bindE (R := Reps X.K) h).imp fun vs H1 ⟨F1, ds, e1, hw, s1, R1, r1, h1⟩ o dx ho hd hne => ?_⟩
  have R2 := R1.newH (o := .own o) hd
  have R3 := R2.newH (p := o) (o := .ins C dx []) (by rw [upd_ne fun z => hne z.symm]; exact ho)
  split at h1
  · rename_i hz
    rw [r1.len] at hz
    refine ⟨[.ref o], vs, rfl, rfl, hz, fun t ht => ?_⟩
    have R4 := R3.new (p := t) (o := .tup vs) ht
    have rt : Rep X.K (upd F1 t (.tup vs)) (.tup ds) (.ref t) := rep_tup.mpr ⟨t, vs, rfl, .inl (.inl upd_same), Reps.mono (same_new (same_none R3.fh ht)) _ _ r1, hz⟩
    refine ⟨rfl, _, [.at (.ref o), .tup ds], R4.fh, reps_cons.mpr ⟨.ref o, _, rfl, rep_at.mpr rfl, reps_cons.mpr ⟨.ref t, _, rfl, rt, reps_nil.mpr rfl⟩⟩, R4.tbs, R4.tF, ?_⟩
    split at h1
    · rename_i c hf
      rw [hs o ds c hf]
      exact fun ad F' H' hc R' => h1 ad F' H' σ e1 hc (R4.call R').1
    · exact h1.elim
  · exact h1.elim
@[simp] theorem e_wMk (f : Fn) (ws : WAx) (e : En) : wMk f ws e = (bnd (ws e) fun ds e1 => if ds.length ≤ sizeLine then (match f ds with
  | some (.er c) => some (.er c)
  | _ => none) else none) := rfl
end
theorem semOf_len {k n : Nat} {w : WSt} {ds : List Dt} {r : FR} (h : semOf k n w ds = some r) : ds.length = k := by
  unfold semOf at h
  split at h
  · assumption
  · cases h
theorem mk_er {f : Fn} {a : Addr} {ds : List Dt} {c : Str} (h : f ds = some (.er c)) (hl : ds.length = 1) : semOf 2 2 (wSeq (wDo (wCall f (wCons (wV 1) wNil))) wNo) (.at (.ref a) :: ds) = some (.er c) := by
  match ds, hl with
  | [d], _ => simp [semOf, iniE, h]
end Ly
set_option maxHeartbeats 2000000
/-! Ly32: a look at the head by chosen addresses; the head's equation in parts. -/
namespace Ly
open PySem PySem.Spec PyProof.Rows L2
/-- the addresses: the defs and their code, the classes and what they name, the methods' code -/
def asY (fns cls : List Str) (ms : List He.Defn) (g : Addr → Option Obj) : List Addr :=
  let K1 := He.frT g [mainGlobals]
  let fs := fns.map (He.ga K1)
  let K2 := He.frT g (mainGlobals :: fs)
  let es := He.growD g (He.growD g (cls.map (He.ga K1)))
  let K3 := He.frT g (mainGlobals :: es)
  mainGlobals :: (fs ++ ((fns.map fun x => He.codeOf K2 (x, none)) ++ (es ++ ms.map (He.codeOf K3))))
def obsY (fns cls : List Str) (ms : List He.Defn) (fa : List He.Fa) (fn : List He.DefD) (tf : List He.Defn) (ex : PySem.W.Frag → Bool) (g : Addr → Option Obj) : He.AlX :=
  (He.obsT fa fn [] (He.frT g (asY fns cls ms g)), ex (He.frT g (asY fns cls ms g)) && He.tabsB g tf (He.frT g (asY fns cls ms g)))
theorem saysY {as : List Addr} {fa : List He.Fa} {fn : List He.DefD} {tf : List He.Defn} {ex : PySem.W.Frag → Bool} {w : World} {h : Heap} (e : (He.obsT fa fn [] (He.frT h.get? as), ex (He.frT h.get? as) && He.tabsB h.get? tf (He.frT h.get? as)) = He.valX fn [] w) :
    He.SaysX fa fn [] tf ex w h (He.frT h.get? as) := by
  have e2 := congrArg Prod.snd e
  rw [show (He.valX fn [] w).2 = true from rfl, Bool.and_eq_true] at e2
  obtain ⟨h1, h2⟩ := e2
  have one := fun p hp => Bool.and_eq_true_iff.mp (List.all_eq_true.mp (show (tf.all _) = true from h2) p hp)
  have tab : ∀ p ∈ tf, ∃ o, h.get? (He.cT (He.frT h.get? as) p).2 = some o ∧ He.emptyTab o = true := fun p hp => by
    have := (one p hp).2
    cases q : h.get? (He.cT (He.frT h.get? as) p).2 with
    | none => rw [q] at this; cases this
    | some o => rw [q] at this; exact ⟨o, rfl, this⟩
  refine ⟨congrArg Prod.fst e, h1, fun p hp => (one p hp).1, fun p hp => ?_, fun p hp => ?_⟩
  · obtain ⟨o, q, z⟩ := tab p hp
    exact He.frT_none q z
  · obtain ⟨o, q, z⟩ := tab p hp
    rw [q, He.emptyTab_eq z]
def hookY (fns cls : List Str) (ms : List He.Defn) (fa : List He.Fa) (fn : List He.DefD) (tf : List He.Defn) (ex : PySem.W.Frag → Bool) : PySem.W.Hook where
  α := He.AlX
  obs := fun s => obsY fns cls ms fa fn tf ex s.heap.get?
  val := fun w => He.valX fn [] w
  says := fun w h => ∃ K : PySem.W.Frag, K.In h ∧ He.SaysX fa fn [] tf ex w h K
  of := fun _ _ e => ⟨_, He.frT_in, saysY e⟩
  keeps := fun _ _ _ ⟨K, a, b⟩ k => ⟨K, PySem.W.Frag.In.keeps a k, b.t, b.more, b.hd, b.out, fun p hp => k _ _ (b.empty p hp)⟩
theorem obsY_eq {fns cls : List Str} {ms : List He.Defn} {fa : List He.Fa} {fn : List He.DefD} {tf : List He.Defn} {ex : PySem.W.Frag → Bool} {g : Addr → Option Obj} {s : Shared} (h : ∀ a, g a = s.heap.get? a) :
    obsY fns cls ms fa fn tf ex g = (hookY fns cls ms fa fn tf ex).obs s := by
  obtain rfl : g = s.heap.get? := funext h
  rfl
theorem run3 {α β γ δ : Type} {E : Option α} {f : α → β} {g : α → γ} {h : α → δ} {a : β} {b : γ} {c : δ} (h1 : E.map f = some a) (h2 : E.map g = some b) (h3 : E.map h = some c) : E.map (fun s => (f s, g s, h s)) = some (a, b, c) := by
  cases E with
  | none => cases h1
  | some s =>
    have e1 := Option.some.inj h1
    have e2 := Option.some.inj h2
    have e3 := Option.some.inj h3
    show some (f s, g s, h s) = some (a, b, c)
    rw [e1, e2, e3]
/-- the run's equation, in parts -/
noncomputable abbrev EndE (r : PySem.W.OpenRow) (M : Nat) (w : World) (os : OsState) : Option PySem.W.SharedT := HandSHeadRun.endF (HandSHeadRun.stepQ (HandSHeadRun.denQ HandSHeadRun.tabQ) r.prog w) M r.prog w os
def RunA (r : PySem.W.OpenRow) (M : Nat) (w : World) : Prop := ∀ os : OsState, (EndE r M w os).map (fun s => HandSHeadRun.looksF r.prog (PySem.W.boot_heap w.params) s.abs) = some true
def RunB (r : PySem.W.OpenRow) (q : Program) (M : Nat) (loose : List Str) (w : World) : Prop := ∀ os : OsState, (EndE r M w os).map (fun s => HandSHeadRun.seenQ q loose (PySem.importedModules r.prog.main.body) (fun s => PySem.W.xlAt q [] s && PySem.W.recOk r.toRowW.records s) s.abs) = some (PySem.W.openGood q loose)
def RunC (r : PySem.W.OpenRow) (H : PySem.W.Hook) (ob : PySem.W.SharedT → H.α) (M : Nat) (w : World) : Prop := ∀ os : OsState, (EndE r M w os).map (fun s => ob s) = some (H.val w)
theorem runEq_of {r : PySem.W.OpenRow} {q : Program} {H : PySem.W.Hook} {ob : PySem.W.SharedT → H.α} {M : Nat} {loose : List Str} {w : World} (h1 : RunA r M w) (h2 : RunB r q M loose w) (h3 : RunC r H ob M w) : HandSHeadRun.RunEq r q H ob M loose w :=
  fun os => run3 (h1 os) (h2 os) (h3 os)
end Ly
set_option maxHeartbeats 1000000
/-! what the program's functions and the laws' common ones compute; printed by gen.py -/
namespace Pg
open PySem PySem.Spec PyProof.Rows L2 Ly LamX
def w_is_within : WSt := wRet (wAnd (wB fIsi (wCons (wV 0) (wCons (wC (.ty "int")) (wNil)))) (wAnd (wNot (wB fIsi (wCons (wV 0) (wCons (wC (.ty "bool")) (wNil))))) (wCh (wV 1) (wV 0) (wV 2))))
def s_is_within : Fn := semOf 3 3 w_is_within
def w_is_wide : WSt := wRet (wAnd (wB fIsi (wCons (wV 0) (wCons (wC (.ty "tuple")) (wNil)))) (wCh (wV 1) (wB fLen (wCons (wV 0) (wNil))) (wV 2)))
def s_is_wide : Fn := semOf 3 3 w_is_wide
def we_is_walker_1 : WEx := wCall (s_is_within) (wCons (wV 1) (wCons (wU fNeg (wC (.int 3))) (wCons (wC (.int 3)) (wNil))))
def w_is_walker : WSt := wSeq (wIf (wTor (wTnot (wT (wCall (s_is_wide) (wCons (wV 0) (wCons (wC (.int 3)) (wCons (wC (.int 3)) (wNil))))))) (wTor (wTnot (wT (wCall (s_is_within) (wCons (wO fIx (wV 0) (wC (.int 0))) (wCons (wU fNeg (wC (.int 20))) (wCons (wC (.int 20)) (wNil))))))) (wTnot (wT (wCall (s_is_wide) (wCons (wO fIx (wV 0) (wC (.int 1))) (wCons (wC (.int 1)) (wCons (wC (.int 3)) (wNil))))))))) (wRet (wC (.bl false))) (wSkip)) (wSeq (wIf (wTnot (wT (wB fAll (wCons (wLc (wIt (wO fIx (wV 0) (wC (.int 1)))) (gN 1) wYes we_is_walker_1 [1]) (wNil))))) (wRet (wC (.bl false))) (wSkip)) (wRet (wAnd (wB fIsi (wCons (wO fIx (wV 0) (wC (.int 2))) (wCons (wC (.ty "str")) (wNil)))) (wO fIn (wO fIx (wV 0) (wC (.int 2))) (wK (.tup [.str "look", .str "open", .str "shut", .str "turn"]))))))
def s_is_walker : Fn := semOf 1 2 w_is_walker
def we_is_fit_1 : WEx := wCall (s_is_walker) (wCons (wV 1) (wNil))
def w_is_fit : WSt := wRet (wAnd (wCall (s_is_wide) (wCons (wV 0) (wCons (wC (.int 1)) (wCons (wC (.int 4)) (wNil))))) (wB fAll (wCons (wLc (wIt (wV 0)) (gN 1) wYes we_is_fit_1 [1]) (wNil))))
def s_is_fit : Fn := semOf 1 2 w_is_fit
def w_look_at_crew : WSt := wIf (wTnot (wT (wCall (s_is_fit) (wCons (wV 0) (wNil))))) (wRaise "InvalidCrew") (wSkip)
def s_look_at_crew : Fn := semOf 1 1 w_look_at_crew
def w_look_at_walker : WSt := wIf (wTnot (wT (wCall (s_is_within) (wCons (wV 1) (wCons (wC (.int 0)) (wCons (wO (fI0 fun i j => .int (i - j)) (wB fLen (wCons (wV 0) (wNil))) (wC (.int 1))) (wNil))))))) (wRaise "InvalidWalker") (wSkip)
def s_look_at_walker : Fn := semOf 2 2 w_look_at_walker
def w_look_at_beat : WSt := wIf (wTnot (wT (wCall (s_is_within) (wCons (wV 0) (wCons (wC (.int 0)) (wCons (wC (.int (1000000000000000000000000000000))) (wNil))))))) (wRaise "InvalidBeat") (wSkip)
def s_look_at_beat : Fn := semOf 1 1 w_look_at_beat
def w_look_at_place : WSt := wIf (wTnot (wT (wCall (s_is_within) (wCons (wV 0) (wCons (wU fNeg (wC (.int (10000000000000000000000000000000)))) (wCons (wC (.int (10000000000000000000000000000000))) (wNil))))))) (wRaise "InvalidPlace") (wSkip)
def s_look_at_place : Fn := semOf 1 1 w_look_at_place
def w_drift : WSt := wRet (wB fSum (wCons (wO fIx (wV 0) (wC (.int 1))) (wNil)))
def s_drift : Fn := semOf 1 1 w_drift
def w_stands_at : WSt := wSeq (wAs (gN 2) (wO fIx (wV 0) (wC (.int 1)))) (wRet (wO fAdd (wO fAdd (wO fIx (wV 0) (wC (.int 0))) (wO fMul (wO fDiv (wV 1) (wB fLen (wCons (wV 2) (wNil)))) (wB fSum (wCons (wV 2) (wNil))))) (wB fSum (wCons (wSl (wV 2) (wP0) (wP1 (wO fMod (wV 1) (wB fLen (wCons (wV 2) (wNil)))))) (wNil)))))
def s_stands_at : Fn := semOf 2 3 w_stands_at
def w_less_by : WSt := wRet (wO fAdd (wSl (wV 0) (wP0) (wP1 (wV 1))) (wSl (wV 0) (wP1 (wO fAdd (wV 1) (wC (.int 1)))) (wP0)))
def s_less_by : Fn := semOf 2 2 w_less_by
def w_look_at_less : WSt := wSeq (wDo (wCall (s_look_at_walker) (wCons (wV 0) (wCons (wV 1) (wNil))))) (wIf (wT (wO fEq (wB fLen (wCons (wV 0) (wNil))) (wC (.int 1)))) (wRaise "InvalidWalker") (wSkip))
def s_look_at_less : Fn := semOf 2 2 w_look_at_less
def w_is_crew : WSt := wRet (wCall (s_is_fit) (wCons (wV 0) (wNil)))
def s_is_crew : Fn := semOf 1 1 w_is_crew
def w_without : WSt := wSeq (wDo (wCall (s_look_at_crew) (wCons (wV 0) (wNil)))) (wSeq (wDo (wCall (s_look_at_less) (wCons (wV 0) (wCons (wV 1) (wNil))))) (wRet (wCall (s_less_by) (wCons (wV 0) (wCons (wV 1) (wNil))))))
def s_without : Fn := semOf 2 2 w_without
def w_place_at : WSt := wSeq (wDo (wCall (s_look_at_crew) (wCons (wV 0) (wNil)))) (wSeq (wDo (wCall (s_look_at_walker) (wCons (wV 0) (wCons (wV 1) (wNil))))) (wSeq (wDo (wCall (s_look_at_beat) (wCons (wV 2) (wNil)))) (wRet (wCall (s_stands_at) (wCons (wO fIx (wV 0) (wV 1)) (wCons (wV 2) (wNil)))))))
def s_place_at : Fn := semOf 3 3 w_place_at
def w_far_in : WSt := wSeq (wDo (wCall (s_look_at_crew) (wCons (wV 0) (wNil)))) (wSeq (wDo (wCall (s_look_at_walker) (wCons (wV 0) (wCons (wV 1) (wNil))))) (wRet (wCall (s_drift) (wCons (wO fIx (wV 0) (wV 1)) (wNil)))))
def s_far_in : Fn := semOf 2 2 w_far_in
def wb_first_visits_1 : WSt := wSeq (wAs (gN 6) (wO (fI0 fun i j => .int (i - j)) (wV 1) (wCall (s_stands_at) (wCons (wV 0) (wCons (wV 5) (wNil)))))) (wIf (wTand (wT (wO fEq (wO fMod (wV 6) (wV 4)) (wC (.int 0)))) (wT (wO fGe (wO fDiv (wV 6) (wV 4)) (wC (.int 0))))) (wAs (gN 2) (wO fAdd (wV 2) (wB fLst (wCons (wO fAdd (wV 5) (wO fMul (wO fDiv (wV 6) (wV 4)) (wV 3))) (wNil))))) (wSkip))
def wr_first_visits_1 : WSt := wRet (wV 2)
def w_first_visits : WSt := wSeq (wAsP3 2 3 4 (wCons (wB fLst (wNil)) (wCons (wB fLen (wCons (wO fIx (wV 0) (wC (.int 1))) (wNil))) (wCons (wCall (s_drift) (wCons (wV 0) (wNil))) (wNil))))) (wSeq (wFor (wI fRg1 (wCons (wV 3) (wNil))) (gN 5) wb_first_visits_1) (wr_first_visits_1))
def s_first_visits : Fn := semOf 2 7 w_first_visits
def wc_phases_at_1 : WTx := wT (wO fEq (wCall (s_stands_at) (wCons (wV 0) (wCons (wV 2) (wNil)))) (wV 1))
def we_phases_at_1 : WEx := wV 2
def w_phases_at : WSt := wRet (wLc (wI fRg1 (wCons (wB fLen (wCons (wO fIx (wV 0) (wC (.int 1))) (wNil))) (wNil))) (gN 2) wc_phases_at_1 we_phases_at_1 [2])
def s_phases_at : Fn := semOf 2 3 w_phases_at
def wc_count_visits_1 : WTx := wT (wO fLe (wV 5) (wV 2))
def we_count_visits_1 : WEx := wV 5
def wc_count_visits_2 : WTx := wT (wO fLe (wV 4) (wV 2))
def we_count_visits_2 : WEx := wO fAdd (wO fDiv (wO (fI0 fun i j => .int (i - j)) (wV 2) (wV 4)) (wV 3)) (wC (.int 1))
def wr_count_visits_1 : WSt := wSeq (wAs (gN 3) (wB fLen (wCons (wO fIx (wV 0) (wC (.int 1))) (wNil)))) (wRet (wB fSum (wCons (wLc (wIt (wCall (s_phases_at) (wCons (wV 0) (wCons (wV 1) (wNil))))) (gN 4) wc_count_visits_2 we_count_visits_2 [4]) (wNil))))
def w_count_visits : WSt := wSeq (wIf (wT (wO fNe (wCall (s_drift) (wCons (wV 0) (wNil))) (wC (.int 0)))) (wRet (wB fLen (wCons (wLc (wIt (wCall (s_first_visits) (wCons (wV 0) (wCons (wV 1) (wNil))))) (gN 5) wc_count_visits_1 we_count_visits_1 [5]) (wNil)))) (wSkip)) (wr_count_visits_1)
def s_count_visits : Fn := semOf 3 6 w_count_visits
def wc_last_visit_1 : WTx := wT (wO fLe (wV 5) (wV 2))
def we_last_visit_1 : WEx := wV 5
def wc_last_visit_2 : WTx := wT (wO fLe (wV 4) (wV 2))
def we_last_visit_2 : WEx := wO (fI0 fun i j => .int (i - j)) (wV 2) (wO fMod (wO (fI0 fun i j => .int (i - j)) (wV 2) (wV 4)) (wV 3))
def wr_last_visit_1 : WSt := wSeq (wAs (gN 3) (wB fLen (wCons (wO fIx (wV 0) (wC (.int 1))) (wNil)))) (wRet (wB fMax (wCons (wO fAdd (wB fLst (wCons (wU fNeg (wC (.int 1))) (wNil))) (wLc (wIt (wCall (s_phases_at) (wCons (wV 0) (wCons (wV 1) (wNil))))) (gN 4) wc_last_visit_2 we_last_visit_2 [4])) (wNil))))
def w_last_visit : WSt := wSeq (wIf (wT (wO fNe (wCall (s_drift) (wCons (wV 0) (wNil))) (wC (.int 0)))) (wRet (wB fMax (wCons (wO fAdd (wB fLst (wCons (wU fNeg (wC (.int 1))) (wNil))) (wLc (wIt (wCall (s_first_visits) (wCons (wV 0) (wCons (wV 1) (wNil))))) (gN 5) wc_last_visit_1 we_last_visit_1 [5])) (wNil)))) (wSkip)) (wr_last_visit_1)
def s_last_visit : Fn := semOf 3 6 w_last_visit
def wb_last_setting_1 : WSt := wIf (wT (wO fIn (wO fIx (wV 5) (wC (.int 2))) (wB fTup (wCons (wC (.str "open")) (wCons (wC (.str "shut")) (wNil)))))) (wSeq (wAs (gN 6) (wCall (s_last_visit) (wCons (wV 5) (wCons (wV 1) (wCons (wV 2) (wNil)))))) (wIf (wTand (wT (wO fGe (wV 6) (wC (.int 0)))) (wT (wO fGe (wV 6) (wO fIx (wV 3) (wC (.int 0)))))) (wAs (gN 3) (wB fTup (wCons (wV 6) (wCons (wV 4) (wNil))))) (wSkip))) (wSkip)
def wr_last_setting_1 : WSt := wRet (wV 3)
def w_last_setting : WSt := wSeq (wAs (gN 3) (wB fTup (wCons (wU fNeg (wC (.int 1))) (wCons (wU fNeg (wC (.int 1))) (wNil))))) (wSeq (wFor (wI fEn (wCons (wV 0) (wNil))) (gT [4, 5]) wb_last_setting_1) (wr_last_setting_1))
def s_last_setting : Fn := semOf 3 7 w_last_setting
def wb_turns_behind_1 : WSt := wIf (wT (wO fEq (wO fIx (wV 6) (wC (.int 2))) (wC (.str "turn")))) (wSeq (wAs (gN 4) (wO fAdd (wV 4) (wCall (s_count_visits) (wCons (wV 6) (wCons (wV 1) (wCons (wV 2) (wNil))))))) (wIf (wT (wO fGe (wO fIx (wV 3) (wC (.int 0))) (wC (.int 0)))) (wSeq (wAs (gN 4) (wO (fI0 fun i j => .int (i - j)) (wV 4) (wCall (s_count_visits) (wCons (wV 6) (wCons (wV 1) (wCons (wO fIx (wV 3) (wC (.int 0))) (wNil))))))) (wAs (gN 4) (wO fAdd (wV 4) (wB fInt (wCons (wAnd (wO fGt (wV 5) (wO fIx (wV 3) (wC (.int 1)))) (wO fEq (wCall (s_last_visit) (wCons (wV 6) (wCons (wV 1) (wCons (wO fIx (wV 3) (wC (.int 0))) (wNil))))) (wO fIx (wV 3) (wC (.int 0))))) (wNil)))))) (wSkip))) (wSkip)
def wr_turns_behind_1 : WSt := wRet (wV 4)
def w_turns_behind : WSt := wSeq (wAs (gN 4) (wC (.int 0))) (wSeq (wFor (wI fEn (wCons (wV 0) (wNil))) (gT [5, 6]) wb_turns_behind_1) (wr_turns_behind_1))
def s_turns_behind : Fn := semOf 4 7 w_turns_behind
def w_open_at : WSt := wSeq (wAs (gN 3) (wCall (s_last_setting) (wCons (wV 0) (wCons (wV 2) (wCons (wV 1) (wNil)))))) (wSeq (wAs (gN 4) (wAnd (wO fGe (wO fIx (wV 3) (wC (.int 0))) (wC (.int 0))) (wO fEq (wO fIx (wO fIx (wV 0) (wO fIx (wV 3) (wC (.int 1)))) (wC (.int 2))) (wC (.str "open"))))) (wRet (wO fNe (wV 4) (wO fEq (wO fMod (wCall (s_turns_behind) (wCons (wV 0) (wCons (wV 2) (wCons (wV 1) (wCons (wV 3) (wNil)))))) (wC (.int 2))) (wC (.int 1))))))
def s_open_at : Fn := semOf 3 5 w_open_at
def s_mirrored : Fn := fun _ => none
def wc_divisor_1 : WTx := wT (wO fNe (wV 1) (wC (.int 0)))
def wb_divisor_1 : WSt := wAsP 0 1 (wCons (wV 1) (wCons (wO fMod (wV 0) (wV 1)) (wNil)))
def wr_divisor_1 : WSt := wRet (wV 0)
def w_divisor : WSt := wSeq (whL wc_divisor_1 wb_divisor_1 1000) (wr_divisor_1)
def s_divisor : Fn := semOf 2 2 w_divisor
def w_multiple : WSt := wRet (wO fDiv (wO fMul (wV 0) (wV 1)) (wCall (s_divisor) (wCons (wV 0) (wCons (wV 1) (wNil)))))
def s_multiple : Fn := semOf 2 2 w_multiple
def wc_drifting_1 : WTx := wT (wO fGt (wO fMul (wCall (s_drift) (wCons (wV 2) (wNil))) (wV 1)) (wC (.int 0)))
def we_drifting_1 : WEx := wV 2
def w_drifting : WSt := wRet (wLc (wIt (wV 0)) (gN 2) wc_drifting_1 we_drifting_1 [2])
def s_drifting : Fn := semOf 2 3 w_drifting
def wb_round_of_1 : WSt := wAs (gN 2) (wCall (s_multiple) (wCons (wV 2) (wCons (wB fAbs (wCons (wCall (s_drift) (wCons (wV 3) (wNil))) (wNil))) (wNil))))
def wr_round_of_1 : WSt := wRet (wV 2)
def w_round_of : WSt := wSeq (wAs (gN 2) (wC (.int 1))) (wSeq (wFor (wIt (wCall (s_drifting) (wCons (wV 0) (wCons (wV 1) (wNil))))) (gN 3) wb_round_of_1) (wr_round_of_1))
def s_round_of : Fn := semOf 2 4 w_round_of
def w_error_of : WSt := wRet (wO fAdd (wO fDiv (wO fMul (wO fAdd (wB fAbs (wCons (wO fIx (wV 0) (wC (.int 0))) (wNil))) (wC (.int 9))) (wB fLen (wCons (wO fIx (wV 0) (wC (.int 1))) (wNil)))) (wB fAbs (wCons (wCall (s_drift) (wCons (wV 0) (wNil))) (wNil)))) (wO fMul (wC (.int 2)) (wB fLen (wCons (wO fIx (wV 0) (wC (.int 1))) (wNil)))))
def s_error_of : Fn := semOf 1 1 w_error_of
def wb_order_from_1 : WSt := wSeq (wAsP 6 7 (wCons (wO fMul (wB fLen (wCons (wO fIx (wV 4) (wC (.int 1))) (wNil))) (wB fAbs (wCons (wCall (s_drift) (wCons (wV 5) (wNil))) (wNil)))) (wCons (wO fMul (wB fLen (wCons (wO fIx (wV 5) (wC (.int 1))) (wNil))) (wB fAbs (wCons (wCall (s_drift) (wCons (wV 4) (wNil))) (wNil)))) (wNil)))) (wIf (wT (wO fLt (wV 6) (wV 7))) (wSeq (wAs (gN 8) (wB fAbs (wCons (wO fMul (wCall (s_drift) (wCons (wV 4) (wNil))) (wCall (s_drift) (wCons (wV 5) (wNil)))) (wNil)))) (wAs (gN 2) (wB fMax2 (wCons (wV 2) (wCons (wO fAdd (wO fDiv (wO fMul (wO fAdd (wO fAdd (wCall (s_error_of) (wCons (wV 4) (wNil))) (wCall (s_error_of) (wCons (wV 5) (wNil)))) (wC (.int 2))) (wV 8)) (wO (fI0 fun i j => .int (i - j)) (wV 7) (wV 6))) (wC (.int 1))) (wNil)))))) (wSkip))
def wb_order_from_2 : WSt := wFor (wIt (wV 3)) (gN 5) wb_order_from_1
def wr_order_from_1 : WSt := wRet (wV 2)
def w_order_from : WSt := wSeq (wAsP 2 3 (wCons (wC (.int (40))) (wCons (wCall (s_drifting) (wCons (wV 0) (wCons (wV 1) (wNil)))) (wNil)))) (wSeq (wFor (wIt (wV 3)) (gN 4) wb_order_from_2) (wr_order_from_1))
def s_order_from : Fn := semOf 2 9 w_order_from
def we_enough_beats_1 : WEx := wO fAdd (wCall (s_order_from) (wCons (wV 0) (wCons (wV 3) (wNil)))) (wO fMul (wC (.int 2)) (wCall (s_round_of) (wCons (wV 0) (wCons (wV 3) (wNil)))))
def we_enough_beats_2 : WEx := wCall (s_round_of) (wCons (wV 0) (wCons (wV 3) (wNil)))
def w_enough_beats : WSt := wSeq (wAs (gN 1) (wB fMax (wCons (wLc (wIt (wB fTup (wCons (wC (.int 1)) (wCons (wU fNeg (wC (.int 1))) (wNil))))) (gN 3) wYes we_enough_beats_1 [3]) (wNil)))) (wSeq (wAs (gN 2) (wB fMax (wCons (wLc (wIt (wB fTup (wCons (wC (.int 1)) (wCons (wU fNeg (wC (.int 1))) (wNil))))) (gN 3) wYes we_enough_beats_2 [3]) (wNil)))) (wRet (wO fAdd (wB fMax2 (wCons (wO fMul (wC (.int 3)) (wO fAdd (wV 1) (wO fMul (wC (.int 4)) (wC (.int (60)))))) (wCons (wO fMul (wC (.int 9)) (wO fAdd (wO fMul (wC (.int 2)) (wV 2)) (wO fMul (wC (.int 4)) (wC (.int (60)))))) (wNil)))) (wC (.int 24)))))
def s_enough_beats : Fn := semOf 1 4 w_enough_beats
def wb_led_1 : WSt := wSeq (wAsP 5 6 (wCons (wCall (s_stands_at) (wCons (wV 4) (wCons (wV 3) (wNil)))) (wCons (wO fIx (wV 4) (wC (.int 2))) (wNil)))) (wIf (wT (wO fEq (wV 6) (wC (.str "turn")))) (wPutO 2 (wV 5) (wNot (wGetO 2 (wV 5) (wC (.bl false))))) (wIf (wT (wO fNe (wV 6) (wC (.str "look")))) (wPutO 2 (wV 5) (wO fEq (wV 6) (wC (.str "open")))) (wSkip)))
def wb_led_2 : WSt := wFor (wIt (wV 0)) (gN 4) wb_led_1
def wc_led_1 : WTx := wT (wV 7)
def we_led_1 : WEx := wV 5
def wr_led_1 : WSt := wRet (wB fSortedX (wCons (wLcI 2 (gT [5, 7]) wc_led_1 we_led_1 [5, 7]) (wNil)))
def w_led : WSt := wSeq (wAsD 2) (wSeq (wFor (wI fRg1 (wCons (wO fAdd (wV 1) (wC (.int 1))) (wNil))) (gN 3) wb_led_2) (wr_led_1))
def s_led : Fn := semOf 2 8 w_led
def s_fronts : Fn := fun _ => none
def wb_stretches_1 : WSt := wSeq (wAs (gN 3) (wO fAdd (wV 3) (wB fLst (wCons (wB fTup (wCons (wV 2) (wCons (wO (fI0 fun i j => .int (i - j)) (wO (fI0 fun i j => .int (i - j)) (wV 4) (wC (.int (60)))) (wC (.int 1))) (wCons (wC (.bl true)) (wNil))))) (wCons (wB fTup (wCons (wO (fI0 fun i j => .int (i - j)) (wV 4) (wC (.int (60)))) (wCons (wO fAdd (wV 4) (wC (.int (60)))) (wCons (wC (.bl false)) (wNil))))) (wNil)))))) (wAs (gN 2) (wO fAdd (wO fAdd (wV 4) (wC (.int (60)))) (wC (.int 1))))
def wr_stretches_1 : WSt := wRet (wV 3)
def w_stretches : WSt := wSeq (wAsP 2 3 (wCons (wO fAdd (wCall (s_order_from) (wCons (wV 0) (wCons (wC (.int 1)) (wNil)))) (wC (.int 1))) (wCons (wB fLst (wNil)) (wNil)))) (wSeq (wFor (wIt (wCall (s_fronts) (wCons (wV 0) (wCons (wV 1) (wNil))))) (gN 4) wb_stretches_1) (wr_stretches_1))
def s_stretches : Fn := semOf 2 5 w_stretches
def wc_count_in_1 : WTx := wT (wCall (s_open_at) (wCons (wV 0) (wCons (wV 1) (wCons (wV 9) (wNil)))))
def we_count_in_1 : WEx := wV 9
def we_count_in_2 : WEx := wCall (s_open_at) (wCons (wV 0) (wCons (wV 1) (wCons (wV 9) (wNil))))
def wr_count_in_1 : WSt := wSeq (wAs (gN 7) (wLc (wI fRg2 (wCons (wV 4) (wCons (wO fAdd (wV 4) (wV 3)) (wNil)))) (gN 9) wYes we_count_in_2 [9])) (wSeq (wAs (gN 8) (wO fAdd (wO (fI0 fun i j => .int (i - j)) (wV 5) (wV 4)) (wC (.int 1)))) (wRet (wO fAdd (wO fMul (wO fDiv (wV 8) (wV 3)) (wCnt (wV 7) (wC (.bl true)))) (wCnt (wSl (wV 7) (wP0) (wP1 (wO fMod (wV 8) (wV 3)))) (wC (.bl true))))))
def w_count_in : WSt := wSeq (wAs (gT [4, 5, 6]) (wV 2)) (wSeq (wIf (wTor (wTnot (wT (wV 6))) (wT (wO fLt (wO (fI0 fun i j => .int (i - j)) (wV 5) (wV 4)) (wV 3)))) (wRet (wB fLen (wCons (wLc (wI fRg2 (wCons (wV 4) (wCons (wO fAdd (wV 5) (wC (.int 1))) (wNil)))) (gN 9) wc_count_in_1 we_count_in_1 [9]) (wNil)))) (wSkip)) (wr_count_in_1))
def s_count_in : Fn := semOf 4 10 w_count_in
def wb_last_in_1 : WSt := wIf (wT (wCall (s_open_at) (wCons (wV 0) (wCons (wV 1) (wCons (wV 7) (wNil)))))) (wRet (wV 7)) (wSkip)
def wr_last_in_1 : WSt := wRet (wC .non)
def w_last_in : WSt := wSeq (wAs (gT [4, 5, 6]) (wV 2)) (wSeq (wFor (wI fRg3 (wCons (wV 5) (wCons (wO (fI0 fun i j => .int (i - j)) (wB fMax2 (wCons (wV 4) (wCons (wIfE (wT (wV 6)) (wO (fI0 fun i j => .int (i - j)) (wV 5) (wV 3)) (wV 4)) (wNil)))) (wC (.int 1))) (wCons (wU fNeg (wC (.int 1))) (wNil))))) (gN 7) wb_last_in_1) (wr_last_in_1))
def s_last_in : Fn := semOf 4 8 w_last_in
def wb_first_in_1 : WSt := wIf (wT (wCall (s_open_at) (wCons (wV 0) (wCons (wV 1) (wCons (wV 7) (wNil)))))) (wRet (wV 7)) (wSkip)
def wr_first_in_1 : WSt := wRet (wC .non)
def w_first_in : WSt := wSeq (wAs (gT [4, 5, 6]) (wV 2)) (wSeq (wFor (wI fRg2 (wCons (wV 4) (wCons (wO fAdd (wIfE (wT (wV 6)) (wB fMin2 (wCons (wV 5) (wCons (wO fAdd (wV 4) (wV 3)) (wNil)))) (wV 5)) (wC (.int 1))) (wNil)))) (gN 7) wb_first_in_1) (wr_first_in_1))
def s_first_in : Fn := semOf 4 8 w_first_in
def we_count_right_1 : WEx := wCall (s_count_in) (wCons (wV 0) (wCons (wV 1) (wCons (wV 3) (wCons (wV 2) (wNil)))))
def w_count_right : WSt := wSeq (wAs (gN 2) (wCall (s_round_of) (wCons (wV 0) (wCons (wC (.int 1)) (wNil))))) (wRet (wB fSum (wCons (wLc (wIt (wCall (s_stretches) (wCons (wV 0) (wCons (wV 1) (wNil))))) (gN 3) wYes we_count_right_1 [3]) (wNil))))
def s_count_right : Fn := semOf 2 4 w_count_right
def wb_last_right_1 : WSt := wSeq (wAs (gN 4) (wCall (s_last_in) (wCons (wV 0) (wCons (wV 1) (wCons (wV 3) (wCons (wV 2) (wNil))))))) (wIf (wT (wO fIsN (wV 4) (wC .non))) (wRet (wV 4)) (wSkip))
def wr_last_right_1 : WSt := wRet (wC .non)
def w_last_right : WSt := wSeq (wAs (gN 2) (wCall (s_round_of) (wCons (wV 0) (wCons (wC (.int 1)) (wNil))))) (wSeq (wFor (wIt (wU fRevL (wCall (s_stretches) (wCons (wV 0) (wCons (wV 1) (wNil)))))) (gN 3) wb_last_right_1) (wr_last_right_1))
def s_last_right : Fn := semOf 2 5 w_last_right
def wb_first_right_1 : WSt := wSeq (wAs (gN 4) (wCall (s_first_in) (wCons (wV 0) (wCons (wV 1) (wCons (wV 3) (wCons (wV 2) (wNil))))))) (wIf (wT (wO fIsN (wV 4) (wC .non))) (wRet (wV 4)) (wSkip))
def wr_first_right_1 : WSt := wRet (wC .non)
def w_first_right : WSt := wSeq (wAs (gN 2) (wCall (s_round_of) (wCons (wV 0) (wCons (wC (.int 1)) (wNil))))) (wSeq (wFor (wIt (wCall (s_stretches) (wCons (wV 0) (wCons (wV 1) (wNil))))) (gN 3) wb_first_right_1) (wr_first_right_1))
def s_first_right : Fn := semOf 2 5 w_first_right
def wc_core_of_1 : WTx := wT (wCall (s_open_at) (wCons (wV 0) (wCons (wV 1) (wCons (wV 4) (wNil)))))
def we_core_of_1 : WEx := wV 4
def w_core_of : WSt := wSeq (wAsP 2 3 (wCons (wU fNeg (wCall (s_order_from) (wCons (wV 0) (wCons (wU fNeg (wC (.int 1))) (wNil))))) (wCons (wCall (s_order_from) (wCons (wV 0) (wCons (wC (.int 1)) (wNil)))) (wNil)))) (wRet (wLc (wI fRg2 (wCons (wV 2) (wCons (wO fAdd (wV 3) (wC (.int 1))) (wNil)))) (gN 4) wc_core_of_1 we_core_of_1 [4]))
def s_core_of : Fn := semOf 2 5 w_core_of
def wr_number_at_1 : WSt := wRet (wO fAdd (wO fAdd (wB fLen (wCons (wCall (s_core_of) (wCons (wV 0) (wCons (wV 1) (wNil)))) (wNil))) (wCall (s_count_right) (wCons (wV 0) (wCons (wV 1) (wNil))))) (wCall (s_count_right) (wCons (wCall (s_mirrored) (wCons (wV 0) (wNil))) (wCons (wV 1) (wNil)))))
def w_number_at : WSt := wSeq (wIf (wT (wO fLe (wV 1) (wCall (s_enough_beats) (wCons (wV 0) (wNil))))) (wRet (wB fLen (wCons (wCall (s_led) (wCons (wV 0) (wCons (wV 1) (wNil)))) (wNil)))) (wSkip)) (wr_number_at_1)
def s_number_at : Fn := semOf 2 2 w_number_at
def wc_ends_at_1 : WTx := wT (wO fIsN (wV 4) (wC .non))
def we_ends_at_1 : WEx := wV 4
def wc_ends_at_2 : WTx := wT (wO fIsN (wV 4) (wC .non))
def we_ends_at_2 : WEx := wU fNeg (wV 4)
def wr_ends_at_1 : WSt := wSeq (wAsP 2 3 (wCons (wCall (s_core_of) (wCons (wV 0) (wCons (wV 1) (wNil)))) (wCons (wCall (s_mirrored) (wCons (wV 0) (wNil))) (wNil)))) (wSeq (wAs (gN 2) (wO fAdd (wV 2) (wLc (wIt (wB fTup (wCons (wCall (s_first_right) (wCons (wV 0) (wCons (wV 1) (wNil)))) (wCons (wCall (s_last_right) (wCons (wV 0) (wCons (wV 1) (wNil)))) (wNil))))) (gN 4) wc_ends_at_1 we_ends_at_1 [4]))) (wSeq (wAs (gN 2) (wO fAdd (wV 2) (wLc (wIt (wB fTup (wCons (wCall (s_first_right) (wCons (wV 3) (wCons (wV 1) (wNil)))) (wCons (wCall (s_last_right) (wCons (wV 3) (wCons (wV 1) (wNil)))) (wNil))))) (gN 4) wc_ends_at_2 we_ends_at_2 [4]))) (wRet (wIfE (wT (wO fNe (wV 2) (wB fLst (wNil)))) (wB fTup (wCons (wB fMin (wCons (wV 2) (wNil))) (wCons (wB fMax (wCons (wV 2) (wNil))) (wNil)))) (wC .non)))))
def w_ends_at : WSt := wSeq (wIf (wT (wO fLe (wV 1) (wCall (s_enough_beats) (wCons (wV 0) (wNil))))) (wSeq (wAs (gN 2) (wCall (s_led) (wCons (wV 0) (wCons (wV 1) (wNil))))) (wRet (wIfE (wT (wO fNe (wV 2) (wB fLst (wNil)))) (wB fTup (wCons (wO fIx (wV 2) (wC (.int 0))) (wCons (wO fIx (wV 2) (wU fNeg (wC (.int 1)))) (wNil)))) (wC .non)))) (wSkip)) (wr_ends_at_1)
def s_ends_at : Fn := semOf 2 5 w_ends_at
def w_is_open : WSt := wSeq (wDo (wCall (s_look_at_crew) (wCons (wV 0) (wNil)))) (wSeq (wDo (wCall (s_look_at_beat) (wCons (wV 1) (wNil)))) (wSeq (wDo (wCall (s_look_at_place) (wCons (wV 2) (wNil)))) (wRet (wCall (s_open_at) (wCons (wV 0) (wCons (wV 1) (wCons (wV 2) (wNil))))))))
def s_is_open : Fn := semOf 3 3 w_is_open
def w_count_open : WSt := wSeq (wDo (wCall (s_look_at_crew) (wCons (wV 0) (wNil)))) (wSeq (wDo (wCall (s_look_at_beat) (wCons (wV 1) (wNil)))) (wRet (wCall (s_number_at) (wCons (wV 0) (wCons (wV 1) (wNil))))))
def s_count_open : Fn := semOf 2 2 w_count_open
def w_ends_open : WSt := wSeq (wDo (wCall (s_look_at_crew) (wCons (wV 0) (wNil)))) (wSeq (wDo (wCall (s_look_at_beat) (wCons (wV 1) (wNil)))) (wRet (wCall (s_ends_at) (wCons (wV 0) (wCons (wV 1) (wNil))))))
def s_ends_open : Fn := semOf 2 2 w_ends_open
def wc_open_between_1 : WTx := wT (wCall (s_open_at) (wCons (wV 0) (wCons (wV 1) (wCons (wV 4) (wNil)))))
def we_open_between_1 : WEx := wV 4
def wr_open_between_1 : WSt := wRet (wLc (wI fRg2 (wCons (wV 2) (wCons (wO fAdd (wV 3) (wC (.int 1))) (wNil)))) (gN 4) wc_open_between_1 we_open_between_1 [4])
def w_open_between : WSt := wSeq (wDo (wCall (s_look_at_crew) (wCons (wV 0) (wNil)))) (wSeq (wDo (wCall (s_look_at_beat) (wCons (wV 1) (wNil)))) (wSeq (wDo (wCall (s_look_at_place) (wCons (wV 2) (wNil)))) (wSeq (wDo (wCall (s_look_at_place) (wCons (wV 3) (wNil)))) (wSeq (wIf (wTnot (wT (wCall (s_is_within) (wCons (wO (fI0 fun i j => .int (i - j)) (wV 3) (wV 2)) (wCons (wC (.int 0)) (wCons (wC (.int 200)) (wNil))))))) (wRaise "InvalidPlace") (wSkip)) (wr_open_between_1)))))
def s_open_between : Fn := semOf 4 5 w_open_between
def w_late_beat : WSt := wRet (wO fAdd (wO fMul (wC (.int 3)) (wO fAdd (wB fAbs (wCons (wV 0) (wNil))) (wC (.int 60)))) (wC (.int 12)))
def s_late_beat : Fn := semOf 1 1 w_late_beat
def we_fate_of_1 : WEx := wCall (s_open_at) (wCons (wV 0) (wCons (wO fAdd (wV 2) (wV 5)) (wCons (wV 1) (wNil))))
def wr_fate_of_1 : WSt := wRet (wIfE (wT (wO fIn (wC (.bl true)) (wV 4))) (wC (.str "open")) (wC (.str "shut")))
def w_fate_of : WSt := wSeq (wAs (gN 2) (wCall (s_late_beat) (wCons (wV 1) (wNil)))) (wSeq (wAs (gN 3) (wIfE (wT (wO fLe (wB fAbs (wCons (wV 1) (wNil))) (wC (.int (40))))) (wC (.int (12))) (wC (.int 1)))) (wSeq (wAs (gN 4) (wLc (wI fRg1 (wCons (wV 3) (wNil))) (gN 5) wYes we_fate_of_1 [5])) (wSeq (wIf (wTand (wT (wO fIn (wC (.bl true)) (wV 4))) (wT (wO fIn (wC (.bl false)) (wV 4)))) (wRet (wC (.str "changing"))) (wSkip)) (wr_fate_of_1))))
def s_fate_of : Fn := semOf 2 6 w_fate_of
def wb_shortened_1 : WSt := wIf (wTand (wT (wO fEq (wO fMod (wB fLen (wCons (wV 1) (wNil))) (wV 2)) (wC (.int 0)))) (wT (wO fEq (wO fMulU (wSl (wV 1) (wP0) (wP1 (wV 2))) (wO fDiv (wB fLen (wCons (wV 1) (wNil))) (wV 2))) (wV 1)))) (wSeq (wAs (gN 1) (wSl (wV 1) (wP0) (wP1 (wV 2)))) (wBk)) (wSkip)
def wc_shortened_1 : WTx := wTand (wT (wO fNe (wV 0) (wB fTup (wNil)))) (wT (wO fEq (wO fIx (wV 0) (wU fNeg (wC (.int 1)))) (wO fIx (wV 1) (wU fNeg (wC (.int 1))))))
def wb_shortened_2 : WSt := wAsP 0 1 (wCons (wSl (wV 0) (wP0) (wP1 (wU fNeg (wC (.int 1))))) (wCons (wO fAdd (wSl (wV 1) (wP1 (wU fNeg (wC (.int 1)))) (wP0)) (wSl (wV 1) (wP0) (wP1 (wU fNeg (wC (.int 1)))))) (wNil)))
def wr_shortened_1 : WSt := wRet (wB fTup (wCons (wV 0) (wCons (wV 1) (wNil))))
def wr_shortened_2 : WSt := wSeq (whL wc_shortened_1 wb_shortened_2 100000) (wr_shortened_1)
def w_shortened : WSt := wSeq (wFor (wI fRg2 (wCons (wC (.int 1)) (wCons (wO fAdd (wB fLen (wCons (wV 1) (wNil))) (wC (.int 1))) (wNil)))) (gN 2) wb_shortened_1) (wr_shortened_2)
def s_shortened : Fn := semOf 2 3 w_shortened
def we_right_of_1 : WEx := wCall (s_fate_of) (wCons (wV 0) (wCons (wV 4) (wNil)))
def w_right_of : WSt := wSeq (wAsP 1 2 (wCons (wO fAdd (wCall (s_order_from) (wCons (wV 0) (wCons (wC (.int 1)) (wNil)))) (wC (.int 1))) (wCons (wCall (s_round_of) (wCons (wV 0) (wCons (wC (.int 1)) (wNil)))) (wNil)))) (wSeq (wAs (gN 3) (wB fTupO (wCons (wLc (wI fRg1 (wCons (wO fAdd (wV 1) (wV 2)) (wNil))) (gN 4) wYes we_right_of_1 [4]) (wNil)))) (wRet (wCall (s_shortened) (wCons (wSl (wV 3) (wP0) (wP1 (wV 1))) (wCons (wSl (wV 3) (wP1 (wV 1)) (wP0)) (wNil))))))
def s_right_of : Fn := semOf 1 5 w_right_of
def we_left_of_1 : WEx := wCall (s_fate_of) (wCons (wV 0) (wCons (wO (fI0 fun i j => .int (i - j)) (wU fNeg (wC (.int 1))) (wV 4)) (wNil)))
def w_left_of : WSt := wSeq (wAsP 1 2 (wCons (wO fAdd (wCall (s_order_from) (wCons (wV 0) (wCons (wU fNeg (wC (.int 1))) (wNil)))) (wC (.int 1))) (wCons (wCall (s_round_of) (wCons (wV 0) (wCons (wU fNeg (wC (.int 1))) (wNil)))) (wNil)))) (wSeq (wAs (gN 3) (wB fTupO (wCons (wLc (wI fRg1 (wCons (wO fAdd (wV 1) (wV 2)) (wNil))) (gN 4) wYes we_left_of_1 [4]) (wNil)))) (wRet (wCall (s_shortened) (wCons (wSl (wV 3) (wP0) (wP1 (wV 1))) (wCons (wSl (wV 3) (wP1 (wV 1)) (wP0)) (wNil))))))
def s_left_of : Fn := semOf 1 5 w_left_of
def w_fate : WSt := wSeq (wDo (wCall (s_look_at_crew) (wCons (wV 0) (wNil)))) (wSeq (wDo (wCall (s_look_at_place) (wCons (wV 1) (wNil)))) (wRet (wCall (s_fate_of) (wCons (wV 0) (wCons (wV 1) (wNil))))))
def s_fate : Fn := semOf 2 2 w_fate
def w_right : WSt := wSeq (wDo (wCall (s_look_at_crew) (wCons (wV 0) (wNil)))) (wRet (wCall (s_right_of) (wCons (wV 0) (wNil))))
def s_right : Fn := semOf 1 1 w_right
def w_left : WSt := wSeq (wDo (wCall (s_look_at_crew) (wCons (wV 0) (wNil)))) (wRet (wCall (s_left_of) (wCons (wV 0) (wNil))))
def s_left : Fn := semOf 1 1 w_left
def w_apart : WSt := wRet (wO (fI0 fun i j => .int (i - j)) (wCall (s_stands_at) (wCons (wV 1) (wCons (wV 2) (wNil)))) (wCall (s_stands_at) (wCons (wV 0) (wCons (wV 2) (wNil)))))
def s_apart : Fn := semOf 3 3 w_apart
def we_beats_of_1 : WEx := wCall (s_apart) (wCons (wV 0) (wCons (wV 1) (wCons (wV 6) (wNil))))
def wc_beats_of_1 : WTx := wT (wO fEq (wV 7) (wC (.int 0)))
def we_beats_of_2 : WEx := wV 6
def wc_beats_of_2 : WTx := wTand (wT (wO fEq (wO fMod (wV 7) (wV 3)) (wC (.int 0)))) (wT (wO fGe (wO fDiv (wU fNeg (wV 7)) (wV 3)) (wC (.int 0))))
def we_beats_of_3 : WEx := wB fTup (wCons (wV 6) (wCons (wO fDiv (wU fNeg (wV 7)) (wV 3)) (wNil)))
def we_beats_of_4 : WEx := wO fAdd (wV 6) (wO fMul (wV 8) (wV 2))
def wr_beats_of_1 : WSt := wSeq (wAs (gN 5) (wLc (wI fEn (wCons (wV 4) (wNil))) (gT [6, 7]) wc_beats_of_2 we_beats_of_3 [6, 7])) (wRet (wB fTup (wCons (wC (.int 0)) (wCons (wB fSortedX (wCons (wLc (wIt (wV 5)) (gT [6, 8]) wYes we_beats_of_4 [6, 8]) (wNil))) (wNil)))))
def w_beats_of : WSt := wSeq (wAs (gN 2) (wCall (s_multiple) (wCons (wB fLen (wCons (wO fIx (wV 0) (wC (.int 1))) (wNil))) (wCons (wB fLen (wCons (wO fIx (wV 1) (wC (.int 1))) (wNil))) (wNil))))) (wSeq (wAs (gN 3) (wO (fI0 fun i j => .int (i - j)) (wCall (s_apart) (wCons (wV 0) (wCons (wV 1) (wCons (wV 2) (wNil))))) (wCall (s_apart) (wCons (wV 0) (wCons (wV 1) (wCons (wC (.int 0)) (wNil))))))) (wSeq (wAs (gN 4) (wLc (wI fRg1 (wCons (wV 2) (wNil))) (gN 6) wYes we_beats_of_1 [6])) (wSeq (wIf (wT (wO fEq (wV 3) (wC (.int 0)))) (wRet (wB fTup (wCons (wV 2) (wCons (wLc (wI fEn (wCons (wV 4) (wNil))) (gT [6, 7]) wc_beats_of_1 we_beats_of_2 [6, 7]) (wNil))))) (wSkip)) (wr_beats_of_1))))
def s_beats_of : Fn := semOf 2 9 w_beats_of
def w_look_at_two : WSt := wSeq (wDo (wCall (s_look_at_crew) (wCons (wV 0) (wNil)))) (wSeq (wDo (wCall (s_look_at_walker) (wCons (wV 0) (wCons (wV 1) (wNil))))) (wDo (wCall (s_look_at_walker) (wCons (wV 0) (wCons (wV 2) (wNil))))))
def s_look_at_two : Fn := semOf 3 3 w_look_at_two
def we_meets_1 : WEx := wO fIn (wV 5) (wV 4)
def we_meets_2 : WEx := wO fIn (wV 5) (wV 4)
def wr_meets_1 : WSt := wRet (wCall (s_shortened) (wCons (wB fTupO (wCons (wLc (wI fRg1 (wCons (wO fAdd (wB fMax (wCons (wO fAdd (wB fLst (wCons (wU fNeg (wC (.int 1))) (wNil))) (wV 4)) (wNil))) (wC (.int 1))) (wNil))) (gN 5) wYes we_meets_2 [5]) (wNil))) (wCons (wB fTup (wCons (wC (.bl false)) (wNil))) (wNil))))
def w_meets : WSt := wSeq (wDo (wCall (s_look_at_two) (wCons (wV 0) (wCons (wV 1) (wCons (wV 2) (wNil)))))) (wSeq (wAs (gT [3, 4]) (wCall (s_beats_of) (wCons (wO fIx (wV 0) (wV 1)) (wCons (wO fIx (wV 0) (wV 2)) (wNil))))) (wSeq (wIf (wT (wO fGt (wV 3) (wC (.int 0)))) (wRet (wCall (s_shortened) (wCons (wB fTup (wNil)) (wCons (wB fTupO (wCons (wLc (wI fRg1 (wCons (wV 3) (wNil))) (gN 5) wYes we_meets_1 [5]) (wNil))) (wNil))))) (wSkip)) (wr_meets_1)))
def s_meets : Fn := semOf 3 6 w_meets
def we_next_meeting_1 : WEx := wO fAdd (wV 3) (wO fMod (wO (fI0 fun i j => .int (i - j)) (wV 7) (wV 3)) (wV 4))
def wc_next_meeting_1 : WTx := wT (wO fGe (wV 7) (wV 3))
def we_next_meeting_2 : WEx := wV 7
def wr_next_meeting_1 : WSt := wRet (wIfE (wT (wO fNe (wV 6) (wB fLst (wNil)))) (wB fMin (wCons (wV 6) (wNil))) (wC .non))
def w_next_meeting : WSt := wSeq (wDo (wCall (s_look_at_two) (wCons (wV 0) (wCons (wV 1) (wCons (wV 2) (wNil)))))) (wSeq (wDo (wCall (s_look_at_beat) (wCons (wV 3) (wNil)))) (wSeq (wAs (gT [4, 5]) (wCall (s_beats_of) (wCons (wO fIx (wV 0) (wV 1)) (wCons (wO fIx (wV 0) (wV 2)) (wNil))))) (wSeq (wIf (wT (wO fGt (wV 4) (wC (.int 0)))) (wAs (gN 6) (wLc (wIt (wV 5)) (gN 7) wYes we_next_meeting_1 [7])) (wAs (gN 6) (wLc (wIt (wV 5)) (gN 7) wc_next_meeting_1 we_next_meeting_2 [7]))) (wr_next_meeting_1))))
def s_next_meeting : Fn := semOf 4 8 w_next_meeting
def wc_count_meetings_1 : WTx := wT (wO fLe (wV 6) (wV 3))
def we_count_meetings_1 : WEx := wO fAdd (wO fDiv (wO (fI0 fun i j => .int (i - j)) (wV 3) (wV 6)) (wV 4)) (wC (.int 1))
def wc_count_meetings_2 : WTx := wT (wO fLe (wV 6) (wV 3))
def we_count_meetings_2 : WEx := wV 6
def wr_count_meetings_1 : WSt := wRet (wB fLen (wCons (wLc (wIt (wV 5)) (gN 6) wc_count_meetings_2 we_count_meetings_2 [6]) (wNil)))
def w_count_meetings : WSt := wSeq (wDo (wCall (s_look_at_two) (wCons (wV 0) (wCons (wV 1) (wCons (wV 2) (wNil)))))) (wSeq (wDo (wCall (s_look_at_beat) (wCons (wV 3) (wNil)))) (wSeq (wAs (gT [4, 5]) (wCall (s_beats_of) (wCons (wO fIx (wV 0) (wV 1)) (wCons (wO fIx (wV 0) (wV 2)) (wNil))))) (wSeq (wIf (wT (wO fGt (wV 4) (wC (.int 0)))) (wRet (wB fSum (wCons (wLc (wIt (wV 5)) (gN 6) wc_count_meetings_1 we_count_meetings_1 [6]) (wNil)))) (wSkip)) (wr_count_meetings_1))))
def s_count_meetings : Fn := semOf 4 7 w_count_meetings
def wr_done_1 : WSt := wAs (gN 3) (wO fAdd (wV 3) (wB fLst (wCons (wV 5) (wNil))))
def wb_done_1 : WSt := wSeq (wAsP 5 6 (wCons (wCall (s_stands_at) (wCons (wV 4) (wCons (wV 1) (wNil)))) (wCons (wO fIx (wV 4) (wC (.int 2))) (wNil)))) (wSeq (wIf (wT (wO fEq (wV 6) (wC (.str "turn")))) (wSetO 2 (wV 5) (wNot (wGetV (wV 2) (wV 5) (wC (.bl false))))) (wIf (wT (wO fNe (wV 6) (wC (.str "look")))) (wSetO 2 (wV 5) (wO fEq (wV 6) (wC (.str "open")))) (wSkip))) (wr_done_1))
def wr_done_2 : WSt := wRet (wB fTup (wCons (wV 2) (wCons (wV 3) (wNil))))
def w_done : WSt := wSeq (wAs (gN 3) (wB fLst (wNil))) (wSeq (wFor (wIt (wV 0)) (gN 4) wb_done_1) (wr_done_2))
def s_done : Fn := semOf 3 7 w_done
def wc_parting_of_1 : WTx := wT (wO fNe (wGetV (wV 2) (wV 8) (wC (.bl false))) (wGetV (wV 3) (wV 8) (wC (.bl false))))
def we_parting_of_1 : WEx := wV 8
def wb_parting_of_1 : WSt := wSeq (wAs (gT [2, 5]) (wCall (s_done) (wCons (wV 0) (wCons (wV 4) (wCons (wV 2) (wNil)))))) (wSeq (wAs (gT [3, 6]) (wCall (s_done) (wCons (wV 1) (wCons (wV 4) (wCons (wV 3) (wNil)))))) (wSeq (wAs (gN 7) (wLc (wIt (wO fAdd (wV 5) (wV 6))) (gN 8) wc_parting_of_1 we_parting_of_1 [8])) (wIf (wT (wO fNe (wV 7) (wB fLst (wNil)))) (wRet (wB fTup (wCons (wV 4) (wCons (wB fMin (wCons (wV 7) (wNil))) (wNil))))) (wSkip))))
def wr_parting_of_1 : WSt := wRet (wC .non)
def w_parting_of : WSt := wSeq (wAs (gT [2, 3]) (wB fTup (wCons (wD0) (wCons (wD0) (wNil))))) (wSeq (wFor (wI fRg1 (wCons (wO fAdd (wCall (s_enough_beats) (wCons (wO fAdd (wV 0) (wV 1)) (wNil))) (wC (.int 1))) (wNil))) (gN 4) wb_parting_of_1) (wr_parting_of_1))
def s_parting_of : Fn := semOf 2 9 w_parting_of
def w_alike : WSt := wSeq (wDo (wCall (s_look_at_crew) (wCons (wV 0) (wNil)))) (wSeq (wDo (wCall (s_look_at_crew) (wCons (wV 1) (wNil)))) (wRet (wO fIs (wCall (s_parting_of) (wCons (wV 0) (wCons (wV 1) (wNil)))) (wC .non))))
def s_alike : Fn := semOf 2 2 w_alike
def w_parting : WSt := wSeq (wDo (wCall (s_look_at_crew) (wCons (wV 0) (wNil)))) (wSeq (wDo (wCall (s_look_at_crew) (wCons (wV 1) (wNil)))) (wRet (wCall (s_parting_of) (wCons (wV 0) (wCons (wV 1) (wNil))))))
def s_parting : Fn := semOf 2 2 w_parting
def wc_idle_walkers_1 : WTx := wT (wO fIs (wCall (s_parting_of) (wCons (wV 0) (wCons (wCall (s_less_by) (wCons (wV 0) (wCons (wV 2) (wNil)))) (wNil)))) (wC .non))
def we_idle_walkers_1 : WEx := wV 2
def w_idle_walkers : WSt := wSeq (wDo (wCall (s_look_at_crew) (wCons (wV 0) (wNil)))) (wSeq (wAs (gN 1) (wIfE (wT (wO fGt (wB fLen (wCons (wV 0) (wNil))) (wC (.int 1)))) (wB fLen (wCons (wV 0) (wNil))) (wC (.int 0)))) (wRet (wLc (wI fRg1 (wCons (wV 1) (wNil))) (gN 2) wc_idle_walkers_1 we_idle_walkers_1 [2])))
def s_idle_walkers : Fn := semOf 1 3 w_idle_walkers
def wr_is_sight_1 : WSt := wRet (wB fIsi (wCons (wO fIx (wV 0) (wC (.int 2))) (wCons (wC (.ty "bool")) (wNil))))
def w_is_sight : WSt := wSeq (wIf (wTor (wTnot (wT (wCall (s_is_wide) (wCons (wV 0) (wCons (wC (.int 3)) (wCons (wC (.int 3)) (wNil))))))) (wTor (wTnot (wT (wCall (s_is_within) (wCons (wO fIx (wV 0) (wC (.int 0))) (wCons (wC (.int 0)) (wCons (wC (.int (1000000000000000000000000000000))) (wNil))))))) (wTnot (wT (wCall (s_is_within) (wCons (wO fIx (wV 0) (wC (.int 1))) (wCons (wU fNeg (wC (.int (10000000000000000000000000000000)))) (wCons (wC (.int (10000000000000000000000000000000))) (wNil))))))))) (wRet (wC (.bl false))) (wSkip)) (wr_is_sight_1)
def s_is_sight : Fn := semOf 1 1 w_is_sight
def we_look_at_seen_1 : WEx := wCall (s_is_sight) (wCons (wV 3) (wNil))
def w_look_at_seen : WSt := wSeq (wDo (wCall (s_look_at_crew) (wCons (wV 0) (wNil)))) (wSeq (wDo (wCall (s_look_at_walker) (wCons (wV 0) (wCons (wV 1) (wNil))))) (wIf (wTor (wTnot (wT (wCall (s_is_wide) (wCons (wV 2) (wCons (wC (.int 1)) (wCons (wC (.int 6)) (wNil))))))) (wTnot (wT (wB fAll (wCons (wLc (wIt (wV 2)) (gN 3) wYes we_look_at_seen_1 [3]) (wNil)))))) (wRaise "InvalidSeen") (wSkip)))
def s_look_at_seen : Fn := semOf 3 4 w_look_at_seen
def w_with_walker : WSt := wRet (wO fAdd (wO fAdd (wSl (wV 0) (wP0) (wP1 (wV 1))) (wB fTup (wCons (wV 2) (wNil)))) (wSl (wV 0) (wP1 (wO fAdd (wV 1) (wC (.int 1)))) (wP0)))
def s_with_walker : Fn := semOf 3 3 w_with_walker
def we_goes_with_1 : WEx := wO fEq (wCall (s_open_at) (wCons (wV 0) (wCons (wV 2) (wCons (wV 3) (wNil))))) (wV 4)
def w_goes_with : WSt := wRet (wB fAll (wCons (wLc (wIt (wV 1)) (gT [2, 3, 4]) wYes we_goes_with_1 [2, 3, 4]) (wNil)))
def s_goes_with : Fn := semOf 2 5 w_goes_with
def wc_starts_for_1 : WTx := wT (wCall (s_goes_with) (wCons (wCall (s_with_walker) (wCons (wV 0) (wCons (wV 1) (wCons (wB fTup (wCons (wV 6) (wCons (wV 4) (wCons (wV 5) (wNil))))) (wNil))))) (wCons (wV 2) (wNil))))
def we_starts_for_1 : WEx := wV 6
def w_starts_for : WSt := wSeq (wDo (wCall (s_look_at_seen) (wCons (wV 0) (wCons (wV 1) (wCons (wV 2) (wNil)))))) (wSeq (wAs (gT [3, 4, 5]) (wO fIx (wV 0) (wV 1))) (wRet (wLc (wI fRg2 (wCons (wU fNeg (wC (.int 20))) (wCons (wC (.int 21)) (wNil)))) (gN 6) wc_starts_for_1 we_starts_for_1 [6])))
def s_starts_for : Fn := semOf 3 7 w_starts_for
def wc_deeds_for_1 : WTx := wT (wCall (s_goes_with) (wCons (wCall (s_with_walker) (wCons (wV 0) (wCons (wV 1) (wCons (wB fTup (wCons (wV 3) (wCons (wV 4) (wCons (wV 6) (wNil))))) (wNil))))) (wCons (wV 2) (wNil))))
def we_deeds_for_1 : WEx := wV 6
def w_deeds_for : WSt := wSeq (wDo (wCall (s_look_at_seen) (wCons (wV 0) (wCons (wV 1) (wCons (wV 2) (wNil)))))) (wSeq (wAs (gT [3, 4, 5]) (wO fIx (wV 0) (wV 1))) (wRet (wLc (wIt (wK (.tup [.str "look", .str "open", .str "shut", .str "turn"]))) (gN 6) wc_deeds_for_1 we_deeds_for_1 [6])))
def s_deeds_for : Fn := semOf 3 7 w_deeds_for
def we_line_of_1 : WEx := wB fStr (wCons (wV 1) (wNil))
def w_line_of : WSt := wRet (wO fAdd (wO fAdd (wO fAdd (wO fAdd (wB fStr (wCons (wO fIx (wV 0) (wC (.int 0))) (wNil))) (wC (.str " "))) (wO fJn (wC (.str ",")) (wLc (wIt (wO fIx (wV 0) (wC (.int 1)))) (gN 1) wYes we_line_of_1 [1]))) (wC (.str " "))) (wO fIx (wV 0) (wC (.int 2))))
def s_line_of : Fn := semOf 1 2 w_line_of
def we_text_of_1 : WEx := wCall (s_line_of) (wCons (wV 1) (wNil))
def w_text_of : WSt := wRet (wO fJn (wC (.str "\n")) (wLc (wIt (wV 0)) (gN 1) wYes we_text_of_1 [1]))
def s_text_of : Fn := semOf 1 2 w_text_of
def w_crew_text : WSt := wSeq (wDo (wCall (s_look_at_crew) (wCons (wV 0) (wNil)))) (wRet (wCall (s_text_of) (wCons (wV 0) (wNil))))
def s_crew_text : Fn := semOf 1 1 w_crew_text
def we_number_of_1 : WEx := wB fStr (wCons (wO fAdd (wC (.int (-20))) (wV 2)) (wNil))
def w_number_of : WSt := wSeq (wAs (gN 1) (wLc (wI fRg1 (wCons (wC (.int (41))) (wNil))) (gN 2) wYes we_number_of_1 [2])) (wRet (wIfE (wT (wO fIn (wV 0) (wV 1))) (wO fAdd (wIdx (wV 1) (wV 0)) (wC (.int (-20)))) (wC .non)))
def s_number_of : Fn := semOf 1 3 w_number_of
def we_walker_of_1 : WEx := wCall (s_number_of) (wCons (wV 2) (wNil))
def wr_walker_of_1 : WSt := wRet (wB fTup (wCons (wCall (s_number_of) (wCons (wO fIx (wV 1) (wC (.int 0))) (wNil))) (wCons (wB fTupO (wCons (wLc (wIt (wSplit (wO fIx (wV 1) (wC (.int 1))) (wC (.str ",")))) (gN 2) wYes we_walker_of_1 [2]) (wNil))) (wCons (wO fIx (wV 1) (wC (.int 2))) (wNil)))))
def w_walker_of : WSt := wSeq (wAs (gN 1) (wSplit (wV 0) (wC (.str " ")))) (wSeq (wIf (wT (wO fNe (wB fLen (wCons (wV 1) (wNil))) (wC (.int 3)))) (wRet (wC .non)) (wSkip)) (wr_walker_of_1))
def s_walker_of : Fn := semOf 1 3 w_walker_of
def we_read_crew_1 : WEx := wCall (s_walker_of) (wCons (wV 2) (wNil))
def wr_read_crew_1 : WSt := wRet (wV 1)
def wr_read_crew_2 : WSt := wSeq (wAs (gN 1) (wB fTupO (wCons (wLc (wIt (wSplit (wV 0) (wC (.str "\n")))) (gN 2) wYes we_read_crew_1 [2]) (wNil)))) (wSeq (wIf (wTnot (wT (wCall (s_is_fit) (wCons (wV 1) (wNil))))) (wRaise "InvalidText") (wSkip)) (wr_read_crew_1))
def w_read_crew : WSt := wSeq (wIf (wTnot (wT (wB fIsi (wCons (wV 0) (wCons (wC (.ty "str")) (wNil)))))) (wRaise "InvalidText") (wSkip)) (wr_read_crew_2)
def s_read_crew : Fn := semOf 1 3 w_read_crew
def w__law_spring : WSt := wSeq (wAs (gN 2) (wC (.int 7))) (wSeq (wIf (wT (wO fLt (wV 1) (wB fLen (wCons (wV 0) (wNil))))) (wAs (gN 2) (wB fAbs (wCons (wO fIx (wV 0) (wV 1)) (wNil)))) (wSkip)) (wSeq (wAs (gN 3) (wO fMod (wB fInt (wCons (wO fAdd (wO fAdd (wO fMul (wV 2) (wC (.int 863))) (wO fMul (wC (.int 524287)) (wV 1))) (wC (.int 1))) (wNil))) (wC (.int 999999999989)))) (wRetL (wCons (wIfE (wT (wO fGe (wV 2) (wO fPow (wC (.int 10)) (wC (.int 18))))) (wV 2) (wC (.int 0))) (wCons (wV 3) (wNil))))))
def s__law_spring : FnO := semO 2 4 w__law_spring
def w__law_pick : WSt := wSeq (wIf (wT (wO fGt (wIxO 0 (wC (.int 0))) (wC (.int 0)))) (wSeq (wAs (gN 2) (wO fMod (wB fInt (wCons (wIxO 0 (wC (.int 0))) (wNil))) (wV 1))) (wSeq (wSetO 0 (wC (.int 0)) (wO fDiv (wIxO 0 (wC (.int 0))) (wV 1))) (wRet (wV 2)))) (wSkip)) (wSeq (wSetO 0 (wC (.int 1)) (wO fMod (wB fInt (wCons (wO fAdd (wO fMul (wIxO 0 (wC (.int 1))) (wC (.int 393555900739))) (wC (.int 8191))) (wNil))) (wC (.int 999999999989)))) (wRet (wO fMod (wB fInt (wCons (wO fDiv (wIxO 0 (wC (.int 1))) (wC (.int 4093))) (wNil))) (wV 1))))
def s__law_pick : FnM := semM 1 3 w__law_pick
def w__law_kind : WSt := wSeq (wIf (wTor (wT (wO fIs (wV 0) (wC .non))) (wT (wB fIsi (wCons (wV 0) (wCons (wC (.ty "bool")) (wNil)))))) (wRet (wIfE (wT (wO fIs (wV 0) (wC .non))) (wC (.int 0)) (wC (.int 1)))) (wSkip)) (wSeq (wIf (wT (wIsiT (wV 0) ["list", "tuple"])) (wRet (wIfE (wT (wB fIsi (wCons (wV 0) (wCons (wC (.ty "list")) (wNil))))) (wC (.int 2)) (wC (.int 3)))) (wSkip)) (wRet (wIfE (wT (wB fIsi (wCons (wV 0) (wCons (wC (.ty "int")) (wNil))))) (wC (.int 4)) (wIfE (wT (wB fIsi (wCons (wV 0) (wCons (wC (.ty "str")) (wNil))))) (wC (.int 5)) (wC (.int 6))))))
def s__law_kind : Fn := semOf 1 1 w__law_kind
def wc__law_twins_1 (rc : Fn) : WTx := wTnot (wT (wCall rc (wCons (wV 2) (wCons (wV 3) (wNil)))))
def we__law_twins_1 (rc : Fn) : WEx := wC (.int 1)
def w__law_twins (rc : Fn) : WSt := wSeq (wIf (wT (wO fNe (wCall (s__law_kind) (wCons (wV 0) (wNil))) (wCall (s__law_kind) (wCons (wV 1) (wNil))))) (wRet (wC (.bl false))) (wSkip)) (wSeq (wIf (wT (wO fIn (wCall (s__law_kind) (wCons (wV 0) (wNil))) (wB fLst (wCons (wC (.int 2)) (wCons (wC (.int 3)) (wNil)))))) (wRet (wAnd (wO fEq (wB fLen (wCons (wV 0) (wNil))) (wB fLen (wCons (wV 1) (wNil)))) (wO fEq (wLc (wI fZp (wCons (wV 0) (wCons (wV 1) (wNil)))) (gT [2, 3]) (wc__law_twins_1 rc) (we__law_twins_1 rc) [2, 3]) (wB fLst (wNil))))) (wSkip)) (wRet (wO fEq (wV 0) (wV 1))))
def s__law_twins : Nat → Fn
  | 0 => fun _ => none
  | d + 1 => semOf 2 4 (w__law_twins (s__law_twins d))
def we__law_walker_1 : WEx := wO (fI0 fun i j => .int (i - j)) (wCallM (s__law_pick) 0 (wCons (wO fAdd (wO fMul (wC (.int 2)) (wV 1)) (wC (.int 1))) (wNil))) (wV 1)
def wc__law_walker_1 : WTx := wT (wO fGt (wB fAbs (wCons (wB fSum (wCons (wV 3) (wNil))) (wNil))) (wV 2))
def wb__law_walker_1 : WSt := wAs (gN 3) (wSl (wV 3) (wP0) (wP1 (wU fNeg (wC (.int 1)))))
def w__law_walker : WSt := wSeq (wAs (gN 3) (wLc (wI fRg1 (wCons (wO fAdd (wC (.int 1)) (wCallM (s__law_pick) 0 (wCons (wC (.int 3)) (wNil)))) (wNil))) (gN 5) wYes we__law_walker_1 [5])) (wSeq (whL wc__law_walker_1 wb__law_walker_1 8) (wSeq (wAs (gN 4) (wO fIx (wB fLst (wCons (wC (.str "open")) (wCons (wC (.str "shut")) (wCons (wC (.str "turn")) (wCons (wC (.str "turn")) (wCons (wC (.str "open")) (wCons (wC (.str "look")) (wNil)))))))) (wCallM (s__law_pick) 0 (wCons (wC (.int 6)) (wNil))))) (wRet (wB fTup (wCons (wO (fI0 fun i j => .int (i - j)) (wCallM (s__law_pick) 0 (wCons (wC (.int 41)) (wNil))) (wC (.int 20))) (wCons (wIfE (wT (wO fNe (wV 3) (wB fLst (wNil)))) (wB fTupO (wCons (wV 3) (wNil))) (wB fTup (wCons (wC (.int 0)) (wNil)))) (wCons (wV 4) (wNil))))))))
def s__law_walker : FnM := semM 2 6 w__law_walker
def we__law_crew_1 : WEx := wCallM (s__law_walker) 0 (wCons (wV 1) (wCons (wV 2) (wNil)))
def w__law_crew : WSt := wRet (wB fTupO (wCons (wLc (wI fRg1 (wCons (wO fAdd (wC (.int 1)) (wCallM (s__law_pick) 0 (wCons (wC (.int 4)) (wNil)))) (wNil))) (gN 3) wYes we__law_crew_1 [3]) (wNil)))
def s__law_crew : FnM := semM 2 4 w__law_crew
def wb__law_stand_1 : WSt := wAs (gN 2) (wO fAdd (wV 2) (wO fIx (wO fIx (wV 0) (wC (.int 1))) (wV 3)))
def w__law_stand : WSt := wSeq (wAs (gN 2) (wO fAdd (wO fIx (wV 0) (wC (.int 0))) (wO fMul (wB fSum (wCons (wO fIx (wV 0) (wC (.int 1))) (wNil))) (wO fDiv (wV 1) (wB fLen (wCons (wO fIx (wV 0) (wC (.int 1))) (wNil))))))) (wSeq (wFor (wI fRg1 (wCons (wO fMod (wV 1) (wB fLen (wCons (wO fIx (wV 0) (wC (.int 1))) (wNil)))) (wNil))) (gN 3) wb__law_stand_1) (wRet (wV 2)))
def s__law_stand : Fn := semOf 2 4 w__law_stand
def wb__law_on_1 : WSt := wSeq (wAs (gN 5) (wCall (s__law_stand) (wCons (wV 4) (wCons (wV 1) (wNil))))) (wIf (wTor (wT (wO fEq (wO fIx (wV 4) (wC (.int 2))) (wC (.str "open")))) (wTand (wT (wO fEq (wO fIx (wV 4) (wC (.int 2))) (wC (.str "turn")))) (wInO true 3 (wV 5)))) (wPutO 3 (wV 5) (wC (.bl true))) (wIf (wT (wO fNe (wO fIx (wV 4) (wC (.int 2))) (wC (.str "look")))) (wDo (wPopO 3 (wV 5) (wC .non))) (wSkip)))
def wr__law_on_1 : WSt := wRet (wFz 3)
def w__law_on : WSt := wSeq (wAsDC 3 (wV 2)) (wSeq (wFor (wIt (wV 0)) (gN 4) wb__law_on_1) (wr__law_on_1))
def s__law_on : Fn := semOf 3 6 w__law_on
def wb__law_run_1 : WSt := wSeq (wAs (gN 3) (wCall (s__law_on) (wCons (wV 0) (wCons (wV 4) (wCons (wV 3) (wNil)))))) (wApp 2 (wV 3))
def wr__law_run_1 : WSt := wRet (wFz 2)
def w__law_run : WSt := wSeq (wAsLE 2 3) (wSeq (wFor (wI fRg1 (wCons (wO fAdd (wV 1) (wC (.int 1))) (wNil))) (gN 4) wb__law_run_1) (wr__law_run_1))
def s__law_run : Fn := semOf 2 5 w__law_run
def w__law_at : WSt := wSeq (wAs (gT [2, 3]) (wV 0)) (wRet (wIfE (wT (wO fLt (wV 1) (wB fLen (wCons (wV 2) (wNil))))) (wO fIx (wV 2) (wV 1)) (wO fIx (wV 3) (wO fMod (wO (fI0 fun i j => .int (i - j)) (wV 1) (wB fLen (wCons (wV 2) (wNil)))) (wB fLen (wCons (wV 3) (wNil)))))))
def s__law_at : Fn := semOf 2 4 w__law_at
def wc__law_short_1 : WTx := wTand (wT (wO fEq (wO fMod (wV 3) (wV 4)) (wC (.int 0)))) (wT (wO fEq (wO fMulU (wSl (wV 2) (wP0) (wP1 (wV 4))) (wO fDiv (wV 3) (wV 4))) (wV 2)))
def we__law_short_1 : WEx := wV 4
def wr__law_short_1 : WSt := wSeq (wAs (gN 3) (wB fLen (wCons (wV 2) (wNil)))) (wRet (wO fEq (wLc (wI fRg2 (wCons (wC (.int 1)) (wCons (wV 3) (wNil)))) (gN 4) wc__law_short_1 we__law_short_1 [4]) (wB fLst (wNil))))
def wr__law_short_2 : WSt := wSeq (wAs (gT [1, 2]) (wV 0)) (wSeq (wIf (wTor (wTnot (wT (wB fIsi (wCons (wV 2) (wCons (wC (.ty "tuple")) (wNil)))))) (wTor (wT (wO fEq (wV 2) (wB fTup (wNil)))) (wTand (wT (wO fNe (wV 1) (wB fTup (wNil)))) (wT (wO fEq (wO fIx (wV 1) (wU fNeg (wC (.int 1)))) (wO fIx (wV 2) (wU fNeg (wC (.int 1))))))))) (wRet (wC (.bl false))) (wSkip)) (wr__law_short_1))
def w__law_short : WSt := wSeq (wIf (wTor (wTnot (wT (wB fIsi (wCons (wV 0) (wCons (wC (.ty "tuple")) (wNil)))))) (wTor (wT (wO fNe (wB fLen (wCons (wV 0) (wNil))) (wC (.int 2)))) (wTnot (wT (wB fIsi (wCons (wO fIx (wV 0) (wC (.int 0))) (wCons (wC (.ty "tuple")) (wNil)))))))) (wRet (wC (.bl false))) (wSkip)) (wr__law_short_2)
def s__law_short : Fn := semOf 1 5 w__law_short
end Pg
set_option maxHeartbeats 4000000
namespace Pg
open PySem PySem.Spec PyProof.Rows L2 Ly LamX
theorem plB_tup {xs : List Dt} : plB (.tup xs) = true ↔ plBs xs = true ∧ xs.length ≤ 10000 := by
  simp [plB]
theorem plB_lst {xs : List Dt} : plB (.lst xs) = true ↔ plBs xs = true ∧ xs.length ≤ 10000 := by
  simp [plB]
/-! ### crews, as the program reads them -/
def withinB (d : Dt) (lo hi : Int) : Bool := match d with
  | .at (.int i) => decide (lo ≤ i) && decide (i ≤ hi)
  | _ => false
def wideB (d : Dt) (lo hi : Int) : Bool := match d with
  | .tup xs => decide (lo ≤ (xs.length : Int)) && decide ((xs.length : Int) ≤ hi)
  | _ => false
theorem v_is_within {d : Dt} {lo hi : Int} (h : plB d = true) : s_is_within [d, .int lo, .int hi] = some (.ok (.bl (withinB d lo hi))) := by
  unfold s_is_within semOf w_is_within
  cases d with
  | «at» v =>
    cases v <;> simp [plB] at h <;> simp [fIsi, tyN, withinB, fLe, fI0]
    rename_i i
    by_cases h1 : lo ≤ i <;> simp [h1]
  | lst xs => simp [fIsi, tyN, withinB]
  | tup xs => simp [fIsi, tyN, withinB]
  | dic xs => simp [plB] at h
  | scr xs => simp [plB] at h
theorem v_is_wide {d : Dt} {lo hi : Int} (h : plB d = true) : s_is_wide [d, .int lo, .int hi] = some (.ok (.bl (wideB d lo hi))) := by
  unfold s_is_wide semOf w_is_wide
  cases d with
  | «at» v => cases v <;> simp [plB] at h <;> simp [fIsi, tyN, wideB]
  | lst xs => simp [fIsi, tyN, wideB]
  | tup xs =>
    simp [fIsi, tyN, wideB, fLe, fI0, fLen]
    by_cases h1 : lo ≤ (xs.length : Int) <;> simp [h1]
  | dic xs => simp [plB] at h
  | scr xs => simp [plB] at h
def deedL : List Str := ["look", "open", "shut", "turn"]
def deedB (d : Dt) : Bool := match d with
  | .at (.str x) => decide (x ∈ deedL)
  | _ => false
def stepsB (d : Dt) : Bool := match d with
  | .tup ss => (decide (1 ≤ (ss.length : Int)) && decide ((ss.length : Int) ≤ 3)) && ss.all fun s => withinB s (-3) 3
  | _ => false
def walkerB (d : Dt) : Bool := match d with
  | .tup [a, b, c] => withinB a (-20) 20 && (stepsB b && deedB c)
  | _ => false
theorem bols_map {α : Type} (f : α → Bool) (xs : List α) : bolsOf (xs.map fun x => Dt.bl (f x)) = some (xs.map f) := by
  have := bolsOf_map (xs.map f)
  rw [List.map_map] at this
  exact this
theorem all_map {α : Type} (f : α → Bool) (xs : List α) : (xs.map f).all id = xs.all f := by
  induction xs with
  | nil => rfl
  | cons x xs ih => simp [ih]
def isStrB : Dt → Bool
  | .at (.str _) => true
  | _ => false
theorem fIsi_str {d : Dt} (h : plB d = true) : fIsi [d, .at (.ty "str")] = some (.bl (isStrB d)) := by
  cases d with
  | «at» v => cases v <;> simp [plB] at h <;> simp [fIsi, tyN, isStrB]
  | lst xs => simp [fIsi, tyN, isStrB]
  | tup xs => simp [fIsi, tyN, isStrB]
  | dic xs => simp [plB] at h
  | scr xs => simp [plB] at h
theorem deed_str {d : Dt} (h : isStrB d = true) : ∃ x, d = .str x := by
  unfold isStrB at h
  split at h
  · exact ⟨_, rfl⟩
  · cases h
theorem deed_no {d : Dt} (h : isStrB d = false) : deedB d = false := by
  unfold deedB
  split
  · simp [isStrB] at h
  · rfl
theorem fIn_deed (x : Str) : fIn (.str x) (.tup [.str "look", .str "open", .str "shut", .str "turn"]) = some (.bl (deedB (.str x))) := by
  simp [deedB, fIn, inB, deedL, atsOf, flatV, inV, List.any, eqV, beq_dec]
theorem v_is_walker {d : Dt} (h : plB d = true) : s_is_walker [d] = some (.ok (.bl (walkerB d))) := by
  unfold s_is_walker semOf w_is_walker
  have n3 : wideB d 3 3 = false → walkerB d = false := fun hw => by
    unfold walkerB
    split
    · rename_i a b c
      simp [wideB] at hw
    · rfl
  simp [v_is_wide h, v_is_within, fNeg]
  cases hw : wideB d 3 3 with
  | false => simp [n3 hw]
  | true =>
    have hd : ∃ a b c, d = .tup [a, b, c] := by
      unfold wideB at hw
      split at hw
      · rename_i xs
        simp at hw
        match xs, hw with
        | [a, b, c], _ => exact ⟨a, b, c, rfl⟩
        | [], hw => simp at hw
        | [a], hw => simp at hw
        | [a, b], hw => simp at hw
        | a :: b :: c :: e :: r, hw => simp at hw; omega
      · cases hw
    obtain ⟨a, b, c, rfl⟩ := hd
    simp only [plB, plBs, Bool.and_eq_true, Bool.and_true] at h
    obtain ⟨⟨ha, hb, hc⟩, _⟩ := h
    have hW : walkerB (.tup [a, b, c]) = (withinB a (-20) 20 && (stepsB b && deedB c)) := rfl
    simp [v_is_within ha, v_is_wide hb]
    cases hwa : withinB a (-20) 20 with
    | false => simp [hW, hwa]
    | true =>
      cases hwb : wideB b 1 3 with
      | false =>
        have : stepsB b = false := by
          unfold wideB at hwb
          unfold stepsB
          split at hwb
          · simp at hwb ⊢; intro h1 h2; omega
          · simp_all
        simp [hW, this]
      | true =>
        have hbt : ∃ ss, b = .tup ss := by
          unfold wideB at hwb
          split at hwb
          · exact ⟨_, rfl⟩
          · cases hwb
        obtain ⟨ss, rfl⟩ := hbt
        have hss : plBs ss = true := by
          simp only [plB, Bool.and_eq_true] at hb; exact hb.1
        have hS : stepsB (.tup ss) = ss.all fun s => withinB s (-3) 3 := by
          have h2 : (decide (1 ≤ (ss.length : Int)) && decide ((ss.length : Int) ≤ 3)) = true := hwb
          show ((decide (1 ≤ (ss.length : Int)) && decide ((ss.length : Int) ≤ 3)) && ss.all fun s => withinB s (-3) 3) = _
          rw [h2, Bool.true_and]
        have hl : lcL (gN 1) wYes we_is_walker_1 [1] ss [some (.v (.tup [a, .tup ss, c])), none] = some (ss.map fun s => .bl (withinB s (-3) 3), [some (.v (.tup [a, .tup ss, c])), none]) := by
          exact lcL_map (fun s => .bl (withinB s (-3) 3)) fun s hs => ⟨[some (.v (.tup [a, .tup ss, c])), some (.v s)], by simp, by simp [we_is_walker_1, fNeg, v_is_within (plBs_mem hss hs)], by simp⟩
        simp [hl, fAll, bols_map, all_map, hW, hwa, hS]
        cases hq : ss.all fun s => withinB s (-3) 3 with
        | false => simp
        | true =>
          cases hs : isStrB c with
          | false => simp [fIsi_str hc, hs, deed_no hs]
          | true =>
            obtain ⟨x, rfl⟩ := deed_str hs
            simp [fIsi_str hc, hs, fIn_deed]
def fitB (d : Dt) : Bool := match d with
  | .tup ws => (decide (1 ≤ (ws.length : Int)) && decide ((ws.length : Int) ≤ 4)) && ws.all walkerB
  | _ => false
theorem v_is_fit {d : Dt} (h : plB d = true) : s_is_fit [d] = some (.ok (.bl (fitB d))) := by
  unfold s_is_fit semOf w_is_fit
  simp [v_is_wide h]
  cases hw : wideB d 1 4 with
  | false =>
    have : fitB d = false := by
      unfold wideB at hw
      unfold fitB
      split at hw
      · simp at hw ⊢; intro h1 h2; omega
      · simp_all
    simp [this]
  | true =>
    have ht : ∃ ss, d = .tup ss := by
      unfold wideB at hw
      split at hw
      · exact ⟨_, rfl⟩
      · cases hw
    obtain ⟨ss, rfl⟩ := ht
    have hss : plBs ss = true := by
      simp only [plB, Bool.and_eq_true] at h; exact h.1
    have hF : fitB (.tup ss) = ss.all walkerB := by
      have h2 : (decide (1 ≤ (ss.length : Int)) && decide ((ss.length : Int) ≤ 4)) = true := hw
      show ((decide (1 ≤ (ss.length : Int)) && decide ((ss.length : Int) ≤ 4)) && ss.all walkerB) = _
      rw [h2, Bool.true_and]
    have hl : lcL (gN 1) wYes we_is_fit_1 [1] ss [some (.v (.tup ss)), none] = some (ss.map fun s => .bl (walkerB s), [some (.v (.tup ss)), none]) :=
      lcL_map (fun s => .bl (walkerB s)) fun s hs => ⟨[some (.v (.tup ss)), some (.v s)], by simp, by simp [we_is_fit_1, v_is_walker (plBs_mem hss hs)], by simp⟩
    simp [hl, fAll, bols_map, all_map, hF]
end Pg
set_option maxHeartbeats 4000000
namespace Pg
open PySem PySem.Spec PyProof.Rows L2 Ly LamX
/-! ### twins -/
def kindN : Dt → Int
  | .at .non => 0
  | .at (.bl _) => 1
  | .lst _ => 2
  | .tup _ => 3
  | .at (.int _) => 4
  | .at (.str _) => 5
  | _ => 6
theorem v__law_kind {d : Dt} (h : plB d = true) : s__law_kind [d] = some (.ok (.int (kindN d))) := by
  unfold s__law_kind semOf w__law_kind
  cases d with
  | «at» v => cases v <;> simp [plB] at h <;> simp [fIs, fIsi, tyN, kindN, kitAll, Ly.isNon]
  | lst xs => simp [fIs, fIsi, tyN, kindN, kitAll, Ly.isNon]
  | tup xs => simp [fIs, fIsi, tyN, kindN, kitAll, Ly.isNon]
  | dic xs => simp [plB] at h
  | scr xs => simp [plB] at h
theorem zip_mem : ∀ {xs : List Dt} {z : Dt}, z ∈ zipL xs xs → ∃ y ∈ xs, z = .tup [y, y]
  | [], z, h => by simp [zipL] at h
  | x :: xs, z, h => by
    rw [zipL] at h
    rcases List.mem_cons.mp h with e | e
    · exact ⟨x, List.mem_cons_self, e⟩
    · obtain ⟨y, hy, hz⟩ := zip_mem e
      exact ⟨y, List.mem_cons_of_mem _ hy, hz⟩
theorem fIn23 (k : Int) : fIn (.int k) (.lst [.int 2, .int 3]) = some (.bl (decide (k = 2) || decide (k = 3))) := by
  simp [fIn, inB, atsOf, flatV, inV, List.any, eqV]
  by_cases h1 : k = 2 <;> by_cases h2 : k = 3 <;> simp [h1, h2] <;> omega
theorem v_twins : ∀ (D : Nat) (d : Dt), plB d = true → dep d < D → dep d ≤ 50 → s__law_twins D [d, d] = some (.ok (.bl true))
  | 0, d, _, h, _ => absurd h (Nat.not_lt_zero _)
  | D + 1, d, hp, hD, h50 => by
    have hk := v__law_kind hp
    have seq : ∀ xs : List Dt, plBs xs = true → deps xs < D → deps xs ≤ 50 → lcL (gT [2, 3]) (wc__law_twins_1 (s__law_twins D)) (we__law_twins_1 (s__law_twins D)) [2, 3] (zipL xs xs) [some (.v d), some (.v d), none, none] = some ([], [some (.v d), some (.v d), none, none]) := fun xs hx h1 h2 => by
      have := lcL_pure (g := gT [2, 3]) (c := wc__law_twins_1 (s__law_twins D)) (t := we__law_twins_1 (s__law_twins D)) (own := [2, 3]) (e0 := [some (.v d), some (.v d), none, none]) (fun _ => false) id (xs := zipL xs xs) fun z hz => by
        obtain ⟨y, hy, rfl⟩ := zip_mem hz
        have ih := v_twins D y (plBs_mem hx hy) (Nat.lt_of_le_of_lt (deps_mem hy) h1) (Nat.le_trans (deps_mem hy) h2)
        exact ⟨[some (.v d), some (.v d), some (.v y), some (.v y)], by simp, by simp [wc__law_twins_1, ih], (fun h => nomatch h), by simp⟩
      rw [this]
      simp
    have nil2 : fEq (.lst []) (.lst []) = some (.bl true) := fEq_lnil (by simp [plBs]) (by simp) (by simp [deps])
    unfold s__law_twins semOf w__law_twins
    cases d with
    | «at» v =>
      have hs : fEq (.at v) (.at v) = some (.bl true) := by rw [fEq_pl hp hp (by simp [dep]) (by simp [dep]), eqD_self hp]
      have k23 : kindN (.at v) ≠ 2 ∧ kindN (.at v) ≠ 3 := by cases v <;> simp [kindN]
      simp [hk, fIn23, k23.1, k23.2, hs, PySem.sizeLine_eq]
    | lst xs =>
      have hx := (plB_lst.mp hp).1
      have := seq xs hx (by rw [dep] at hD; omega) (by rw [dep] at h50; omega)
      simp [hk, fIn23, kindN, fZp, this, nil2, PySem.sizeLine_eq]
    | tup xs =>
      have hx := (plB_tup.mp hp).1
      have := seq xs hx (by rw [dep] at hD; omega) (by rw [dep] at h50; omega)
      simp [hk, fIn23, kindN, fZp, this, nil2, PySem.sizeLine_eq]
    | dic xs => simp [plB] at hp
    | scr xs => simp [plB] at hp
end Pg
set_option maxHeartbeats 4000000
namespace Pg
open PySem PySem.Spec PyProof.Rows L2 Ly LamX
/-! ### the spring -/
def SpI (xs : List Dt) : Prop := ∃ c m : Int, xs = [.int c, .int m]
@[simp] theorem atI_0 (a : Dt) (r : List Dt) : atI (a :: r) 0 = some a := atI_nat (i := 0) rfl
@[simp] theorem atI_1 (a b : Dt) (r : List Dt) : atI (a :: b :: r) 1 = some b := atI_nat (i := 1) rfl
theorem v__law_spring (ns : List Int) (k : Nat) : ∃ xs, s__law_spring [.scr ns, .int (k : Int)] = some (.ok xs) ∧ SpI xs := by
  unfold s__law_spring semO w__law_spring
  have m1 : ∀ i : Int, fMul (.int i) (.int 863) = some (.int (i * 863)) := fun i => fMul_int (.inr (by decide))
  have m2 : ∀ i : Int, fMul (.int 524287) (.int i) = some (.int (524287 * i)) := fun i => fMul_int (.inl (by decide))
  have m3 : ∀ i : Int, fMod (.int i) (.int 999999999989) = some (.int (i.fmod 999999999989)) := fun i => fMod_int (by decide)
  have m4 : fPow (.int 10) (.int 18) = some (.int (10 ^ 18)) := fPow_int (by decide)
  by_cases h : k < ns.length
  · have hx := fIx_sn (List.getElem?_eq_getElem h)
    have hlt : ((k : Int) < (ns.length : Int)) := by omega
    simp [hx, hlt, fAbs, m1, m2, m3, m4, PySem.sizeLine_eq]
    generalize decide (1000000000000000000 ≤ if ns[k] < 0 then -ns[k] else ns[k]) = b
    cases b <;> simp <;> exact ⟨_, _, rfl⟩
  · have hlt : ¬ ((k : Int) < (ns.length : Int)) := by omega
    simp [hlt, m1, m2, m3, m4, PySem.sizeLine_eq]
    exact ⟨_, _, rfl⟩
theorem v__law_pick {xs : List Dt} (h : SpI xs) {k : Int} (h0 : 0 < k) (h1 : k < 1073741824) : ∃ r ys, s__law_pick xs [.int k] = some (.ok (.int r) ys) ∧ 0 ≤ r ∧ r < k ∧ SpI ys := by
  obtain ⟨c, m, rfl⟩ := h
  unfold s__law_pick semM w__law_pick
  have d1 : ∀ i : Int, fDiv (.int i) (.int k) = some (.int (i.fdiv k)) := fun i => fDiv_int ⟨by omega, by omega⟩
  have d2 : ∀ i : Int, fMod (.int i) (.int k) = some (.int (i.fmod k)) := fun i => fMod_int (by omega)
  have m1 : ∀ i : Int, fMul (.int i) (.int 393555900739) = some (.int (i * 393555900739)) := fun i => fMul_int (.inr (by decide))
  have m3 : ∀ i : Int, fMod (.int i) (.int 999999999989) = some (.int (i.fmod 999999999989)) := fun i => fMod_int (by decide)
  have m4 : ∀ i : Int, fDiv (.int i) (.int 4093) = some (.int (i.fdiv 4093)) := fun i => fDiv_int (by decide)
  have hr : ∀ i : Int, 0 ≤ i.fmod k ∧ i.fmod k < k := fun i => ⟨Int.fmod_nonneg_of_pos i h0, Int.fmod_lt_of_pos i h0⟩
  by_cases hc : 0 < c
  · refine ⟨c.fmod k, [.int (c.fdiv k), .int m], ?_, (hr c).1, (hr c).2, _, _, rfl⟩
    simp [hc, d1, d2, ixN]
  · refine ⟨(((m * 393555900739 + 8191).fmod 999999999989).fdiv 4093).fmod k, [.int c, .int ((m * 393555900739 + 8191).fmod 999999999989)], ?_, (hr _).1, (hr _).2, _, _, rfl⟩
    simp [hc, d1, d2, m1, m3, m4, ixN]

/-! ### walkers, crews -/
structure Wk where
  p : Int
  s : List Int
  d : Str
def Wk.dt (w : Wk) : Dt := .tup [.int w.p, .tup (w.s.map Dt.int), .str w.d]
def Wk.good (w : Wk) : Prop := -20 ≤ w.p ∧ w.p ≤ 20 ∧ 1 ≤ w.s.length ∧ w.s.length ≤ 3 ∧ (∀ x ∈ w.s, -3 ≤ x ∧ x ≤ 3) ∧ w.d ∈ deedL
def crewD (c : List Wk) : Dt := .tup (c.map Wk.dt)
def goodC (c : List Wk) : Prop := 1 ≤ c.length ∧ c.length ≤ 4 ∧ ∀ w ∈ c, w.good
theorem fSum_l (ns : List Int) : fSum [.lst (ns.map Dt.int)] = some (.int ns.sum) := by simp [fSum, intsOf_map]
theorem fSum_t (ns : List Int) : fSum [.tup (ns.map Dt.int)] = some (.int ns.sum) := by simp [fSum, intsOf_map]
theorem pls_ints (ns : List Int) : plBs (ns.map Dt.int) = true := plBs_of fun x hx => by
  obtain ⟨n, _, rfl⟩ := List.mem_map.mp hx
  simp [plB]
theorem deps_ints (ns : List Int) : deps (ns.map Dt.int) = 0 := Nat.le_zero.mp (deps_le fun x hx => by
  obtain ⟨n, _, rfl⟩ := List.mem_map.mp hx
  simp [dep])
theorem cut_ints (ns : List Int) (lo hi : Option Int) : cutG (ns.map Dt.int) lo hi = (cutG ns lo hi).map Dt.int := by
  unfold cutG
  rw [List.length_map, List.map_take, List.map_drop]
theorem cut_m1 (ns : List Int) : cutG ns none (some (-1)) = ns.dropLast := by
  have h1 : HT.sIx ns.length 0 none = 0 := rfl
  have h2 : HT.sIx ns.length ns.length (some (-1)) = ns.length - 1 := by
    show (if (-1 : Int) < 0 then ((-1 : Int) + (ns.length : Int)).toNat else min (-1 : Int).toNat ns.length) = _
    rw [if_pos (by decide)]; omega
  unfold cutG
  rw [h1, h2, List.drop_zero, Nat.sub_zero, List.dropLast_eq_take]
theorem sum_bound : ∀ {ns : List Int} {b : Int}, (∀ x ∈ ns, -b ≤ x ∧ x ≤ b) → -(b * ns.length) ≤ ns.sum ∧ ns.sum ≤ b * ns.length
  | [], b, _ => by simp
  | n :: ns, b, h => by
    have h1 := h n List.mem_cons_self
    have h2 := sum_bound fun x hx => h x (List.mem_cons_of_mem _ hx)
    have e : b * ((n :: ns).length : Int) = b + b * (ns.length : Int) := by
      rw [List.length_cons]; push_cast; rw [Int.mul_add]; omega
    rw [List.sum_cons, e]
    omega
theorem ints_of {Q : Int → Prop} : ∀ {ys : List Dt}, (∀ y ∈ ys, ∃ i : Int, y = .int i ∧ Q i) → ∃ ns : List Int, ys = ns.map Dt.int ∧ ∀ n ∈ ns, Q n
  | [], _ => ⟨[], rfl, fun _ h => nomatch h⟩
  | y :: ys, h => by
    obtain ⟨i, rfl, hi⟩ := h y List.mem_cons_self
    obtain ⟨ns, rfl, hn⟩ := ints_of fun z hz => h z (List.mem_cons_of_mem _ hz)
    refine ⟨i :: ns, rfl, fun n hx => ?_⟩
    rcases List.mem_cons.mp hx with e | e
    · rw [e]; exact hi
    · exact hn n e
theorem fRg1_int {j : Int} (h1 : -1000000 ≤ j) (h2 : j ≤ 1000000) : fRg1 [.int j] = some (rgL 0 j.toNat) := if_pos ⟨h1, h2⟩
theorem walk_while {s0 s1 s4 s5 : Option Sl} {far : Int} (hf : 0 ≤ far) : ∀ (n : Nat) (ss : List Int), ss.length < n → ∃ tt : List Int, whL wc__law_walker_1 wb__law_walker_1 n [s0, s1, some (.v (.int far)), some (.v (.lst (ss.map Dt.int))), s4, s5] = some (.nx [s0, s1, some (.v (.int far)), some (.v (.lst (tt.map Dt.int))), s4, s5]) ∧ (∀ x ∈ tt, x ∈ ss) ∧ -far ≤ tt.sum ∧ tt.sum ≤ far ∧ tt.length ≤ ss.length
  | 0, ss, h => absurd h (Nat.not_lt_zero _)
  | n + 1, ss, h => by
    have hc : wc__law_walker_1 [s0, s1, some (.v (.int far)), some (.v (.lst (ss.map Dt.int))), s4, s5] = some (.ok (decide (far < if ss.sum < 0 then -ss.sum else ss.sum)) [s0, s1, some (.v (.int far)), some (.v (.lst (ss.map Dt.int))), s4, s5]) := by
      simp [wc__law_walker_1, fSum_l, fAbs]
    by_cases hq : far < if ss.sum < 0 then -ss.sum else ss.sum
    · have hne : ss ≠ [] := fun z => by subst z; simp at hq; omega
      have hl : ss.dropLast.length < n := by
        rw [List.length_dropLast]
        have : 0 < ss.length := List.length_pos_iff.mpr hne
        omega
      obtain ⟨tt, h1, h2, h3, h4, h5⟩ := walk_while (s0 := s0) (s1 := s1) (s4 := s4) (s5 := s5) hf n ss.dropLast hl
      refine ⟨tt, ?_, fun x hx => List.dropLast_subset _ (h2 x hx), h3, h4, Nat.le_trans h5 (by rw [List.length_dropLast]; omega)⟩
      rw [whL_succ, hc, decide_eq_true hq]
      have hb : wb__law_walker_1 [s0, s1, some (.v (.int far)), some (.v (.lst (ss.map Dt.int))), s4, s5] = some (.nx [s0, s1, some (.v (.int far)), some (.v (.lst (ss.dropLast.map Dt.int))), s4, s5]) := by
        simp [wb__law_walker_1, intOf, fSl, cut_ints, cut_m1]
      simp only [bns_ok, hb]
      exact h1
    · refine ⟨ss, ?_, fun x hx => hx, by split at hq <;> omega, by split at hq <;> omega, Nat.le_refl _⟩
      rw [whL_succ, hc, decide_eq_false hq]
      simp only [bns_ok]
theorem deed_of {r : Int} (h0 : 0 ≤ r) (h1 : r < 6) : ∃ x : Str, fIx (.lst [.str "open", .str "shut", .str "turn", .str "turn", .str "open", .str "look"]) (.int r) = some (.str x) ∧ x ∈ deedL := by
  have : r = 0 ∨ r = 1 ∨ r = 2 ∨ r = 3 ∨ r = 4 ∨ r = 5 := by omega
  rcases this with rfl | rfl | rfl | rfl | rfl | rfl
  · exact ⟨_, fIx_ln (i := 0) rfl, by simp [deedL]⟩
  · exact ⟨_, fIx_ln (i := 1) rfl, by simp [deedL]⟩
  · exact ⟨_, fIx_ln (i := 2) rfl, by simp [deedL]⟩
  · exact ⟨_, fIx_ln (i := 3) rfl, by simp [deedL]⟩
  · exact ⟨_, fIx_ln (i := 4) rfl, by simp [deedL]⟩
  · exact ⟨_, fIx_ln (i := 5) rfl, by simp [deedL]⟩
theorem rgL_len (lo : Int) (n : Nat) : (rgL lo n).length = n := by simp [rgL]
theorem v__law_walker {xs : List Dt} (h : SpI xs) {wide far : Int} (w0 : 0 ≤ wide) (w3 : wide ≤ 3) (hf : 0 ≤ far) : ∃ w ys, s__law_walker xs [.int wide, .int far] = some (.ok (Wk.dt w) ys) ∧ w.good ∧ -far ≤ w.s.sum ∧ w.s.sum ≤ far ∧ SpI ys := by
  unfold s__law_walker semM w__law_walker
  obtain ⟨r1, y1, p1, a1, b1, q1⟩ := v__law_pick h (k := 3) (by decide) (by decide)
  have hrg : fRg1 [.int (1 + r1)] = some (rgL 0 (1 + r1).toNat) := fRg1_int (by omega) (by omega)
  have m2 : fMul (.int 2) (.int wide) = some (.int (2 * wide)) := fMul_int (.inl (by decide))
  obtain ⟨zs, e2, c1, c2, ⟨y2, q2, rfl⟩, c3⟩ := lcL_all (g := gN 5) (t := we__law_walker_1) (own := [5]) (fun e => ∃ ys, SpI ys ∧ e = [some (.m ys), some (.v (.int wide)), some (.v (.int far)), none, none, none]) (fun y => ∃ i : Int, y = .int i ∧ (-wide ≤ i ∧ i ≤ wide)) (xs := rgL 0 (1 + r1).toNat)
    (e0 := [some (.m y1), some (.v (.int wide)), some (.v (.int far)), none, none, none]) (fun x hx e he => by
      obtain ⟨ys, hy, rfl⟩ := he
      obtain ⟨r, zs, p, a, b, q⟩ := v__law_pick hy (k := 2 * wide + 1) (by omega) (by omega)
      refine ⟨_, rfl, .int (r - wide), [some (.m zs), some (.v (.int wide)), some (.v (.int far)), none, none, some (.v x)], ?_, ⟨_, rfl, by omega, by omega⟩, zs, q, by simp⟩
      simp [we__law_walker_1, m2, p]) ⟨y1, q1, rfl⟩
  obtain ⟨ns, rfl, hn⟩ := ints_of c2
  have hl : ns.length = (1 + r1).toNat := by
    rw [List.length_map, rgL_len] at c3; exact c3
  obtain ⟨tt, d1, d2, d3, d4, d5⟩ := walk_while (s0 := some (.m y2)) (s1 := some (.v (.int wide))) (s4 := none) (s5 := none) hf 8 ns (by omega)
  obtain ⟨r3, y3, p3, a3, b3, q3⟩ := v__law_pick q2 (k := 6) (by decide) (by decide)
  obtain ⟨dd, hd1, hd2⟩ := deed_of a3 b3
  obtain ⟨r4, y4, p4, a4, b4, q4⟩ := v__law_pick q3 (k := 41) (by decide) (by decide)
  have hne := fNe_lnil (xs := tt.map Dt.int) (pls_ints tt) (by rw [List.length_map]; omega) (by rw [deps_ints]; omega)
  have big : ∀ {x : Int}, x ∈ tt → -3 ≤ x ∧ x ≤ 3 := fun {x} hx => by
    have := hn x (d2 x hx); omega
  cases tt with
  | nil =>
    refine ⟨⟨r4 - 20, [0], dd⟩, y4, ?_, ⟨show -20 ≤ r4 - 20 by omega, show r4 - 20 ≤ 20 by omega, by simp, by simp, by simp, hd2⟩, by simp; omega, by simp; omega, q4⟩
    have hne' : fNe (.lst []) (.lst []) = some (.bl false) := by simpa using hne
    simp [-whL_succ, p1, hrg, c1, d1, hd1, p3, p4, hne', PySem.sizeLine_eq, Wk.dt]
  | cons t tt =>
    refine ⟨⟨r4 - 20, t :: tt, dd⟩, y4, ?_, ⟨show -20 ≤ r4 - 20 by omega, show r4 - 20 ≤ 20 by omega, by simp, by simp at d5 ⊢; omega, fun x hx => big hx, hd2⟩, d3, d4, q4⟩
    have hne' : fNe (.lst (.int t :: tt.map Dt.int)) (.lst []) = some (.bl true) := by simpa using hne
    simp [-whL_succ, p1, hrg, c1, d1, hd1, p3, p4, hne', PySem.sizeLine_eq, Wk.dt, fTupO]
/-! ### crews drawn, values bent -/
theorem wks_of {Q : Wk → Prop} : ∀ {ys : List Dt}, (∀ y ∈ ys, ∃ w : Wk, y = w.dt ∧ Q w) → ∃ ws : List Wk, ys = ws.map Wk.dt ∧ ∀ w ∈ ws, Q w
  | [], _ => ⟨[], rfl, fun _ h => nomatch h⟩
  | y :: ys, h => by
    obtain ⟨i, rfl, hi⟩ := h y List.mem_cons_self
    obtain ⟨ns, rfl, hn⟩ := wks_of fun z hz => h z (List.mem_cons_of_mem _ hz)
    refine ⟨i :: ns, rfl, fun n hx => ?_⟩
    rcases List.mem_cons.mp hx with e | e
    · rw [e]; exact hi
    · exact hn n e
theorem v__law_crew {xs : List Dt} (h : SpI xs) {wide far : Int} (w0 : 0 ≤ wide) (w3 : wide ≤ 3) (hf : 0 ≤ far) : ∃ c ys, s__law_crew xs [.int wide, .int far] = some (.ok (crewD c) ys) ∧ goodC c ∧ (∀ w ∈ c, -far ≤ w.s.sum ∧ w.s.sum ≤ far) ∧ SpI ys := by
  unfold s__law_crew semM w__law_crew
  obtain ⟨r1, y1, p1, a1, b1, q1⟩ := v__law_pick h (k := 4) (by decide) (by decide)
  have hrg : fRg1 [.int (1 + r1)] = some (rgL 0 (1 + r1).toNat) := fRg1_int (by omega) (by omega)
  obtain ⟨zs, e2, c1, c2, ⟨y2, q2, rfl⟩, c3⟩ := lcL_all (g := gN 3) (t := we__law_crew_1) (own := [3]) (fun e => ∃ ys, SpI ys ∧ e = [some (.m ys), some (.v (.int wide)), some (.v (.int far)), none]) (fun y => ∃ w : Wk, y = w.dt ∧ (w.good ∧ -far ≤ w.s.sum ∧ w.s.sum ≤ far)) (xs := rgL 0 (1 + r1).toNat)
    (e0 := [some (.m y1), some (.v (.int wide)), some (.v (.int far)), none]) (fun x hx e he => by
      obtain ⟨ys, hy, rfl⟩ := he
      obtain ⟨w, zs, p, a, b, c, q⟩ := v__law_walker hy w0 w3 hf
      refine ⟨_, rfl, w.dt, [some (.m zs), some (.v (.int wide)), some (.v (.int far)), some (.v x)], ?_, ⟨_, rfl, a, b, c⟩, zs, q, by simp⟩
      simp [we__law_crew_1, p]) ⟨y1, q1, rfl⟩
  obtain ⟨c, rfl, hc⟩ := wks_of c2
  have hl : c.length = (1 + r1).toNat := by
    rw [List.length_map, rgL_len] at c3; exact c3
  refine ⟨c, y2, ?_, ⟨by omega, by omega, fun w hw => (hc w hw).1⟩, fun w hw => (hc w hw).2, q2⟩
  simp [p1, hrg, c1, fTupO, crewD]
end Pg
set_option maxHeartbeats 4000000
namespace Pg
open PySem PySem.Spec PyProof.Rows L2 Ly LamX
mutual
def wd : Dt → Nat
  | .lst xs => max xs.length (wds xs)
  | .tup xs => max xs.length (wds xs)
  | _ => 0
def wds : List Dt → Nat
  | [] => 0
  | x :: xs => max (wd x) (wds xs)
end
theorem wds_mem : ∀ {xs : List Dt} {x : Dt}, x ∈ xs → wd x ≤ wds xs
  | [], _, h => nomatch h
  | y :: ys, x, hx => by
    rw [wds]
    rcases List.mem_cons.mp hx with e | e
    · rw [e]; exact Nat.le_max_left _ _
    · exact Nat.le_trans (wds_mem e) (Nat.le_max_right _ _)
theorem cut_mem {α : Type} {xs : List α} {lo hi : Option Int} {x : α} (h : x ∈ cutG xs lo hi) : x ∈ xs := by
  unfold cutG at h
  exact List.mem_of_mem_drop (List.mem_of_mem_take h)
theorem cut_len {α : Type} (xs : List α) (lo hi : Option Int) : (cutG xs lo hi).length ≤ xs.length := by
  unfold cutG
  rw [List.length_take, List.length_drop]; omega
theorem fSl_t (xs : List Dt) (lo hi : Option Int) : fSl (.tup xs) lo hi = some (.tup (cutG xs lo hi)) := rfl
theorem fAdd_t {a b : List Dt} (h : a.length + b.length ≤ 16777216) : fAdd (.tup a) (.tup b) = some (.tup (a ++ b)) := if_pos h
theorem fAdd_l {a b : List Dt} (h : a.length + b.length ≤ 16777216) : fAdd (.lst a) (.lst b) = some (.lst (a ++ b)) := if_pos h
/-! ### places -/
theorem wk_pl {w : Wk} (h : w.good) : plB w.dt = true ∧ dep w.dt ≤ 2 ∧ wd w.dt ≤ 3 ∧ walkerB w.dt = true := by
  obtain ⟨h1, h2, h3, h4, h5, h6⟩ := h
  have hd : plB (.str w.d) = true := by
    have : (deedL.all fun x => plB (.str x)) = true := by decide +kernel
    exact List.all_eq_true.mp this _ h6
  have ws : wds (w.s.map Dt.int) = 0 := by
    have : ∀ l : List Int, wds (l.map Dt.int) = 0 := fun l => by
      induction l with
      | nil => rfl
      | cons a l ih => rw [List.map_cons, wds, ih]; simp [wd]
    exact this _
  refine ⟨?_, ?_, ?_, ?_⟩
  · unfold Wk.dt
    rw [plB_tup]
    refine ⟨?_, by simp⟩
    have : plB (.tup (w.s.map Dt.int)) = true := plB_tup.mpr ⟨pls_ints _, by rw [List.length_map]; omega⟩
    simp only [plBs, this, hd]
    simp [plB]
  · unfold Wk.dt
    simp [dep, deps, deps_ints]
  · unfold Wk.dt
    simp [wd, wds, ws]
    omega
  · show (withinB (.int w.p) (-20) 20 && (stepsB (.tup (w.s.map Dt.int)) && deedB (.str w.d))) = true
    have a1 : withinB (.int w.p) (-20) 20 = true := by simp [withinB, h1, h2]
    have a2 : deedB (.str w.d) = true := by simp [deedB, h6]
    have a3 : stepsB (.tup (w.s.map Dt.int)) = true := by
      simp only [stepsB, List.length_map]
      rw [decide_eq_true (by omega), decide_eq_true (by omega), List.all_map]
      simp only [Bool.true_and, List.all_eq_true]
      intro x hx
      have := h5 x hx
      simp [withinB, this.1, this.2]
    rw [a1, a2, a3]; rfl
theorem crew_pl {c : List Wk} (h : goodC c) : plB (crewD c) = true ∧ dep (crewD c) ≤ 3 ∧ wd (crewD c) ≤ 100 ∧ fitB (crewD c) = true := by
  obtain ⟨h1, h2, h3⟩ := h
  refine ⟨plB_tup.mpr ⟨plBs_of fun x hx => ?_, by rw [List.length_map]; omega⟩, ?_, ?_, ?_⟩
  · obtain ⟨w, hw, rfl⟩ := List.mem_map.mp hx
    exact (wk_pl (h3 w hw)).1
  · unfold crewD
    rw [dep]
    have : deps (c.map Wk.dt) ≤ 2 := deps_le fun x hx => by
      obtain ⟨w, hw, rfl⟩ := List.mem_map.mp hx
      exact (wk_pl (h3 w hw)).2.1
    omega
  · unfold crewD
    rw [wd, List.length_map]
    have wl : ∀ l : List Wk, (∀ w ∈ l, w.good) → wds (l.map Wk.dt) ≤ 3 := fun l => by
      induction l with
      | nil => intro _; simp [wds]
      | cons a l ih =>
        intro hl
        rw [List.map_cons, wds]
        exact Nat.max_le.mpr ⟨(wk_pl (hl a List.mem_cons_self)).2.2.1, ih fun w hw => hl w (List.mem_cons_of_mem _ hw)⟩
    have := wl c h3
    omega
  · show ((decide (1 ≤ ((c.map Wk.dt).length : Int)) && decide (((c.map Wk.dt).length : Int) ≤ 4)) && (c.map Wk.dt).all walkerB) = true
    rw [List.length_map, decide_eq_true (by omega), decide_eq_true (by omega), List.all_map]
    simp only [Bool.true_and, List.all_eq_true]
    intro w hw
    exact (wk_pl (h3 w hw)).2.2.2
theorem v_look_crew {c : List Wk} (h : goodC c) : s_look_at_crew [crewD c] = some (.ok .non) := by
  unfold s_look_at_crew semOf w_look_at_crew
  obtain ⟨h1, h2, h3, h4⟩ := crew_pl h
  simp [v_is_fit h1, h4]
theorem v_look_walker {c : List Wk} {d : Dt} (hd : plB d = true) : s_look_at_walker [crewD c, d] = if withinB d 0 ((c.length : Int) - 1) = true then some (.ok .non) else some (.er "InvalidWalker") := by
  unfold s_look_at_walker semOf w_look_at_walker crewD
  simp [v_is_within hd]
  cases withinB d 0 ((c.length : Int) - 1) <;> simp
theorem v_look_beat {d : Dt} (hd : plB d = true) : s_look_at_beat [d] = if withinB d 0 (10 ^ 30) = true then some (.ok .non) else some (.er "InvalidBeat") := by
  unfold s_look_at_beat semOf w_look_at_beat
  have e : (1000000000000000000000000000000 : Int) = 10 ^ 30 := by decide
  simp [v_is_within hd]
  by_cases hb : withinB d 0 1000000000000000000000000000000 = true
  · simp [hb]
  · simp [hb]
def Wk.pos (w : Wk) (b : Int) : Int := w.p + b.fdiv w.s.length * w.s.sum + (w.s.take (b.fmod w.s.length).toNat).sum
theorem cut_take {α : Type} {xs : List α} {r : Int} (h : 0 ≤ r) : cutG xs none (some r) = xs.take r.toNat := by
  have h1 : HT.sIx xs.length 0 none = 0 := rfl
  have h2 : HT.sIx xs.length xs.length (some r) = min r.toNat xs.length := by
    show (if r < 0 then (r + (xs.length : Int)).toNat else min r.toNat xs.length) = _
    rw [if_neg (by omega)]
  unfold cutG
  rw [h1, h2, List.drop_zero, Nat.sub_zero]
  by_cases hl : r.toNat ≤ xs.length
  · rw [Nat.min_eq_left hl]
  · rw [Nat.min_eq_right (by omega), List.take_of_length_le (Nat.le_refl _), List.take_of_length_le (by omega)]
theorem sum_small {w : Wk} (h : w.good) : -9 ≤ w.s.sum ∧ w.s.sum ≤ 9 := by
  obtain ⟨h1, h2, h3, h4, h5, h6⟩ := h
  have := sum_bound (b := 3) h5
  omega
theorem v_stands {w : Wk} (h : w.good) (b : Int) : s_stands_at [w.dt, .int b] = some (.ok (.int (w.pos b))) := by
  have hs := sum_small h
  obtain ⟨h1, h2, h3, h4, h5, h6⟩ := h
  unfold s_stands_at semOf w_stands_at Wk.dt
  have d1 : fDiv (.int b) (.int (w.s.length : Int)) = some (.int (b.fdiv w.s.length)) := fDiv_int ⟨by omega, by omega⟩
  have d2 : fMod (.int b) (.int (w.s.length : Int)) = some (.int (b.fmod w.s.length)) := fMod_int (by omega)
  have d3 : fMul (.int (b.fdiv w.s.length)) (.int w.s.sum) = some (.int (b.fdiv w.s.length * w.s.sum)) := fMul_int (.inr (by omega))
  have d4 : 0 ≤ b.fmod w.s.length := Int.fmod_nonneg_of_pos b (by omega)
  have d5 : fSl (.tup (w.s.map Dt.int)) none (some (b.fmod w.s.length)) = some (.tup ((w.s.take (b.fmod w.s.length).toNat).map Dt.int)) := by
    rw [fSl_t, cut_take d4, List.map_take]
  simp [d1, d2, d3, fSum_t, intOf, d5, -List.map_take, Wk.pos]
/-! ### subscripts of crews, places step by step -/
theorem plB_int (i : Int) : plB (.int i) = true := by simp [plB]
theorem crew_ix {c : List Wk} {i : Nat} {w : Wk} (hi : c[i]? = some w) : fIx (crewD c) (.int i) = some w.dt := fIx_tn (by rw [List.getElem?_map, hi]; rfl)
theorem take_succ_sum (s : List Int) {k : Nat} (h : k < s.length) : (s.take (k + 1)).sum = (s.take k).sum + s[k] := by
  rw [List.take_succ, List.getElem?_eq_getElem h, List.sum_append]
  simp
theorem rgL_get {lo : Int} {n i : Nat} {d : Dt} (h : (rgL lo n)[i]? = some d) : i < n ∧ d = .int (lo + i) := by
  have hl := (List.getElem?_eq_some_iff.mp h).1
  rw [rgL_len] at hl
  unfold rgL at h
  rw [List.getElem?_map, List.getElem?_range hl] at h
  exact ⟨hl, (Option.some.inj h).symm⟩
theorem v__law_stand {w : Wk} (h : w.good) (b : Int) : s__law_stand [w.dt, .int b] = some (.ok (.int (w.pos b))) := by
  have hs := sum_small h
  obtain ⟨h1, h2, h3, h4, h5, h6⟩ := h
  unfold s__law_stand semOf w__law_stand
  have d1 : fDiv (.int b) (.int (w.s.length : Int)) = some (.int (b.fdiv w.s.length)) := fDiv_int ⟨by omega, by omega⟩
  have d2 : fMod (.int b) (.int (w.s.length : Int)) = some (.int (b.fmod w.s.length)) := fMod_int (by omega)
  have d3 : fMul (.int w.s.sum) (.int (b.fdiv w.s.length)) = some (.int (w.s.sum * b.fdiv w.s.length)) := fMul_int (.inl (by omega))
  have d4 : 0 ≤ b.fmod w.s.length := Int.fmod_nonneg_of_pos b (by omega)
  have d6 : b.fmod w.s.length < w.s.length := Int.fmod_lt_of_pos b (by omega)
  have d5 : fRg1 [.int (b.fmod w.s.length)] = some (rgL 0 (b.fmod w.s.length).toNat) := fRg1_int (by omega) (by omega)
  obtain ⟨e2, k1, k2⟩ := forL_ix (g := gN 3) (b := wb__law_stand_1) (fun k e => ∃ t, e = [some (.v w.dt), some (.v (.int b)), some (.v (.int (w.p + w.s.sum * b.fdiv w.s.length + (w.s.take k).sum))), t]) (ds := rgL 0 (b.fmod w.s.length).toNat) (k := 0)
    (e := [some (.v w.dt), some (.v (.int b)), some (.v (.int (w.p + w.s.sum * b.fdiv w.s.length))), none]) (fun i d hd e he => by
      obtain ⟨t, rfl⟩ := he
      obtain ⟨g1, rfl⟩ := rgL_get hd
      have hlt : i < w.s.length := by omega
      have hx : fIx (.tup (w.s.map Dt.int)) (.int (i : Int)) = some (.int w.s[i]) := fIx_tn (by rw [List.getElem?_map, List.getElem?_eq_getElem hlt]; rfl)
      refine ⟨_, rfl, [some (.v w.dt), some (.v (.int b)), some (.v (.int (w.p + w.s.sum * b.fdiv w.s.length + (w.s.take (i + 1)).sum))), some (.v (.int (0 + i)))], .inl ?_, _, by rw [Nat.zero_add]⟩
      rw [take_succ_sum _ hlt]
      simp [wb__law_stand_1, Wk.dt, hx]
      omega) ⟨none, by simp⟩
  obtain ⟨t, rfl⟩ := k2
  rw [rgL_len, Nat.zero_add] at k1
  unfold Wk.dt at k1 ⊢
  simp [fSum_t, d1, d2, d3, d5, k1, Wk.pos]
  rw [Int.mul_comm]
theorem pos_nat (w : Wk) (b : Nat) : w.pos b = w.p + ((b / w.s.length : Nat) : Int) * w.s.sum + (w.s.take (b % w.s.length)).sum := by
  unfold Wk.pos
  rw [Int.fdiv_eq_ediv_of_nonneg _ (by omega), Int.fmod_eq_emod_of_nonneg _ (by omega)]
  norm_cast
theorem pos_zero {w : Wk} : w.pos 0 = w.p := by
  have := pos_nat w 0
  simpa using this
theorem pos_succ {w : Wk} (h : w.good) (b : Nat) (hb : b % w.s.length < w.s.length) : w.pos ((b : Int) + 1) = w.pos b + w.s[b % w.s.length] := by
  have hn : 0 < w.s.length := h.2.2.1
  have e : ((b : Int) + 1) = ((b + 1 : Nat) : Int) := by omega
  rw [e, pos_nat, pos_nat]
  by_cases hk : b % w.s.length + 1 < w.s.length
  · have e1 : (b + 1) / w.s.length = b / w.s.length := by
      rw [Nat.succ_div, if_neg]; omega
      intro hd
      have := Nat.mod_eq_zero_of_dvd hd
      rw [Nat.add_mod, Nat.mod_eq_of_lt (show 1 < w.s.length by omega), Nat.mod_eq_of_lt hk] at this
      omega
    have e2 : (b + 1) % w.s.length = b % w.s.length + 1 := by
      rw [Nat.add_mod, Nat.mod_eq_of_lt (show 1 < w.s.length by omega), Nat.mod_eq_of_lt hk]
    rw [e1, e2, take_succ_sum _ hb]; omega
  · have e0 : b % w.s.length = w.s.length - 1 := by omega
    have e2 : (b + 1) % w.s.length = 0 := by
      have h3 := Nat.div_add_mod b w.s.length
      have : b + 1 = w.s.length * (b / w.s.length + 1) := by rw [Nat.mul_add]; omega
      rw [this, Nat.mul_mod_right]
    have e1 : (b + 1) / w.s.length = b / w.s.length + 1 := by
      have h3 := Nat.div_add_mod b w.s.length
      have : b + 1 = w.s.length * (b / w.s.length + 1) := by rw [Nat.mul_add]; omega
      rw [this, Nat.mul_div_cancel_left _ hn]
    have e3 := take_succ_sum w.s hb
    have e4 : w.s.take (b % w.s.length + 1) = w.s := List.take_of_length_le (by omega)
    rw [e4] at e3
    rw [e1, e2]
    push_cast
    rw [Int.add_mul, List.take_zero, List.sum_nil]
    omega
end Pg
set_option maxHeartbeats 2000000
/-! helpers of evaluation -/
namespace Pg
open PySem PySem.Spec PyProof.Rows L2 Ly LamX
theorem sz {l : List Dt} (h : l.length ≤ 10000) : l.length ≤ sizeLine := Nat.le_trans h (by simp [PySem.sizeLine_eq])
theorem fTup_0 : fTup [] = some (.tup []) := if_pos (sz (by simp))
theorem fTup_1 (a : Dt) : fTup [a] = some (.tup [a]) := if_pos (sz (by simp))
theorem fTup_2 (a b : Dt) : fTup [a, b] = some (.tup [a, b]) := if_pos (sz (by simp))
theorem fTup_3 (a b c : Dt) : fTup [a, b, c] = some (.tup [a, b, c]) := if_pos (sz (by simp))
theorem fLst_0 : fLst [] = some (.lst []) := if_pos (sz (by simp))
theorem fLst_1 (a : Dt) : fLst [a] = some (.lst [a]) := if_pos (sz (by simp))
theorem fLst_2 (a b : Dt) : fLst [a, b] = some (.lst [a, b]) := if_pos (sz (by simp))
theorem fLst_3 (a b c : Dt) : fLst [a, b, c] = some (.lst [a, b, c]) := if_pos (sz (by simp))
theorem fLst_5 (a b c d e : Dt) : fLst [a, b, c, d, e] = some (.lst [a, b, c, d, e]) := if_pos (sz (by simp))
theorem intOf_int (i : Int) : intOf (.at (.int i)) = some (some i) := rfl
theorem sem_rt {k n : Nat} {w : WSt} {ds : List Dt} {d : Dt} {e : En} (h : w (iniE n ds) = some (.rt (.v d) e)) (hl : ds.length = k := by rfl) : semOf k n w ds = some (.ok d) := by
  unfold semOf; rw [if_pos hl, h]
theorem sem_er {k n : Nat} {w : WSt} {ds : List Dt} {c : Str} (h : w (iniE n ds) = some (.er c)) (hl : ds.length = k := by rfl) : semOf k n w ds = some (.er c) := by
  unfold semOf; rw [if_pos hl, h]
theorem sem_nx {k n : Nat} {w : WSt} {ds : List Dt} {e : En} (h : w (iniE n ds) = some (.nx e)) (hl : ds.length = k := by rfl) : semOf k n w ds = some (.ok .non) := by
  unfold semOf; rw [if_pos hl, h]
theorem semM_rt {k n : Nat} {w : WSt} {xs ys ds : List Dt} {d : Dt} {e : En} (h : w (some (.m xs) :: iniE (n - 1) ds) = some (.rt (.v d) e)) (he : gt e 0 = some (.m ys)) (hl : ds.length = k := by rfl) : semM k n w xs ds = some (.ok d ys) := by
  unfold semM; rw [if_pos hl, h]; simp only [he]
theorem fmod_nat (b n : Nat) : (b : Int).fmod n = ((b % n : Nat) : Int) := by
  rw [Int.fmod_eq_emod_of_nonneg _ (by omega)]; norm_cast
theorem fdiv_nat (b n : Nat) : (b : Int).fdiv n = ((b / n : Nat) : Int) := by
  rw [Int.fdiv_eq_ediv_of_nonneg _ (by omega)]; norm_cast
theorem rgL_cons (lo : Int) (n : Nat) : rgL lo (n + 1) = .int lo :: rgL (lo + 1) n := by
  unfold rgL
  rw [List.range_succ_eq_map, List.map_cons, List.map_map]
  congr 1
  · simp
  · apply List.map_congr_left
    intro i _
    simp only [Function.comp, Nat.succ_eq_add_one]
    push_cast
    rw [show lo + ((i : Int) + 1) = lo + 1 + (i : Int) by omega]
theorem rgL_zero (lo : Int) : rgL lo 0 = [] := rfl
theorem fRg2_nat {i j : Nat} (h : j ≤ i + 1000000) (h2 : i ≤ 1000000) : fRg2 [.int (i : Int), .int (j : Int)] = some (rgL (i : Int) (j - i)) := by
  have e : ((j : Int) - (i : Int)).toNat = j - i := by omega
  unfold fRg2
  rw [← e]
  exact if_pos ⟨⟨by omega, by omega, by omega, by omega⟩, by omega⟩
theorem fRg1_nat {j : Nat} (h : j ≤ 1000000) : fRg1 [.int (j : Int)] = some (rgL 0 j) := fRg1_int (j := (j : Int)) (by omega) (by omega)
theorem cut_m1' {α : Type} (ns : List α) : cutG ns none (some (-1)) = ns.dropLast := by
  have h1 : HT.sIx ns.length 0 none = 0 := rfl
  have h2 : HT.sIx ns.length ns.length (some (-1)) = ns.length - 1 := by
    show (if (-1 : Int) < 0 then ((-1 : Int) + (ns.length : Int)).toNat else min (-1 : Int).toNat ns.length) = _
    rw [if_pos (by decide)]; omega
  unfold cutG
  rw [h1, h2, List.drop_zero, Nat.sub_zero, List.dropLast_eq_take]
theorem cut_m1d {α : Type} (ns : List α) : cutG ns (some (-1)) none = ns.drop (ns.length - 1) := by
  have h1 : HT.sIx ns.length ns.length none = ns.length := rfl
  have h2 : HT.sIx ns.length 0 (some (-1)) = ns.length - 1 := by
    show (if (-1 : Int) < 0 then ((-1 : Int) + (ns.length : Int)).toNat else min (-1 : Int).toNat ns.length) = _
    rw [if_pos (by decide)]; omega
  unfold cutG
  rw [h1, h2, List.take_of_length_le (by rw [List.length_drop]; omega)]
theorem atI_m1 {α : Type} {xs : List α} (h : xs ≠ []) : atI xs (-1) = some (xs.getLast h) := by
  have hl : 0 < xs.length := List.length_pos_iff.mpr h
  unfold atI ixN
  rw [if_neg (by decide), if_pos (by omega)]
  have : ((-1 : Int) + (xs.length : Int)).toNat = xs.length - 1 := by omega
  simp only [this, Option.bind_some]
  rw [← List.getLast?_eq_getElem?, List.getLast?_eq_some_getLast h]
theorem mulU_ones {xs : List Dt} {k : Int} (h : (xs = [] ∨ k = 1) ∧ -1000 ≤ k ∧ k ≤ 1000) : fMulU (.tup xs) (.at (.int k)) = some (.tup xs) := if_pos h
theorem mulU_rep {xs : List Dt} {k : Nat} (h1 : 1 ≤ k) (h2 : k ≤ 1000) (h3 : xs.length ≤ 1000) : fMulU (.tup xs) (.at (.int (k : Int))) = some (.tup (List.replicate k xs).flatten) := by
  by_cases hx : xs = []
  · subst hx
    rw [mulU_ones ⟨.inl rfl, by omega, by omega⟩]; simp
  · by_cases h : k = 1
    · subst h
      have e := mulU_ones (xs := xs) (k := ((1 : Nat) : Int)) ⟨.inr rfl, by omega, by omega⟩
      rw [e]; simp
    · have e1 : fMulU (.tup xs) (.at (.int (k : Int))) = fMulT (.tup xs) (.at (.int (k : Int))) := if_neg (fun z => z.1.elim hx fun z => h (by omega))
      have e2 : fMulT (.tup xs) (.at (.int (k : Int))) = some (.tup (List.replicate (k : Int).toNat xs).flatten) := if_pos ⟨hx, by omega, by omega, h3⟩
      rw [e1, e2, Int.toNat_natCast]
theorem wk_1 (w : Wk) : fIx w.dt (.int 1) = some (.tup (w.s.map Dt.int)) := by unfold Wk.dt; simp
theorem wk_0 (w : Wk) : fIx w.dt (.int 0) = some (.int w.p) := by unfold Wk.dt; simp
theorem wk_2 (w : Wk) : fIx w.dt (.int 2) = some (.str w.d) := by unfold Wk.dt; simp
theorem cut_drop {α : Type} {xs : List α} {r : Int} (h : 0 ≤ r) : cutG xs (some r) none = xs.drop r.toNat := by
  have h1 : HT.sIx xs.length xs.length none = xs.length := rfl
  have h2 : HT.sIx xs.length 0 (some r) = min r.toNat xs.length := by
    show (if r < 0 then (r + (xs.length : Int)).toNat else min r.toNat xs.length) = _
    rw [if_neg (by omega)]
  unfold cutG
  rw [h1, h2]
  by_cases hl : r.toNat ≤ xs.length
  · rw [Nat.min_eq_left hl, List.take_of_length_le (by rw [List.length_drop]; omega)]
  · rw [Nat.min_eq_right (by omega), Nat.sub_self, List.take_zero, List.drop_of_length_le (by omega)]
end Pg
set_option maxHeartbeats 4000000
/-! the walk of law k12_what_is_refused; printed by gen.py -/
namespace K12
open PySem PySem.Spec PyProof.Rows L2 Ly LamX Pg
def top (i : Nat) : Stmt := PySem.Challenge.pw_sharedsteps_k12_what_is_refused.main.body.getD i (.Pass ⟨0, 0, 0, 0⟩)
/-- what the walk asks of the module -/
structure Wd (P : Program) (w : World) (K : PySem.W.Frag) (mg : Str → Option Value) (base : Heap) (T : List (Addr × Str)) (cl : Str → Option Addr) : Prop where
  f_abs : mg "abs" = none
  f_all : mg "all" = none
  f_bool : mg "bool" = none
  f_int : mg "int" = none
  f_isinstance : mg "isinstance" = none
  f_len : mg "len" = none
  f_list : mg "list" = none
  f_min : mg "min" = none
  f_range : mg "range" = none
  f_str : mg "str" = none
  f_sum : mg "sum" = none
  f_tuple : mg "tuple" = none
  d_is_within : ∃ (fa : Addr) (fd : FuncData), FunD K "is_within" "is_within" (defArgs (top 14)) (defBody (top 14)) (defScope (top 14)) [] [] fa fd ∧ mg "is_within" = some (.ref fa)
  d_is_wide : ∃ (fa : Addr) (fd : FuncData), FunD K "is_wide" "is_wide" (defArgs (top 15)) (defBody (top 15)) (defScope (top 15)) [] [] fa fd ∧ mg "is_wide" = some (.ref fa)
  d_is_walker : ∃ (fa : Addr) (fd : FuncData), FunD K "is_walker" "is_walker" (defArgs (top 16)) (defBody (top 16)) (defScope (top 16)) [] [] fa fd ∧ mg "is_walker" = some (.ref fa)
  d_is_fit : ∃ (fa : Addr) (fd : FuncData), FunD K "is_fit" "is_fit" (defArgs (top 17)) (defBody (top 17)) (defScope (top 17)) [] [] fa fd ∧ mg "is_fit" = some (.ref fa)
  d_look_at_crew : ∃ (fa : Addr) (fd : FuncData), FunD K "look_at_crew" "look_at_crew" (defArgs (top 18)) (defBody (top 18)) (defScope (top 18)) [] [] fa fd ∧ mg "look_at_crew" = some (.ref fa)
  d_look_at_beat : ∃ (fa : Addr) (fd : FuncData), FunD K "look_at_beat" "look_at_beat" (defArgs (top 20)) (defBody (top 20)) (defScope (top 20)) [] [] fa fd ∧ mg "look_at_beat" = some (.ref fa)
  d_look_at_place : ∃ (fa : Addr) (fd : FuncData), FunD K "look_at_place" "look_at_place" (defArgs (top 21)) (defBody (top 21)) (defScope (top 21)) [] [] fa fd ∧ mg "look_at_place" = some (.ref fa)
  d_without : ∃ (fa : Addr) (fd : FuncData), FunD K "without" "without" (defArgs (top 26)) (defBody (top 26)) (defScope (top 26)) [] [] fa fd ∧ mg "without" = some (.ref fa)
  d_place_at : ∃ (fa : Addr) (fd : FuncData), FunD K "place_at" "place_at" (defArgs (top 27)) (defBody (top 27)) (defScope (top 27)) [] [] fa fd ∧ mg "place_at" = some (.ref fa)
  d_far_in : ∃ (fa : Addr) (fd : FuncData), FunD K "far_in" "far_in" (defArgs (top 28)) (defBody (top 28)) (defScope (top 28)) [] [] fa fd ∧ mg "far_in" = some (.ref fa)
  d_is_open : ∃ (fa : Addr) (fd : FuncData), FunD K "is_open" "is_open" (defArgs (top 61)) (defBody (top 61)) (defScope (top 61)) [] [] fa fd ∧ mg "is_open" = some (.ref fa)
  d_count_open : ∃ (fa : Addr) (fd : FuncData), FunD K "count_open" "count_open" (defArgs (top 62)) (defBody (top 62)) (defScope (top 62)) [] [] fa fd ∧ mg "count_open" = some (.ref fa)
  d_ends_open : ∃ (fa : Addr) (fd : FuncData), FunD K "ends_open" "ends_open" (defArgs (top 63)) (defBody (top 63)) (defScope (top 63)) [] [] fa fd ∧ mg "ends_open" = some (.ref fa)
  d_open_between : ∃ (fa : Addr) (fd : FuncData), FunD K "open_between" "open_between" (defArgs (top 64)) (defBody (top 64)) (defScope (top 64)) [] [] fa fd ∧ mg "open_between" = some (.ref fa)
  d_fate : ∃ (fa : Addr) (fd : FuncData), FunD K "fate" "fate" (defArgs (top 73)) (defBody (top 73)) (defScope (top 73)) [] [] fa fd ∧ mg "fate" = some (.ref fa)
  d_settled : ∃ (fa : Addr) (fd : FuncData), FunD K "settled" "settled" (defArgs (top 74)) (defBody (top 74)) (defScope (top 74)) [] [] fa fd ∧ mg "settled" = some (.ref fa)
  d_right : ∃ (fa : Addr) (fd : FuncData), FunD K "right" "right" (defArgs (top 75)) (defBody (top 75)) (defScope (top 75)) [] [] fa fd ∧ mg "right" = some (.ref fa)
  d_left : ∃ (fa : Addr) (fd : FuncData), FunD K "left" "left" (defArgs (top 76)) (defBody (top 76)) (defScope (top 76)) [] [] fa fd ∧ mg "left" = some (.ref fa)
  d_alike : ∃ (fa : Addr) (fd : FuncData), FunD K "alike" "alike" (defArgs (top 80)) (defBody (top 80)) (defScope (top 80)) [] [] fa fd ∧ mg "alike" = some (.ref fa)
  d_parting : ∃ (fa : Addr) (fd : FuncData), FunD K "parting" "parting" (defArgs (top 81)) (defBody (top 81)) (defScope (top 81)) [] [] fa fd ∧ mg "parting" = some (.ref fa)
  d_idle_walkers : ∃ (fa : Addr) (fd : FuncData), FunD K "idle_walkers" "idle_walkers" (defArgs (top 82)) (defBody (top 82)) (defScope (top 82)) [] [] fa fd ∧ mg "idle_walkers" = some (.ref fa)
  d_look_at_two : ∃ (fa : Addr) (fd : FuncData), FunD K "look_at_two" "look_at_two" (defArgs (top 86)) (defBody (top 86)) (defScope (top 86)) [] [] fa fd ∧ mg "look_at_two" = some (.ref fa)
  d_meets : ∃ (fa : Addr) (fd : FuncData), FunD K "meets" "meets" (defArgs (top 87)) (defBody (top 87)) (defScope (top 87)) [] [] fa fd ∧ mg "meets" = some (.ref fa)
  d_next_meeting : ∃ (fa : Addr) (fd : FuncData), FunD K "next_meeting" "next_meeting" (defArgs (top 88)) (defBody (top 88)) (defScope (top 88)) [] [] fa fd ∧ mg "next_meeting" = some (.ref fa)
  d_count_meetings : ∃ (fa : Addr) (fd : FuncData), FunD K "count_meetings" "count_meetings" (defArgs (top 89)) (defBody (top 89)) (defScope (top 89)) [] [] fa fd ∧ mg "count_meetings" = some (.ref fa)
  d_look_at_seen : ∃ (fa : Addr) (fd : FuncData), FunD K "look_at_seen" "look_at_seen" (defArgs (top 95)) (defBody (top 95)) (defScope (top 95)) [] [] fa fd ∧ mg "look_at_seen" = some (.ref fa)
  d_starts_for : ∃ (fa : Addr) (fd : FuncData), FunD K "starts_for" "starts_for" (defArgs (top 98)) (defBody (top 98)) (defScope (top 98)) [] [] fa fd ∧ mg "starts_for" = some (.ref fa)
  d_deeds_for : ∃ (fa : Addr) (fd : FuncData), FunD K "deeds_for" "deeds_for" (defArgs (top 99)) (defBody (top 99)) (defScope (top 99)) [] [] fa fd ∧ mg "deeds_for" = some (.ref fa)
  d_crew_text : ∃ (fa : Addr) (fd : FuncData), FunD K "crew_text" "crew_text" (defArgs (top 105)) (defBody (top 105)) (defScope (top 105)) [] [] fa fd ∧ mg "crew_text" = some (.ref fa)
  d__law_spring : ∃ (fa : Addr) (fd : FuncData), FunD K "_law_spring" "_law_spring" (defArgs (top 113)) (defBody (top 113)) (defScope (top 113)) [] [] fa fd ∧ mg "_law_spring" = some (.ref fa)
  d__law_pick : ∃ (fa : Addr) (fd : FuncData), FunD K "_law_pick" "_law_pick" (defArgs (top 114)) (defBody (top 114)) (defScope (top 114)) [] [] fa fd ∧ mg "_law_pick" = some (.ref fa)
  d__law_walker : ∃ (fa : Addr) (fd : FuncData), FunD K "_law_walker" "_law_walker" (defArgs (top 117)) (defBody (top 117)) (defScope (top 117)) [] [] fa fd ∧ mg "_law_walker" = some (.ref fa)
  d__law_crew : ∃ (fa : Addr) (fd : FuncData), FunD K "_law_crew" "_law_crew" (defArgs (top 118)) (defBody (top 118)) (defScope (top 118)) [] [] fa fd ∧ mg "_law_crew" = some (.ref fa)
  d__law_error_of : ∃ (fa : Addr) (fd : FuncData), FunD K "_law_error_of" "_law_error_of" (defArgs (top 122)) (defBody (top 122)) (defScope (top 122)) [] [] fa fd ∧ mg "_law_error_of" = some (.ref fa)
  d__law_came : ∃ (fa : Addr) (fd : FuncData), FunD K "_law_came" "_law_came" (defArgs (top 123)) (defBody (top 123)) (defScope (top 123)) [] [] fa fd ∧ mg "_law_came" = some (.ref fa)
  d__law_of_crew : ∃ (fa : Addr) (fd : FuncData), FunD K "_law_of_crew" "_law_of_crew" (defArgs (top 124)) (defBody (top 124)) (defScope (top 124)) [] [] fa fd ∧ mg "_law_of_crew" = some (.ref fa)
  d__law_all_say : ∃ (fa : Addr) (fd : FuncData), FunD K "_law_all_say" "_law_all_say" (defArgs (top 125)) (defBody (top 125)) (defScope (top 125)) [] [] fa fd ∧ mg "_law_all_say" = some (.ref fa)
  d_law : ∃ (fa : Addr) (fd : FuncData), FunD K "law" "law" (defArgs (top 126)) (defBody (top 126)) (defScope (top 126)) [] [] fa fd ∧ mg "law" = some (.ref fa)
  c_InvalidBeat : Gx K mg cl "InvalidBeat"
  c_InvalidCrew : Gx K mg cl "InvalidCrew"
  c_InvalidPlace : Gx K mg cl "InvalidPlace"
  c_InvalidSeen : Gx K mg cl "InvalidSeen"
  c_InvalidText : Gx K mg cl "InvalidText"
  c_InvalidWalker : Gx K mg cl "InvalidWalker"
  c_NothingLeft : Gx K mg cl "NothingLeft"
  i_FAR : ∃ t, mg "FAR" = some (.int (1000000000000000000000000000000) t)
  i_WIDE : ∃ t, mg "WIDE" = some (.int (10000000000000000000000000000000) t)
  t_DEEDS : ∃ ad, mg "DEEDS" = some (.ref ad) ∧ ∀ F, Rep K F (.tup [.str "look", .str "open", .str "shut", .str "turn"]) (.ref ad)
  m_Stair : ∃ (C fi : Addr) (fd : FuncData), Mk K C fi ∧ mg "Stair" = some (.ref C) ∧ FunD K "__init__" "Stair.__init__" (defArgs (meth (top 92) 1)) (defBody (meth (top 92) 1)) (defScope (meth (top 92) 1)) [] [] fi fd
  m_Crew : ∃ (C fi : Addr) (fd : FuncData), Mk K C fi ∧ mg "Crew" = some (.ref C) ∧ FunD K "__init__" "Crew.__init__" (defArgs (meth (top 111) 1)) (defBody (meth (top 111) 1)) (defScope (meth (top 111) 1)) [] [] fi fd
  cls : ∀ c n C, cl c = some C → errN c = some n → ClsOk K cl c C
  step : ∃ CS, mg "StepError" = some (.ref CS) ∧ ∀ c n C, cl c = some C → errN c = some n → PySem.W.exmOne K (.ref C) (.ref CS) = some true
theorem Wd.re {P : Program} {w : World} {K : PySem.W.Frag} {mg : Str → Option Value} {base : Heap} {T : List (Addr × Str)} {cl : Str → Option Addr} (W : Wd P w K mg base T cl) {base2 : Heap} : Wd P w K mg base2 T cl := ⟨W.f_abs,
  W.f_all,
  W.f_bool,
  W.f_int,
  W.f_isinstance,
  W.f_len,
  W.f_list,
  W.f_min,
  W.f_range,
  W.f_str,
  W.f_sum,
  W.f_tuple,
  W.d_is_within,
  W.d_is_wide,
  W.d_is_walker,
  W.d_is_fit,
  W.d_look_at_crew,
  W.d_look_at_beat,
  W.d_look_at_place,
  W.d_without,
  W.d_place_at,
  W.d_far_in,
  W.d_is_open,
  W.d_count_open,
  W.d_ends_open,
  W.d_open_between,
  W.d_fate,
  W.d_settled,
  W.d_right,
  W.d_left,
  W.d_alike,
  W.d_parting,
  W.d_idle_walkers,
  W.d_look_at_two,
  W.d_meets,
  W.d_next_meeting,
  W.d_count_meetings,
  W.d_look_at_seen,
  W.d_starts_for,
  W.d_deeds_for,
  W.d_crew_text,
  W.d__law_spring,
  W.d__law_pick,
  W.d__law_walker,
  W.d__law_crew,
  W.d__law_error_of,
  W.d__law_came,
  W.d__law_of_crew,
  W.d__law_all_say,
  W.d_law,
  W.c_InvalidBeat,
  W.c_InvalidCrew,
  W.c_InvalidPlace,
  W.c_InvalidSeen,
  W.c_InvalidText,
  W.c_InvalidWalker,
  W.c_NothingLeft,
  W.i_FAR,
  W.i_WIDE,
  W.t_DEEDS,
  W.m_Stair,
  W.m_Crew,
  W.cls,
  W.step⟩

abbrev st_is_within : Stmt := top 14
theorem sc_is_within : FnScope ["value", "low", "high"] ["value", "low", "high"] (defScope st_is_within) := ⟨rfl, rfl, rfl, by decide +kernel, rfl, by decide +kernel, by decide +kernel⟩
theorem ok_is_within {P : Program} {w : World} {K : PySem.W.Frag} {mg : Str → Option Value} {base : Heap} {T : List (Addr × Str)} {cl : Str → Option Addr} (W : Wd P w K mg base T cl) : Gf P w K mg base T cl 1 "is_within" 3 s_is_within := by
  obtain ⟨fa, fd, F, hm⟩ := W.d_is_within
  refine ⟨fa, fd, ["value", "low", "high"], fn_pure 3 T cl w_is_within F sc_is_within rfl fun cdv A outer s H E Fz hr => ?_, hm, F.kp, F.bindsN fun _ _ _ _ _ _ us hl => match us, hl with | [_, _, _], _ => rfl⟩
  exact n_s1 (n_ret (n_and (n_isi rfl W.f_isinstance (n_cons (n_v 0) (n_cons (n_ty rfl W.f_int (by decide +kernel)) (n_nil)))) (n_and (n_not (n_isi rfl W.f_isinstance (n_cons (n_v 0) (n_cons (n_ty rfl W.f_bool (by decide +kernel)) (n_nil))))) (n_one (n_chain (n_v 1) (n_v 0) (n_v 2))))))
abbrev st_is_wide : Stmt := top 15
theorem sc_is_wide : FnScope ["value", "low", "high"] ["value", "low", "high"] (defScope st_is_wide) := ⟨rfl, rfl, rfl, by decide +kernel, rfl, by decide +kernel, by decide +kernel⟩
theorem ok_is_wide {P : Program} {w : World} {K : PySem.W.Frag} {mg : Str → Option Value} {base : Heap} {T : List (Addr × Str)} {cl : Str → Option Addr} (W : Wd P w K mg base T cl) : Gf P w K mg base T cl 1 "is_wide" 3 s_is_wide := by
  obtain ⟨fa, fd, F, hm⟩ := W.d_is_wide
  refine ⟨fa, fd, ["value", "low", "high"], fn_pure 3 T cl w_is_wide F sc_is_wide rfl fun cdv A outer s H E Fz hr => ?_, hm, F.kp, F.bindsN fun _ _ _ _ _ _ us hl => match us, hl with | [_, _, _], _ => rfl⟩
  exact n_s1 (n_ret (n_and (n_isi rfl W.f_isinstance (n_cons (n_v 0) (n_cons (n_ty rfl W.f_tuple (by decide +kernel)) (n_nil)))) (n_one (n_chain (n_v 1) (n_len rfl W.f_len (n_cons (n_v 0) (n_nil))) (n_v 2)))))
abbrev st_is_walker : Stmt := top 16
theorem sc_is_walker : FnScope ["value", "step"] ["value"] (defScope st_is_walker) := ⟨rfl, rfl, rfl, by decide +kernel, rfl, by decide +kernel, by decide +kernel⟩
theorem ok_is_walker {P : Program} {w : World} {K : PySem.W.Frag} {mg : Str → Option Value} {base : Heap} {T : List (Addr × Str)} {cl : Str → Option Addr} (W : Wd P w K mg base T cl) : Gf P w K mg base T cl 2 "is_walker" 1 s_is_walker := by
  obtain ⟨fa, fd, F, hm⟩ := W.d_is_walker
  refine ⟨fa, fd, ["value"], fn_pure 2 T cl w_is_walker F sc_is_walker rfl fun cdv A outer s H E Fz hr => ?_, hm, F.kp, F.bindsN fun _ _ _ _ _ _ us hl => match us, hl with | [_], _ => rfl⟩
  exact n_sc (n_if (n_tw (n_tor (n_tnot (n_t (n_call (ok_is_wide W) (hr.mono (by omega)) passN rfl (n_cons (n_v 0) (n_cons (n_int) (n_cons (n_int) (n_nil)))) (wl1 (wl1 (wl1 wl0)))))) (n_tor (n_tnot (n_t (n_call (ok_is_within W) (hr.mono (by omega)) passN rfl (n_cons (n_ix (n_v 0) (n_int)) (n_cons (n_neg (n_int)) (n_cons (n_int) (n_nil)))) (wl1 (wl1 (wl1 wl0)))))) (n_tor1 (n_tnot (n_t (n_call (ok_is_wide W) (hr.mono (by omega)) passN rfl (n_cons (n_ix (n_v 0) (n_int)) (n_cons (n_int) (n_cons (n_int) (n_nil)))) (wl1 (wl1 (wl1 wl0)))))))))) (n_s1 (n_ret (n_bl))) (n_sn)) (n_sc (n_if (n_tnot (n_t (n_all rfl rfl W.f_all (n_cons (n_lc (own := [("step", 1)]) rfl sc_is_walker.nd (n_it (n_ix (n_v 0) (n_int))) (blkOk_by (own := [("step", 1)]) (N := ["value", "step"]) (sc := defScope st_is_walker) (by decide +kernel)) (own_hv (l := [1]) rfl) (raw_n (own_hv (l := [1]) rfl 1 (by simp)) (by simp)) (fun s H C cl fp => pg_name (i := 1) sc_is_walker.nd rfl (Or.inl rfl)) (fun Da o s H C cl fp => pts_nilx) (fun Da o s H C cl fp => n_call (ok_is_within W) (hr.mono (by omega)) passN0 rfl (n_cons (n_v 1) (n_cons (n_neg (n_int)) (n_cons (n_int) (n_nil)))) (wl1 (wl1 (wl1 wl0))))) (n_nil))))) (n_s1 (n_ret (n_bl))) (n_sn)) (n_s1 (n_ret (n_and (n_isi rfl W.f_isinstance (n_cons (n_ix (n_v 0) (n_int)) (n_cons (n_ty rfl W.f_str (by decide +kernel)) (n_nil)))) (n_one (n_in (hu_of hr) (n_ix (n_v 0) (n_int)) (n_gk rfl W.t_DEEDS.choose_spec.1 (fun F => W.t_DEEDS.choose_spec.2 F))))))))
abbrev st_is_fit : Stmt := top 17
theorem sc_is_fit : FnScope ["value", "walker"] ["value"] (defScope st_is_fit) := ⟨rfl, rfl, rfl, by decide +kernel, rfl, by decide +kernel, by decide +kernel⟩
theorem ok_is_fit {P : Program} {w : World} {K : PySem.W.Frag} {mg : Str → Option Value} {base : Heap} {T : List (Addr × Str)} {cl : Str → Option Addr} (W : Wd P w K mg base T cl) : Gf P w K mg base T cl 3 "is_fit" 1 s_is_fit := by
  obtain ⟨fa, fd, F, hm⟩ := W.d_is_fit
  refine ⟨fa, fd, ["value"], fn_pure 2 T cl w_is_fit F sc_is_fit rfl fun cdv A outer s H E Fz hr => ?_, hm, F.kp, F.bindsN fun _ _ _ _ _ _ us hl => match us, hl with | [_], _ => rfl⟩
  exact n_s1 (n_ret (n_and (n_call (ok_is_wide W) (hr.mono (by omega)) passN rfl (n_cons (n_v 0) (n_cons (n_int) (n_cons (n_int) (n_nil)))) (wl1 (wl1 (wl1 wl0)))) (n_one (n_all rfl rfl W.f_all (n_cons (n_lc (own := [("walker", 1)]) rfl sc_is_fit.nd (n_it (n_v 0)) (blkOk_by (own := [("walker", 1)]) (N := ["value", "walker"]) (sc := defScope st_is_fit) (by decide +kernel)) (own_hv (l := [1]) rfl) (raw_n (own_hv (l := [1]) rfl 1 (by simp)) (by simp)) (fun s H C cl fp => pg_name (i := 1) sc_is_fit.nd rfl (Or.inl rfl)) (fun Da o s H C cl fp => pts_nilx) (fun Da o s H C cl fp => n_call (ok_is_walker W) (hr.mono (by omega)) passN0 rfl (n_cons (n_v 1) (n_nil)) (wl1 wl0))) (n_nil))))))
abbrev st_look_at_crew : Stmt := top 18
theorem sc_look_at_crew : FnScope ["crew"] ["crew"] (defScope st_look_at_crew) := ⟨rfl, rfl, rfl, by decide +kernel, rfl, by decide +kernel, by decide +kernel⟩
theorem ok_look_at_crew {P : Program} {w : World} {K : PySem.W.Frag} {mg : Str → Option Value} {base : Heap} {T : List (Addr × Str)} {cl : Str → Option Addr} (W : Wd P w K mg base T cl) : Gf P w K mg base T cl 4 "look_at_crew" 1 s_look_at_crew := by
  obtain ⟨fa, fd, F, hm⟩ := W.d_look_at_crew
  refine ⟨fa, fd, ["crew"], fn_pure 1 T cl w_look_at_crew F sc_look_at_crew rfl fun cdv A outer s H E Fz hr => ?_, hm, F.kp, F.bindsN fun _ _ _ _ _ _ us hl => match us, hl with | [_], _ => rfl⟩
  exact n_s1 (n_if (n_tnot (n_t (n_call (ok_is_fit W) (hr.mono (by omega)) passN rfl (n_cons (n_v 0) (n_nil)) (wl1 wl0)))) (n_s1 (n_raiseX W.c_InvalidCrew rfl takesN rfl)) (n_sn))
abbrev st_look_at_beat : Stmt := top 20
theorem sc_look_at_beat : FnScope ["beat"] ["beat"] (defScope st_look_at_beat) := ⟨rfl, rfl, rfl, by decide +kernel, rfl, by decide +kernel, by decide +kernel⟩
theorem ok_look_at_beat {P : Program} {w : World} {K : PySem.W.Frag} {mg : Str → Option Value} {base : Heap} {T : List (Addr × Str)} {cl : Str → Option Addr} (W : Wd P w K mg base T cl) : Gf P w K mg base T cl 2 "look_at_beat" 1 s_look_at_beat := by
  obtain ⟨fa, fd, F, hm⟩ := W.d_look_at_beat
  refine ⟨fa, fd, ["beat"], fn_pure 1 T cl w_look_at_beat F sc_look_at_beat rfl fun cdv A outer s H E Fz hr => ?_, hm, F.kp, F.bindsN fun _ _ _ _ _ _ us hl => match us, hl with | [_], _ => rfl⟩
  exact n_s1 (n_if (n_tnot (n_t (n_call (ok_is_within W) (hr.mono (by omega)) passN rfl (n_cons (n_v 0) (n_cons (n_int) (n_cons (n_gl rfl W.i_FAR.choose_spec ⟨_, rfl⟩) (n_nil)))) (wl1 (wl1 (wl1 wl0)))))) (n_s1 (n_raiseX W.c_InvalidBeat rfl takesN rfl)) (n_sn))
abbrev st_look_at_place : Stmt := top 21
theorem sc_look_at_place : FnScope ["place"] ["place"] (defScope st_look_at_place) := ⟨rfl, rfl, rfl, by decide +kernel, rfl, by decide +kernel, by decide +kernel⟩
theorem ok_look_at_place {P : Program} {w : World} {K : PySem.W.Frag} {mg : Str → Option Value} {base : Heap} {T : List (Addr × Str)} {cl : Str → Option Addr} (W : Wd P w K mg base T cl) : Gf P w K mg base T cl 2 "look_at_place" 1 s_look_at_place := by
  obtain ⟨fa, fd, F, hm⟩ := W.d_look_at_place
  refine ⟨fa, fd, ["place"], fn_pure 1 T cl w_look_at_place F sc_look_at_place rfl fun cdv A outer s H E Fz hr => ?_, hm, F.kp, F.bindsN fun _ _ _ _ _ _ us hl => match us, hl with | [_], _ => rfl⟩
  exact n_s1 (n_if (n_tnot (n_t (n_call (ok_is_within W) (hr.mono (by omega)) passN rfl (n_cons (n_v 0) (n_cons (n_neg (n_gl rfl W.i_WIDE.choose_spec ⟨_, rfl⟩)) (n_cons (n_gl rfl W.i_WIDE.choose_spec ⟨_, rfl⟩) (n_nil)))) (wl1 (wl1 (wl1 wl0)))))) (n_s1 (n_raiseX W.c_InvalidPlace rfl takesN rfl)) (n_sn))
abbrev st_without : Stmt := top 26
theorem sc_without : FnScope ["crew", "walker"] ["crew", "walker"] (defScope st_without) := ⟨rfl, rfl, rfl, by decide +kernel, rfl, by decide +kernel, by decide +kernel⟩
def w_without : WSt := wSeq (wDo (wCall (s_look_at_crew) (wCons (wV 0) (wNil)))) (wNo)
def s_without : Fn := semOf 2 2 w_without
theorem ok_without {P : Program} {w : World} {K : PySem.W.Frag} {mg : Str → Option Value} {base : Heap} {T : List (Addr × Str)} {cl : Str → Option Addr} (W : Wd P w K mg base T cl) : Gf P w K mg base T cl 5 "without" 2 s_without := by
  obtain ⟨fa, fd, F, hm⟩ := W.d_without
  refine ⟨fa, fd, ["crew", "walker"], fn_pure 2 T cl w_without F sc_without rfl fun cdv A outer s H E Fz hr => ?_, hm, F.kp, F.bindsN fun _ _ _ _ _ _ us hl => match us, hl with | [_, _], _ => rfl⟩
  exact n_sc (n_do (n_call (ok_look_at_crew W) (hr.mono (by omega)) passN rfl (n_cons (n_v 0) (n_nil)) (wl1 wl0))) (n_never)
abbrev st_place_at : Stmt := top 27
theorem sc_place_at : FnScope ["crew", "walker", "beat"] ["crew", "walker", "beat"] (defScope st_place_at) := ⟨rfl, rfl, rfl, by decide +kernel, rfl, by decide +kernel, by decide +kernel⟩
def w_place_at : WSt := wSeq (wDo (wCall (s_look_at_crew) (wCons (wV 0) (wNil)))) (wNo)
def s_place_at : Fn := semOf 3 3 w_place_at
theorem ok_place_at {P : Program} {w : World} {K : PySem.W.Frag} {mg : Str → Option Value} {base : Heap} {T : List (Addr × Str)} {cl : Str → Option Addr} (W : Wd P w K mg base T cl) : Gf P w K mg base T cl 5 "place_at" 3 s_place_at := by
  obtain ⟨fa, fd, F, hm⟩ := W.d_place_at
  refine ⟨fa, fd, ["crew", "walker", "beat"], fn_pure 3 T cl w_place_at F sc_place_at rfl fun cdv A outer s H E Fz hr => ?_, hm, F.kp, F.bindsN fun _ _ _ _ _ _ us hl => match us, hl with | [_, _, _], _ => rfl⟩
  exact n_sc (n_do (n_call (ok_look_at_crew W) (hr.mono (by omega)) passN rfl (n_cons (n_v 0) (n_nil)) (wl1 wl0))) (n_never)
abbrev st_far_in : Stmt := top 28
theorem sc_far_in : FnScope ["crew", "walker"] ["crew", "walker"] (defScope st_far_in) := ⟨rfl, rfl, rfl, by decide +kernel, rfl, by decide +kernel, by decide +kernel⟩
def w_far_in : WSt := wSeq (wDo (wCall (s_look_at_crew) (wCons (wV 0) (wNil)))) (wNo)
def s_far_in : Fn := semOf 2 2 w_far_in
theorem ok_far_in {P : Program} {w : World} {K : PySem.W.Frag} {mg : Str → Option Value} {base : Heap} {T : List (Addr × Str)} {cl : Str → Option Addr} (W : Wd P w K mg base T cl) : Gf P w K mg base T cl 5 "far_in" 2 s_far_in := by
  obtain ⟨fa, fd, F, hm⟩ := W.d_far_in
  refine ⟨fa, fd, ["crew", "walker"], fn_pure 2 T cl w_far_in F sc_far_in rfl fun cdv A outer s H E Fz hr => ?_, hm, F.kp, F.bindsN fun _ _ _ _ _ _ us hl => match us, hl with | [_, _], _ => rfl⟩
  exact n_sc (n_do (n_call (ok_look_at_crew W) (hr.mono (by omega)) passN rfl (n_cons (n_v 0) (n_nil)) (wl1 wl0))) (n_never)
abbrev st_is_open : Stmt := top 61
theorem sc_is_open : FnScope ["crew", "beat", "place"] ["crew", "beat", "place"] (defScope st_is_open) := ⟨rfl, rfl, rfl, by decide +kernel, rfl, by decide +kernel, by decide +kernel⟩
def w_is_open : WSt := wSeq (wDo (wCall (s_look_at_crew) (wCons (wV 0) (wNil)))) (wSeq (wDo (wCall (s_look_at_beat) (wCons (wV 1) (wNil)))) (wSeq (wDo (wCall (s_look_at_place) (wCons (wV 2) (wNil)))) (wNo)))
def s_is_open : Fn := semOf 3 3 w_is_open
theorem ok_is_open {P : Program} {w : World} {K : PySem.W.Frag} {mg : Str → Option Value} {base : Heap} {T : List (Addr × Str)} {cl : Str → Option Addr} (W : Wd P w K mg base T cl) : Gf P w K mg base T cl 5 "is_open" 3 s_is_open := by
  obtain ⟨fa, fd, F, hm⟩ := W.d_is_open
  refine ⟨fa, fd, ["crew", "beat", "place"], fn_pure 3 T cl w_is_open F sc_is_open rfl fun cdv A outer s H E Fz hr => ?_, hm, F.kp, F.bindsN fun _ _ _ _ _ _ us hl => match us, hl with | [_, _, _], _ => rfl⟩
  exact n_sc (n_do (n_call (ok_look_at_crew W) (hr.mono (by omega)) passN rfl (n_cons (n_v 0) (n_nil)) (wl1 wl0))) (n_sc (n_do (n_call (ok_look_at_beat W) (hr.mono (by omega)) passN rfl (n_cons (n_v 1) (n_nil)) (wl1 wl0))) (n_sc (n_do (n_call (ok_look_at_place W) (hr.mono (by omega)) passN rfl (n_cons (n_v 2) (n_nil)) (wl1 wl0))) (n_never)))
abbrev st_count_open : Stmt := top 62
theorem sc_count_open : FnScope ["crew", "beat"] ["crew", "beat"] (defScope st_count_open) := ⟨rfl, rfl, rfl, by decide +kernel, rfl, by decide +kernel, by decide +kernel⟩
def w_count_open : WSt := wSeq (wDo (wCall (s_look_at_crew) (wCons (wV 0) (wNil)))) (wSeq (wDo (wCall (s_look_at_beat) (wCons (wV 1) (wNil)))) (wNo))
def s_count_open : Fn := semOf 2 2 w_count_open
theorem ok_count_open {P : Program} {w : World} {K : PySem.W.Frag} {mg : Str → Option Value} {base : Heap} {T : List (Addr × Str)} {cl : Str → Option Addr} (W : Wd P w K mg base T cl) : Gf P w K mg base T cl 5 "count_open" 2 s_count_open := by
  obtain ⟨fa, fd, F, hm⟩ := W.d_count_open
  refine ⟨fa, fd, ["crew", "beat"], fn_pure 2 T cl w_count_open F sc_count_open rfl fun cdv A outer s H E Fz hr => ?_, hm, F.kp, F.bindsN fun _ _ _ _ _ _ us hl => match us, hl with | [_, _], _ => rfl⟩
  exact n_sc (n_do (n_call (ok_look_at_crew W) (hr.mono (by omega)) passN rfl (n_cons (n_v 0) (n_nil)) (wl1 wl0))) (n_sc (n_do (n_call (ok_look_at_beat W) (hr.mono (by omega)) passN rfl (n_cons (n_v 1) (n_nil)) (wl1 wl0))) (n_never))
abbrev st_ends_open : Stmt := top 63
theorem sc_ends_open : FnScope ["crew", "beat"] ["crew", "beat"] (defScope st_ends_open) := ⟨rfl, rfl, rfl, by decide +kernel, rfl, by decide +kernel, by decide +kernel⟩
def w_ends_open : WSt := wSeq (wDo (wCall (s_look_at_crew) (wCons (wV 0) (wNil)))) (wSeq (wDo (wCall (s_look_at_beat) (wCons (wV 1) (wNil)))) (wNo))
def s_ends_open : Fn := semOf 2 2 w_ends_open
theorem ok_ends_open {P : Program} {w : World} {K : PySem.W.Frag} {mg : Str → Option Value} {base : Heap} {T : List (Addr × Str)} {cl : Str → Option Addr} (W : Wd P w K mg base T cl) : Gf P w K mg base T cl 5 "ends_open" 2 s_ends_open := by
  obtain ⟨fa, fd, F, hm⟩ := W.d_ends_open
  refine ⟨fa, fd, ["crew", "beat"], fn_pure 2 T cl w_ends_open F sc_ends_open rfl fun cdv A outer s H E Fz hr => ?_, hm, F.kp, F.bindsN fun _ _ _ _ _ _ us hl => match us, hl with | [_, _], _ => rfl⟩
  exact n_sc (n_do (n_call (ok_look_at_crew W) (hr.mono (by omega)) passN rfl (n_cons (n_v 0) (n_nil)) (wl1 wl0))) (n_sc (n_do (n_call (ok_look_at_beat W) (hr.mono (by omega)) passN rfl (n_cons (n_v 1) (n_nil)) (wl1 wl0))) (n_never))
abbrev st_open_between : Stmt := top 64
theorem sc_open_between : FnScope ["crew", "beat", "place", "last", "there"] ["crew", "beat", "place", "last"] (defScope st_open_between) := ⟨rfl, rfl, rfl, by decide +kernel, rfl, by decide +kernel, by decide +kernel⟩
def w_open_between : WSt := wSeq (wDo (wCall (s_look_at_crew) (wCons (wV 0) (wNil)))) (wSeq (wDo (wCall (s_look_at_beat) (wCons (wV 1) (wNil)))) (wSeq (wDo (wCall (s_look_at_place) (wCons (wV 2) (wNil)))) (wNo)))
def s_open_between : Fn := semOf 4 5 w_open_between
theorem ok_open_between {P : Program} {w : World} {K : PySem.W.Frag} {mg : Str → Option Value} {base : Heap} {T : List (Addr × Str)} {cl : Str → Option Addr} (W : Wd P w K mg base T cl) : Gf P w K mg base T cl 5 "open_between" 4 s_open_between := by
  obtain ⟨fa, fd, F, hm⟩ := W.d_open_between
  refine ⟨fa, fd, ["crew", "beat", "place", "last"], fn_pure 5 T cl w_open_between F sc_open_between rfl fun cdv A outer s H E Fz hr => ?_, hm, F.kp, F.bindsN fun _ _ _ _ _ _ us hl => match us, hl with | [_, _, _, _], _ => rfl⟩
  exact n_sc (n_do (n_call (ok_look_at_crew W) (hr.mono (by omega)) passN rfl (n_cons (n_v 0) (n_nil)) (wl1 wl0))) (n_sc (n_do (n_call (ok_look_at_beat W) (hr.mono (by omega)) passN rfl (n_cons (n_v 1) (n_nil)) (wl1 wl0))) (n_sc (n_do (n_call (ok_look_at_place W) (hr.mono (by omega)) passN rfl (n_cons (n_v 2) (n_nil)) (wl1 wl0))) (n_never)))
abbrev st_fate : Stmt := top 73
theorem sc_fate : FnScope ["crew", "place"] ["crew", "place"] (defScope st_fate) := ⟨rfl, rfl, rfl, by decide +kernel, rfl, by decide +kernel, by decide +kernel⟩
def w_fate : WSt := wSeq (wDo (wCall (s_look_at_crew) (wCons (wV 0) (wNil)))) (wSeq (wDo (wCall (s_look_at_place) (wCons (wV 1) (wNil)))) (wNo))
def s_fate : Fn := semOf 2 2 w_fate
theorem ok_fate {P : Program} {w : World} {K : PySem.W.Frag} {mg : Str → Option Value} {base : Heap} {T : List (Addr × Str)} {cl : Str → Option Addr} (W : Wd P w K mg base T cl) : Gf P w K mg base T cl 5 "fate" 2 s_fate := by
  obtain ⟨fa, fd, F, hm⟩ := W.d_fate
  refine ⟨fa, fd, ["crew", "place"], fn_pure 2 T cl w_fate F sc_fate rfl fun cdv A outer s H E Fz hr => ?_, hm, F.kp, F.bindsN fun _ _ _ _ _ _ us hl => match us, hl with | [_, _], _ => rfl⟩
  exact n_sc (n_do (n_call (ok_look_at_crew W) (hr.mono (by omega)) passN rfl (n_cons (n_v 0) (n_nil)) (wl1 wl0))) (n_sc (n_do (n_call (ok_look_at_place W) (hr.mono (by omega)) passN rfl (n_cons (n_v 1) (n_nil)) (wl1 wl0))) (n_never))
abbrev st_settled : Stmt := top 74
theorem sc_settled : FnScope ["crew", "place"] ["crew", "place"] (defScope st_settled) := ⟨rfl, rfl, rfl, by decide +kernel, rfl, by decide +kernel, by decide +kernel⟩
def w_settled : WSt := wSeq (wDo (wCall (s_look_at_crew) (wCons (wV 0) (wNil)))) (wSeq (wDo (wCall (s_look_at_place) (wCons (wV 1) (wNil)))) (wNo))
def s_settled : Fn := semOf 2 2 w_settled
theorem ok_settled {P : Program} {w : World} {K : PySem.W.Frag} {mg : Str → Option Value} {base : Heap} {T : List (Addr × Str)} {cl : Str → Option Addr} (W : Wd P w K mg base T cl) : Gf P w K mg base T cl 5 "settled" 2 s_settled := by
  obtain ⟨fa, fd, F, hm⟩ := W.d_settled
  refine ⟨fa, fd, ["crew", "place"], fn_pure 2 T cl w_settled F sc_settled rfl fun cdv A outer s H E Fz hr => ?_, hm, F.kp, F.bindsN fun _ _ _ _ _ _ us hl => match us, hl with | [_, _], _ => rfl⟩
  exact n_sc (n_do (n_call (ok_look_at_crew W) (hr.mono (by omega)) passN rfl (n_cons (n_v 0) (n_nil)) (wl1 wl0))) (n_sc (n_do (n_call (ok_look_at_place W) (hr.mono (by omega)) passN rfl (n_cons (n_v 1) (n_nil)) (wl1 wl0))) (n_never))
abbrev st_right : Stmt := top 75
theorem sc_right : FnScope ["crew"] ["crew"] (defScope st_right) := ⟨rfl, rfl, rfl, by decide +kernel, rfl, by decide +kernel, by decide +kernel⟩
def w_right : WSt := wSeq (wDo (wCall (s_look_at_crew) (wCons (wV 0) (wNil)))) (wNo)
def s_right : Fn := semOf 1 1 w_right
theorem ok_right {P : Program} {w : World} {K : PySem.W.Frag} {mg : Str → Option Value} {base : Heap} {T : List (Addr × Str)} {cl : Str → Option Addr} (W : Wd P w K mg base T cl) : Gf P w K mg base T cl 5 "right" 1 s_right := by
  obtain ⟨fa, fd, F, hm⟩ := W.d_right
  refine ⟨fa, fd, ["crew"], fn_pure 1 T cl w_right F sc_right rfl fun cdv A outer s H E Fz hr => ?_, hm, F.kp, F.bindsN fun _ _ _ _ _ _ us hl => match us, hl with | [_], _ => rfl⟩
  exact n_sc (n_do (n_call (ok_look_at_crew W) (hr.mono (by omega)) passN rfl (n_cons (n_v 0) (n_nil)) (wl1 wl0))) (n_never)
abbrev st_left : Stmt := top 76
theorem sc_left : FnScope ["crew"] ["crew"] (defScope st_left) := ⟨rfl, rfl, rfl, by decide +kernel, rfl, by decide +kernel, by decide +kernel⟩
def w_left : WSt := wSeq (wDo (wCall (s_look_at_crew) (wCons (wV 0) (wNil)))) (wNo)
def s_left : Fn := semOf 1 1 w_left
theorem ok_left {P : Program} {w : World} {K : PySem.W.Frag} {mg : Str → Option Value} {base : Heap} {T : List (Addr × Str)} {cl : Str → Option Addr} (W : Wd P w K mg base T cl) : Gf P w K mg base T cl 5 "left" 1 s_left := by
  obtain ⟨fa, fd, F, hm⟩ := W.d_left
  refine ⟨fa, fd, ["crew"], fn_pure 1 T cl w_left F sc_left rfl fun cdv A outer s H E Fz hr => ?_, hm, F.kp, F.bindsN fun _ _ _ _ _ _ us hl => match us, hl with | [_], _ => rfl⟩
  exact n_sc (n_do (n_call (ok_look_at_crew W) (hr.mono (by omega)) passN rfl (n_cons (n_v 0) (n_nil)) (wl1 wl0))) (n_never)
abbrev st_alike : Stmt := top 80
theorem sc_alike : FnScope ["one", "other"] ["one", "other"] (defScope st_alike) := ⟨rfl, rfl, rfl, by decide +kernel, rfl, by decide +kernel, by decide +kernel⟩
def w_alike : WSt := wSeq (wDo (wCall (s_look_at_crew) (wCons (wV 0) (wNil)))) (wSeq (wDo (wCall (s_look_at_crew) (wCons (wV 1) (wNil)))) (wNo))
def s_alike : Fn := semOf 2 2 w_alike
theorem ok_alike {P : Program} {w : World} {K : PySem.W.Frag} {mg : Str → Option Value} {base : Heap} {T : List (Addr × Str)} {cl : Str → Option Addr} (W : Wd P w K mg base T cl) : Gf P w K mg base T cl 5 "alike" 2 s_alike := by
  obtain ⟨fa, fd, F, hm⟩ := W.d_alike
  refine ⟨fa, fd, ["one", "other"], fn_pure 2 T cl w_alike F sc_alike rfl fun cdv A outer s H E Fz hr => ?_, hm, F.kp, F.bindsN fun _ _ _ _ _ _ us hl => match us, hl with | [_, _], _ => rfl⟩
  exact n_sc (n_do (n_call (ok_look_at_crew W) (hr.mono (by omega)) passN rfl (n_cons (n_v 0) (n_nil)) (wl1 wl0))) (n_sc (n_do (n_call (ok_look_at_crew W) (hr.mono (by omega)) passN rfl (n_cons (n_v 1) (n_nil)) (wl1 wl0))) (n_never))
abbrev st_parting : Stmt := top 81
theorem sc_parting : FnScope ["one", "other"] ["one", "other"] (defScope st_parting) := ⟨rfl, rfl, rfl, by decide +kernel, rfl, by decide +kernel, by decide +kernel⟩
def w_parting : WSt := wSeq (wDo (wCall (s_look_at_crew) (wCons (wV 0) (wNil)))) (wSeq (wDo (wCall (s_look_at_crew) (wCons (wV 1) (wNil)))) (wNo))
def s_parting : Fn := semOf 2 2 w_parting
theorem ok_parting {P : Program} {w : World} {K : PySem.W.Frag} {mg : Str → Option Value} {base : Heap} {T : List (Addr × Str)} {cl : Str → Option Addr} (W : Wd P w K mg base T cl) : Gf P w K mg base T cl 5 "parting" 2 s_parting := by
  obtain ⟨fa, fd, F, hm⟩ := W.d_parting
  refine ⟨fa, fd, ["one", "other"], fn_pure 2 T cl w_parting F sc_parting rfl fun cdv A outer s H E Fz hr => ?_, hm, F.kp, F.bindsN fun _ _ _ _ _ _ us hl => match us, hl with | [_, _], _ => rfl⟩
  exact n_sc (n_do (n_call (ok_look_at_crew W) (hr.mono (by omega)) passN rfl (n_cons (n_v 0) (n_nil)) (wl1 wl0))) (n_sc (n_do (n_call (ok_look_at_crew W) (hr.mono (by omega)) passN rfl (n_cons (n_v 1) (n_nil)) (wl1 wl0))) (n_never))
abbrev st_idle_walkers : Stmt := top 82
theorem sc_idle_walkers : FnScope ["crew", "many", "walker"] ["crew"] (defScope st_idle_walkers) := ⟨rfl, rfl, rfl, by decide +kernel, rfl, by decide +kernel, by decide +kernel⟩
def w_idle_walkers : WSt := wSeq (wDo (wCall (s_look_at_crew) (wCons (wV 0) (wNil)))) (wNo)
def s_idle_walkers : Fn := semOf 1 3 w_idle_walkers
theorem ok_idle_walkers {P : Program} {w : World} {K : PySem.W.Frag} {mg : Str → Option Value} {base : Heap} {T : List (Addr × Str)} {cl : Str → Option Addr} (W : Wd P w K mg base T cl) : Gf P w K mg base T cl 5 "idle_walkers" 1 s_idle_walkers := by
  obtain ⟨fa, fd, F, hm⟩ := W.d_idle_walkers
  refine ⟨fa, fd, ["crew"], fn_pure 3 T cl w_idle_walkers F sc_idle_walkers rfl fun cdv A outer s H E Fz hr => ?_, hm, F.kp, F.bindsN fun _ _ _ _ _ _ us hl => match us, hl with | [_], _ => rfl⟩
  exact n_sc (n_do (n_call (ok_look_at_crew W) (hr.mono (by omega)) passN rfl (n_cons (n_v 0) (n_nil)) (wl1 wl0))) (n_never)
abbrev st_look_at_two : Stmt := top 86
theorem sc_look_at_two : FnScope ["crew", "walker", "another"] ["crew", "walker", "another"] (defScope st_look_at_two) := ⟨rfl, rfl, rfl, by decide +kernel, rfl, by decide +kernel, by decide +kernel⟩
def w_look_at_two : WSt := wSeq (wDo (wCall (s_look_at_crew) (wCons (wV 0) (wNil)))) (wNo)
def s_look_at_two : Fn := semOf 3 3 w_look_at_two
theorem ok_look_at_two {P : Program} {w : World} {K : PySem.W.Frag} {mg : Str → Option Value} {base : Heap} {T : List (Addr × Str)} {cl : Str → Option Addr} (W : Wd P w K mg base T cl) : Gf P w K mg base T cl 5 "look_at_two" 3 s_look_at_two := by
  obtain ⟨fa, fd, F, hm⟩ := W.d_look_at_two
  refine ⟨fa, fd, ["crew", "walker", "another"], fn_pure 3 T cl w_look_at_two F sc_look_at_two rfl fun cdv A outer s H E Fz hr => ?_, hm, F.kp, F.bindsN fun _ _ _ _ _ _ us hl => match us, hl with | [_, _, _], _ => rfl⟩
  exact n_sc (n_do (n_call (ok_look_at_crew W) (hr.mono (by omega)) passN rfl (n_cons (n_v 0) (n_nil)) (wl1 wl0))) (n_never)
abbrev st_meets : Stmt := top 87
theorem sc_meets : FnScope ["crew", "walker", "another", "size", "beats", "beat"] ["crew", "walker", "another"] (defScope st_meets) := ⟨rfl, rfl, rfl, by decide +kernel, rfl, by decide +kernel, by decide +kernel⟩
def w_meets : WSt := wSeq (wDo (wCall (s_look_at_two) (wCons (wV 0) (wCons (wV 1) (wCons (wV 2) (wNil)))))) (wNo)
def s_meets : Fn := semOf 3 6 w_meets
theorem ok_meets {P : Program} {w : World} {K : PySem.W.Frag} {mg : Str → Option Value} {base : Heap} {T : List (Addr × Str)} {cl : Str → Option Addr} (W : Wd P w K mg base T cl) : Gf P w K mg base T cl 6 "meets" 3 s_meets := by
  obtain ⟨fa, fd, F, hm⟩ := W.d_meets
  refine ⟨fa, fd, ["crew", "walker", "another"], fn_pure 6 T cl w_meets F sc_meets rfl fun cdv A outer s H E Fz hr => ?_, hm, F.kp, F.bindsN fun _ _ _ _ _ _ us hl => match us, hl with | [_, _, _], _ => rfl⟩
  exact n_sc (n_do (n_call (ok_look_at_two W) (hr.mono (by omega)) passN rfl (n_cons (n_v 0) (n_cons (n_v 1) (n_cons (n_v 2) (n_nil)))) (wl1 (wl1 (wl1 wl0))))) (n_never)
abbrev st_next_meeting : Stmt := top 88
theorem sc_next_meeting : FnScope ["crew", "walker", "another", "beat", "size", "beats", "later", "one"] ["crew", "walker", "another", "beat"] (defScope st_next_meeting) := ⟨rfl, rfl, rfl, by decide +kernel, rfl, by decide +kernel, by decide +kernel⟩
def w_next_meeting : WSt := wSeq (wDo (wCall (s_look_at_two) (wCons (wV 0) (wCons (wV 1) (wCons (wV 2) (wNil)))))) (wNo)
def s_next_meeting : Fn := semOf 4 8 w_next_meeting
theorem ok_next_meeting {P : Program} {w : World} {K : PySem.W.Frag} {mg : Str → Option Value} {base : Heap} {T : List (Addr × Str)} {cl : Str → Option Addr} (W : Wd P w K mg base T cl) : Gf P w K mg base T cl 6 "next_meeting" 4 s_next_meeting := by
  obtain ⟨fa, fd, F, hm⟩ := W.d_next_meeting
  refine ⟨fa, fd, ["crew", "walker", "another", "beat"], fn_pure 8 T cl w_next_meeting F sc_next_meeting rfl fun cdv A outer s H E Fz hr => ?_, hm, F.kp, F.bindsN fun _ _ _ _ _ _ us hl => match us, hl with | [_, _, _, _], _ => rfl⟩
  exact n_sc (n_do (n_call (ok_look_at_two W) (hr.mono (by omega)) passN rfl (n_cons (n_v 0) (n_cons (n_v 1) (n_cons (n_v 2) (n_nil)))) (wl1 (wl1 (wl1 wl0))))) (n_never)
abbrev st_count_meetings : Stmt := top 89
theorem sc_count_meetings : FnScope ["crew", "walker", "another", "beat", "size", "beats", "one"] ["crew", "walker", "another", "beat"] (defScope st_count_meetings) := ⟨rfl, rfl, rfl, by decide +kernel, rfl, by decide +kernel, by decide +kernel⟩
def w_count_meetings : WSt := wSeq (wDo (wCall (s_look_at_two) (wCons (wV 0) (wCons (wV 1) (wCons (wV 2) (wNil)))))) (wNo)
def s_count_meetings : Fn := semOf 4 7 w_count_meetings
theorem ok_count_meetings {P : Program} {w : World} {K : PySem.W.Frag} {mg : Str → Option Value} {base : Heap} {T : List (Addr × Str)} {cl : Str → Option Addr} (W : Wd P w K mg base T cl) : Gf P w K mg base T cl 6 "count_meetings" 4 s_count_meetings := by
  obtain ⟨fa, fd, F, hm⟩ := W.d_count_meetings
  refine ⟨fa, fd, ["crew", "walker", "another", "beat"], fn_pure 7 T cl w_count_meetings F sc_count_meetings rfl fun cdv A outer s H E Fz hr => ?_, hm, F.kp, F.bindsN fun _ _ _ _ _ _ us hl => match us, hl with | [_, _, _, _], _ => rfl⟩
  exact n_sc (n_do (n_call (ok_look_at_two W) (hr.mono (by omega)) passN rfl (n_cons (n_v 0) (n_cons (n_v 1) (n_cons (n_v 2) (n_nil)))) (wl1 (wl1 (wl1 wl0))))) (n_never)
abbrev st_look_at_seen : Stmt := top 95
theorem sc_look_at_seen : FnScope ["crew", "walker", "seen", "sight"] ["crew", "walker", "seen"] (defScope st_look_at_seen) := ⟨rfl, rfl, rfl, by decide +kernel, rfl, by decide +kernel, by decide +kernel⟩
def w_look_at_seen : WSt := wSeq (wDo (wCall (s_look_at_crew) (wCons (wV 0) (wNil)))) (wNo)
def s_look_at_seen : Fn := semOf 3 4 w_look_at_seen
theorem ok_look_at_seen {P : Program} {w : World} {K : PySem.W.Frag} {mg : Str → Option Value} {base : Heap} {T : List (Addr × Str)} {cl : Str → Option Addr} (W : Wd P w K mg base T cl) : Gf P w K mg base T cl 5 "look_at_seen" 3 s_look_at_seen := by
  obtain ⟨fa, fd, F, hm⟩ := W.d_look_at_seen
  refine ⟨fa, fd, ["crew", "walker", "seen"], fn_pure 4 T cl w_look_at_seen F sc_look_at_seen rfl fun cdv A outer s H E Fz hr => ?_, hm, F.kp, F.bindsN fun _ _ _ _ _ _ us hl => match us, hl with | [_, _, _], _ => rfl⟩
  exact n_sc (n_do (n_call (ok_look_at_crew W) (hr.mono (by omega)) passN rfl (n_cons (n_v 0) (n_nil)) (wl1 wl0))) (n_never)
abbrev st_starts_for : Stmt := top 98
theorem sc_starts_for : FnScope ["crew", "walker", "seen", "start", "steps", "deed", "other"] ["crew", "walker", "seen"] (defScope st_starts_for) := ⟨rfl, rfl, rfl, by decide +kernel, rfl, by decide +kernel, by decide +kernel⟩
def w_starts_for : WSt := wSeq (wDo (wCall (s_look_at_seen) (wCons (wV 0) (wCons (wV 1) (wCons (wV 2) (wNil)))))) (wNo)
def s_starts_for : Fn := semOf 3 7 w_starts_for
theorem ok_starts_for {P : Program} {w : World} {K : PySem.W.Frag} {mg : Str → Option Value} {base : Heap} {T : List (Addr × Str)} {cl : Str → Option Addr} (W : Wd P w K mg base T cl) : Gf P w K mg base T cl 6 "starts_for" 3 s_starts_for := by
  obtain ⟨fa, fd, F, hm⟩ := W.d_starts_for
  refine ⟨fa, fd, ["crew", "walker", "seen"], fn_pure 7 T cl w_starts_for F sc_starts_for rfl fun cdv A outer s H E Fz hr => ?_, hm, F.kp, F.bindsN fun _ _ _ _ _ _ us hl => match us, hl with | [_, _, _], _ => rfl⟩
  exact n_sc (n_do (n_call (ok_look_at_seen W) (hr.mono (by omega)) passN rfl (n_cons (n_v 0) (n_cons (n_v 1) (n_cons (n_v 2) (n_nil)))) (wl1 (wl1 (wl1 wl0))))) (n_never)
abbrev st_deeds_for : Stmt := top 99
theorem sc_deeds_for : FnScope ["crew", "walker", "seen", "start", "steps", "deed", "other"] ["crew", "walker", "seen"] (defScope st_deeds_for) := ⟨rfl, rfl, rfl, by decide +kernel, rfl, by decide +kernel, by decide +kernel⟩
def w_deeds_for : WSt := wSeq (wDo (wCall (s_look_at_seen) (wCons (wV 0) (wCons (wV 1) (wCons (wV 2) (wNil)))))) (wNo)
def s_deeds_for : Fn := semOf 3 7 w_deeds_for
theorem ok_deeds_for {P : Program} {w : World} {K : PySem.W.Frag} {mg : Str → Option Value} {base : Heap} {T : List (Addr × Str)} {cl : Str → Option Addr} (W : Wd P w K mg base T cl) : Gf P w K mg base T cl 6 "deeds_for" 3 s_deeds_for := by
  obtain ⟨fa, fd, F, hm⟩ := W.d_deeds_for
  refine ⟨fa, fd, ["crew", "walker", "seen"], fn_pure 7 T cl w_deeds_for F sc_deeds_for rfl fun cdv A outer s H E Fz hr => ?_, hm, F.kp, F.bindsN fun _ _ _ _ _ _ us hl => match us, hl with | [_, _, _], _ => rfl⟩
  exact n_sc (n_do (n_call (ok_look_at_seen W) (hr.mono (by omega)) passN rfl (n_cons (n_v 0) (n_cons (n_v 1) (n_cons (n_v 2) (n_nil)))) (wl1 (wl1 (wl1 wl0))))) (n_never)
abbrev st_crew_text : Stmt := top 105
theorem sc_crew_text : FnScope ["crew"] ["crew"] (defScope st_crew_text) := ⟨rfl, rfl, rfl, by decide +kernel, rfl, by decide +kernel, by decide +kernel⟩
def w_crew_text : WSt := wSeq (wDo (wCall (s_look_at_crew) (wCons (wV 0) (wNil)))) (wNo)
def s_crew_text : Fn := semOf 1 1 w_crew_text
theorem ok_crew_text {P : Program} {w : World} {K : PySem.W.Frag} {mg : Str → Option Value} {base : Heap} {T : List (Addr × Str)} {cl : Str → Option Addr} (W : Wd P w K mg base T cl) : Gf P w K mg base T cl 5 "crew_text" 1 s_crew_text := by
  obtain ⟨fa, fd, F, hm⟩ := W.d_crew_text
  refine ⟨fa, fd, ["crew"], fn_pure 1 T cl w_crew_text F sc_crew_text rfl fun cdv A outer s H E Fz hr => ?_, hm, F.kp, F.bindsN fun _ _ _ _ _ _ us hl => match us, hl with | [_], _ => rfl⟩
  exact n_sc (n_do (n_call (ok_look_at_crew W) (hr.mono (by omega)) passN rfl (n_cons (n_v 0) (n_nil)) (wl1 wl0))) (n_never)
abbrev st__law_spring : Stmt := top 113
theorem sc__law_spring : FnScope ["script", "at", "cell", "mixed"] ["script", "at"] (defScope st__law_spring) := ⟨rfl, rfl, rfl, by decide +kernel, rfl, by decide +kernel, by decide +kernel⟩
theorem ok__law_spring {P : Program} {w : World} {K : PySem.W.Frag} {mg : Str → Option Value} {base : Heap} {T : List (Addr × Str)} {cl : Str → Option Addr} (W : Wd P w K mg base T cl) : GfO P w K mg base T cl 1 "_law_spring" 2 s__law_spring := by
  obtain ⟨fa, fd, F, hm⟩ := W.d__law_spring
  refine ⟨fa, fd, ["script", "at"], fn_own 4 T cl w__law_spring F sc__law_spring rfl fun cdv A outer s H E Fz hr => ?_, hm, F.kp, F.bindsN fun _ _ _ _ _ _ us hl => match us, hl with | [_, _], _ => rfl⟩
  exact n_sc (n_as (i := 2) (⟨lt_by rfl, fun h => absurd rfl h⟩) sc__law_spring.nd rfl (Or.inl rfl) (n_int)) (n_sc (n_if (n_tlt (n_v 1) (n_len rfl W.f_len (n_cons (n_v 0) (n_nil)))) (n_s1 (n_as (i := 2) (⟨lt_by rfl, fun h => absurd rfl h⟩) sc__law_spring.nd rfl (Or.inl rfl) (n_abs rfl W.f_abs (n_cons (n_ix (n_v 0) (n_v 1)) (n_nil))))) (n_sn)) (n_sc (n_as (i := 3) (⟨lt_by rfl, fun h => absurd rfl h⟩) sc__law_spring.nd rfl (Or.inl rfl) (n_mod (n_intO rfl W.f_int (n_cons (n_add (n_add (n_mul (n_v 2) (n_int)) (n_mul (n_int) (n_v 1))) (n_int)) (n_nil))) (n_int))) (n_s1 (n_retL (n_cons (n_ife (n_tge (n_v 2) (n_pow (n_int) (n_int))) (n_v 2) (n_int)) (n_cons (n_v 3) (n_nil)))))))
abbrev st__law_pick : Stmt := top 114
theorem sc__law_pick : FnScope ["spring", "many", "digit"] ["spring", "many"] (defScope st__law_pick) := ⟨rfl, rfl, rfl, by decide +kernel, rfl, by decide +kernel, by decide +kernel⟩
theorem ok__law_pick {P : Program} {w : World} {K : PySem.W.Frag} {mg : Str → Option Value} {base : Heap} {T : List (Addr × Str)} {cl : Str → Option Addr} (W : Wd P w K mg base T cl) : GfM P w K mg base T cl 1 "_law_pick" 1 s__law_pick := by
  obtain ⟨fa, fd, F, hm⟩ := W.d__law_pick
  refine ⟨fa, fd, ["spring", "many"], fn_borrow 3 T cl w__law_pick F sc__law_pick rfl (m := 1) rfl fun cdv A outer s H E Fz p hr => ?_, hm, F.kp, F.bindsN fun _ _ _ _ _ _ us hl => match us, hl with | [_, _], _ => rfl⟩
  exact n_sc (n_if (n_tgt (n_ixO (i := 0) (n_int)) (n_int)) (n_sc (n_as (i := 2) (⟨lt_by rfl, fun _ => by decide⟩) sc__law_pick.nd rfl (Or.inl rfl) (n_mod (n_intO rfl W.f_int (n_cons (n_ixO (i := 0) (n_int)) (n_nil))) (n_v 1))) (n_sc (n_setO (i := 0) (n_int) (n_div (n_ixO (i := 0) (n_int)) (n_v 1))) (n_s1 (n_ret (n_v 2))))) (n_sn)) (n_sc (n_setO (i := 0) (n_int) (n_mod (n_intO rfl W.f_int (n_cons (n_add (n_mul (n_ixO (i := 0) (n_int)) (n_int)) (n_int)) (n_nil))) (n_int))) (n_s1 (n_ret (n_mod (n_intO rfl W.f_int (n_cons (n_div (n_ixO (i := 0) (n_int)) (n_int)) (n_nil))) (n_v 1)))))
abbrev st__law_walker : Stmt := top 117
theorem sc__law_walker : FnScope ["spring", "wide", "far", "steps", "deed", "turn"] ["spring", "wide", "far"] (defScope st__law_walker) := ⟨rfl, rfl, rfl, by decide +kernel, rfl, by decide +kernel, by decide +kernel⟩
theorem ok__law_walker {P : Program} {w : World} {K : PySem.W.Frag} {mg : Str → Option Value} {base : Heap} {T : List (Addr × Str)} {cl : Str → Option Addr} (W : Wd P w K mg base T cl) : GfM P w K mg base T cl 2 "_law_walker" 2 s__law_walker := by
  obtain ⟨fa, fd, F, hm⟩ := W.d__law_walker
  refine ⟨fa, fd, ["spring", "wide", "far"], fn_borrow 6 T cl w__law_walker F sc__law_walker rfl (m := 2) rfl fun cdv A outer s H E Fz p hr => ?_, hm, F.kp, F.bindsN fun _ _ _ _ _ _ us hl => match us, hl with | [_, _, _], _ => rfl⟩
  exact n_sc (n_asLc (own := [("turn", 5)]) (i := 3) (⟨lt_by rfl, fun _ => by decide⟩) rfl sc__law_walker.nd rfl rfl (sw_true rfl rfl rfl rfl) (n_rg1 rfl W.f_range (n_cons (n_add (n_int) (n_callM (i := 0) (ok__law_pick W) (hr.mono (by omega)) passN rfl (n_cons (n_int) (n_nil)) (wl1 wl0))) (n_nil))) (blkOk_by (own := [("turn", 5)]) (N := ["spring", "wide", "far", "steps", "deed", "turn"]) (sc := defScope st__law_walker) (by decide +kernel)) (own_hv (l := [5]) rfl) (raw_n (own_hv (l := [5]) rfl 5 (by simp)) (by simp)) (fun s H C cl fp => pg_name (i := 5) sc__law_walker.nd rfl (Or.inl rfl)) (fun Da o s H C cl fp => pts_nilx) (fun Da o s H C cl fp => n_sub (n_callM (i := 0) (ok__law_pick W) (hr.mono (by omega)) passN0 rfl (n_cons (n_add (n_mul (n_int) (n_v 1)) (n_int)) (n_nil)) (wl1 wl0)) (n_v 1))) (n_sc (n_while 8 ownN (n_tgt (n_abs rfl W.f_abs (n_cons (n_sum rfl rfl W.f_sum (n_cons (n_v 3) (n_nil))) (n_nil))) (n_v 2)) (n_s1 (n_as (i := 3) (⟨lt_by rfl, fun _ => by decide⟩) sc__law_walker.nd rfl (Or.inl rfl) (n_sl (n_v 3) (n_p0) (n_p1 (n_neg (n_int))))))) (n_sc (n_as (i := 4) (⟨lt_by rfl, fun _ => by decide⟩) sc__law_walker.nd rfl (Or.inl rfl) (n_ix (n_lst (n_cons (n_str) (n_cons (n_str) (n_cons (n_str) (n_cons (n_str) (n_cons (n_str) (n_cons (n_str) (n_nil)))))))) (n_callM (i := 0) (ok__law_pick W) (hr.mono (by omega)) passN rfl (n_cons (n_int) (n_nil)) (wl1 wl0)))) (n_s1 (n_ret (n_tup (n_cons (n_sub (n_callM (i := 0) (ok__law_pick W) (hr.mono (by omega)) passN rfl (n_cons (n_int) (n_nil)) (wl1 wl0)) (n_int)) (n_cons (n_ife (n_tne hr.units (n_v 3) (n_lst (n_nil))) (n_tupO rfl W.f_tuple (n_cons (n_v 3) (n_nil))) (n_tup (n_cons (n_int) (n_nil)))) (n_cons (n_v 4) (n_nil)))))))))
abbrev st__law_crew : Stmt := top 118
theorem sc__law_crew : FnScope ["spring", "wide", "far", "turn"] ["spring", "wide", "far"] (defScope st__law_crew) := ⟨rfl, rfl, rfl, by decide +kernel, rfl, by decide +kernel, by decide +kernel⟩
theorem ok__law_crew {P : Program} {w : World} {K : PySem.W.Frag} {mg : Str → Option Value} {base : Heap} {T : List (Addr × Str)} {cl : Str → Option Addr} (W : Wd P w K mg base T cl) : GfM P w K mg base T cl 3 "_law_crew" 2 s__law_crew := by
  obtain ⟨fa, fd, F, hm⟩ := W.d__law_crew
  refine ⟨fa, fd, ["spring", "wide", "far"], fn_borrow 4 T cl w__law_crew F sc__law_crew rfl (m := 2) rfl fun cdv A outer s H E Fz p hr => ?_, hm, F.kp, F.bindsN fun _ _ _ _ _ _ us hl => match us, hl with | [_, _, _], _ => rfl⟩
  exact n_s1 (n_ret (n_tupO rfl W.f_tuple (n_cons (n_lc (own := [("turn", 3)]) rfl sc__law_crew.nd (n_rg1 rfl W.f_range (n_cons (n_add (n_int) (n_callM (i := 0) (ok__law_pick W) (hr.mono (by omega)) passN rfl (n_cons (n_int) (n_nil)) (wl1 wl0))) (n_nil))) (blkOk_by (own := [("turn", 3)]) (N := ["spring", "wide", "far", "turn"]) (sc := defScope st__law_crew) (by decide +kernel)) (own_hv (l := [3]) rfl) (raw_n (own_hv (l := [3]) rfl 3 (by simp)) (by simp)) (fun s H C cl fp => pg_name (i := 3) sc__law_crew.nd rfl (Or.inl rfl)) (fun Da o s H C cl fp => pts_nilx) (fun Da o s H C cl fp => n_callM (i := 0) (ok__law_walker W) (hr.mono (by omega)) passN0 rfl (n_cons (n_v 1) (n_cons (n_v 2) (n_nil))) (wl1 (wl1 wl0)))) (n_nil))))
abbrev st__law_error_of : Stmt := top 122
theorem sc__law_error_of : FnScope ["e", "some", "word", "good"] ["e"] (defScope st__law_error_of) := ⟨rfl, rfl, rfl, by decide +kernel, rfl, by decide +kernel, by decide +kernel⟩
theorem ok__law_error_of {P : Program} {w : World} {K : PySem.W.Frag} {mg : Str → Option Value} {base : Heap} {T : List (Addr × Str)} {cl : Str → Option Addr} (W : Wd P w K mg base T cl) : GErr P w K mg base T cl 1 "_law_error_of" errN := by
  obtain ⟨fa, fd, F, hm⟩ := W.d__law_error_of
  refine gErr_of 4 wErr F sc__law_error_of rfl hm (F.bindsN fun _ _ _ _ _ _ us hl => match us, hl with | [_], _ => rfl) err_mean fun cdv A outer s H E p Fz c n C hc he hz hf hot hr => ?_
  have HC : L2H.HotC (L2H.cxH (L2N.CX P w) P w K mg base ["e", "some", "word", "good"] "_law_error_of" (defScope st__law_error_of) fa cdv A outer s H E p) := ⟨p, hot, List.mem_cons_self⟩
  have MEM : p ∈ (L2H.cxH (L2N.CX P w) P w K mg base ["e", "some", "word", "good"] "_law_error_of" (defScope st__law_error_of) fa cdv A outer s H E p).pn := List.mem_cons_self
  have KC := W.cls c n C hc he
  exact n_sc (n_asL (i := 1) ⟨lt_by rfl, fun h => absurd rfl h⟩ sc__law_error_of.nd rfl (Or.inl rfl) (n_cons (n_tup (n_cons n_str (n_cons (n_isE MEM hz hf KC W.c_InvalidCrew rfl W.f_isinstance rfl) n_nil))) n_nil)) (n_sc (n_app (i := 1) (n_tup (n_cons n_str (n_cons (n_isE MEM hz hf KC W.c_InvalidWalker rfl W.f_isinstance rfl) n_nil)))) (n_sc (n_app (i := 1) (n_tup (n_cons n_str (n_cons (n_isE MEM hz hf KC W.c_InvalidBeat rfl W.f_isinstance rfl) n_nil)))) (n_sc (n_app (i := 1) (n_tup (n_cons n_str (n_cons (n_isE MEM hz hf KC W.c_InvalidPlace rfl W.f_isinstance rfl) n_nil)))) (n_sc (n_app (i := 1) (n_tup (n_cons n_str (n_cons (n_isE MEM hz hf KC W.c_InvalidSeen rfl W.f_isinstance rfl) n_nil)))) (n_sc (n_app (i := 1) (n_tup (n_cons n_str (n_cons (n_isE MEM hz hf KC W.c_InvalidText rfl W.f_isinstance rfl) n_nil)))) (n_sc (n_app (i := 1) (n_tup (n_cons n_str (n_cons (n_isE MEM hz hf KC W.c_NothingLeft rfl W.f_isinstance rfl) n_nil)))) (n_s1 (n_ret (n_join n_str (n_lcH (own := [("word", 2), ("good", 3)]) HC sc__law_error_of.nd (n_itH (n_fz (i := 1) ⟨lt_by rfl, fun h => absurd rfl h⟩)) (blkOk_by (own := [("word", 2), ("good", 3)]) (N := ["e", "some", "word", "good"]) (sc := defScope st__law_error_of) (by decide +kernel)) (own_hv (l := [2, 3]) rfl) (raw_t (is := [2, 3]) (fun i hi => ⟨own_hv (l := [2, 3]) rfl i hi, hi⟩)) (fun s H C cl fp => pg_tupH HC (pgs_cons (pg_name (i := 2) sc__law_error_of.nd rfl (Or.inl rfl)) (pgs_cons (pg_name (i := 3) sc__law_error_of.nd rfl (Or.inl rfl)) pgs_nil))) (fun Da o s H C cl fp => pts_onex (n_t (n_v 3))) (fun Da o s H C cl fp => n_v 2)) (hstr := fun _ _ _ h => by cases h; exact ⟨_, rfl⟩))))))))))
abbrev st__law_came : Stmt := top 123
theorem sc__law_came : FnScope ["call_so", "e"] ["call_so"] (defScope st__law_came) := ⟨rfl, rfl, rfl, by decide +kernel, rfl, by decide +kernel, by decide +kernel⟩
theorem ok__law_came {P : Program} {w : World} {K : PySem.W.Frag} {mg : Str → Option Value} {base : Heap} {T : List (Addr × Str)} {cl : Str → Option Addr} (W : Wd P w K mg base T cl) : GCame P w K mg base T cl 1 "_law_came" errN := by
  obtain ⟨g, fd, F, hm⟩ := W.d__law_came
  obtain ⟨CS, hS, hx⟩ := W.step
  exact ⟨g, fd, _, _, CS, "_law_error_of", _, _, _, _, _, _, _, _, _, _, _, F, sc__law_came, hm, F.bindsN fun _ _ _ _ _ _ us hl => match us, hl with | [_], _ => rfl, rfl, rfl, rfl, rfl, by decide, hS, ok__law_error_of W, hx⟩
abbrev st_Stair___init__ : Stmt := meth (top 92) 1
theorem sc_Stair___init__ : FnScope ["self", "crew"] ["self", "crew"] (defScope st_Stair___init__) := ⟨rfl, rfl, rfl, by decide +kernel, rfl, by decide +kernel, by decide +kernel⟩
def w_Stair___init__ : WSt := wSeq (wDo (wCall (s_look_at_crew) (wCons (wV 1) (wNil)))) (wNo)
def f_Stair : Fn := s_look_at_crew
theorem mk_Stair {P : Program} {w : World} {K : PySem.W.Frag} {mg : Str → Option Value} {base : Heap} {T : List (Addr × Str)} {cl : Str → Option Addr} (W : Wd P w K mg base T cl) : GMk P w K mg base T cl 5 "Stair" 1 f_Stair := by
  obtain ⟨C, fi, fd, M, hm, F⟩ := W.m_Stair
  refine ⟨C, fi, fd, ["self", "crew"], semOf 2 2 w_Stair___init__, M, fn_pure 2 T cl w_Stair___init__ F sc_Stair___init__ rfl fun cdv A outer s H E Fz hr => ?_, hm, F.bindsN fun _ _ _ _ _ _ us hl => match us, hl with | [_, _], _ => rfl, fun a ds c h => ?_⟩
  · exact n_sc (n_do (n_call (ok_look_at_crew W) (hr.mono (by omega)) passN rfl (n_cons (n_v 1) (n_nil)) (wl1 wl0))) (n_never)
  · exact mk_er (f := s_look_at_crew) h (semOf_len (w := w_look_at_crew) h)
abbrev st_Crew___init__ : Stmt := meth (top 111) 1
theorem sc_Crew___init__ : FnScope ["self", "walkers"] ((["self"] : List Str) ++ (["walkers"] : List Str)) (defScope st_Crew___init__) := ⟨rfl, rfl, rfl, by decide +kernel, rfl, by decide +kernel, by decide +kernel⟩
def w_Crew___init__ : WSt := wSeq (wDo (wCall (s_look_at_crew) (wCons (wV 1) (wNil)))) (wNo)
def f_Crew : Fn := fun ds => s_look_at_crew [.tup ds]
theorem mk_Crew {P : Program} {w : World} {K : PySem.W.Frag} {mg : Str → Option Value} {base : Heap} {T : List (Addr × Str)} {cl : Str → Option Addr} (W : Wd P w K mg base T cl) : GMkS P w K mg base T cl 5 "Crew" f_Crew := by
  obtain ⟨C, fi, fd, M, hm, F⟩ := W.m_Crew
  refine ⟨C, fi, semOf 2 2 w_Crew___init__, M, fn_starP (ps := ["self"]) 2 T cl w_Crew___init__ F sc_Crew___init__ rfl (fun kV doc pm an cdv ct => StX.bind_star1 (B := fun us => bindArgs (PySem.W.fnOf "__init__" "Crew.__init__" (defArgs st_Crew___init__) (defBody st_Crew___init__) (defScope st_Crew___init__) .none kV doc pm an cdv ct) ⟨us, []⟩) (fun _ => rfl) (fun _ _ _ => rfl)) fun cdv A outer s H E Fz hr => ?_, hm, fun a ds c h => ?_⟩
  · exact n_sc (n_do (n_call (ok_look_at_crew W) (hr.mono (by omega)) passN rfl (n_cons (n_v 1) (n_nil)) (wl1 wl0))) (n_never)
  · exact mk_er (f := s_look_at_crew) (ds := [.tup ds]) h rfl
abbrev st__law_of_crew : Stmt := top 124
theorem sc__law_of_crew : FnScope ["crew", "found"] ["crew"] (defScope st__law_of_crew) := ⟨rfl, rfl, rfl, by decide +kernel, rfl, by decide +kernel, by decide +kernel⟩
def wl__law_of_crew_1 : WEx := wCall (s_without) (wCons (wV 0) (wCons (wC .non) (wNil)))
def wl__law_of_crew_2 : WEx := wCall (s_place_at) (wCons (wV 0) (wCons (wC .non) (wCons (wC .non) (wNil))))
def wl__law_of_crew_3 : WEx := wCall (s_far_in) (wCons (wV 0) (wCons (wC .non) (wNil)))
def wl__law_of_crew_4 : WEx := wCall (s_is_open) (wCons (wV 0) (wCons (wC .non) (wCons (wC .non) (wNil))))
def wl__law_of_crew_5 : WEx := wCall (s_count_open) (wCons (wV 0) (wCons (wC .non) (wNil)))
def wl__law_of_crew_6 : WEx := wCall (s_ends_open) (wCons (wV 0) (wCons (wC .non) (wNil)))
def wl__law_of_crew_7 : WEx := wCall (s_open_between) (wCons (wV 0) (wCons (wC .non) (wCons (wC .non) (wCons (wC .non) (wNil)))))
def wl__law_of_crew_8 : WEx := wCall (s_fate) (wCons (wV 0) (wCons (wC .non) (wNil)))
def wl__law_of_crew_9 : WEx := wCall (s_settled) (wCons (wV 0) (wCons (wC .non) (wNil)))
def wl__law_of_crew_10 : WEx := wCall (s_right) (wCons (wV 0) (wNil))
def wl__law_of_crew_11 : WEx := wCall (s_left) (wCons (wV 0) (wNil))
def wl__law_of_crew_12 : WEx := wCall (s_meets) (wCons (wV 0) (wCons (wC .non) (wCons (wC .non) (wNil))))
def wl__law_of_crew_13 : WEx := wCall (s_next_meeting) (wCons (wV 0) (wCons (wC .non) (wCons (wC .non) (wCons (wC .non) (wNil)))))
def wl__law_of_crew_14 : WEx := wCall (s_count_meetings) (wCons (wV 0) (wCons (wC .non) (wCons (wC .non) (wCons (wC .non) (wNil)))))
def wl__law_of_crew_15 : WEx := wCall (s_alike) (wCons (wV 0) (wCons (wC .non) (wNil)))
def wl__law_of_crew_16 : WEx := wCall (s_parting) (wCons (wV 0) (wCons (wC .non) (wNil)))
def wl__law_of_crew_17 : WEx := wCall (s_idle_walkers) (wCons (wV 0) (wNil))
def wl__law_of_crew_18 : WEx := wCall (s_starts_for) (wCons (wV 0) (wCons (wC .non) (wCons (wC .non) (wNil))))
def wl__law_of_crew_19 : WEx := wCall (s_deeds_for) (wCons (wV 0) (wCons (wC .non) (wCons (wC .non) (wNil))))
def wl__law_of_crew_20 : WEx := wCall (s_crew_text) (wCons (wV 0) (wNil))
def wl__law_of_crew_21 : WEx := wMk f_Stair (wCons (wV 0) (wNil))
def ws__law_of_crew : List WEx := [wl__law_of_crew_1, wl__law_of_crew_2, wl__law_of_crew_3, wl__law_of_crew_4, wl__law_of_crew_5, wl__law_of_crew_6, wl__law_of_crew_7, wl__law_of_crew_8, wl__law_of_crew_9, wl__law_of_crew_10, wl__law_of_crew_11, wl__law_of_crew_12, wl__law_of_crew_13, wl__law_of_crew_14, wl__law_of_crew_15, wl__law_of_crew_16, wl__law_of_crew_17, wl__law_of_crew_18, wl__law_of_crew_19, wl__law_of_crew_20, wl__law_of_crew_21]
theorem ok__law_of_crew {P : Program} {w : World} {K : PySem.W.Frag} {mg : Str → Option Value} {base : Heap} {T : List (Addr × Str)} {cl : Str → Option Addr} {c Pt fa : Addr} {fd : FuncData} (W : Wd P w K mg base T cl) (F : FunD K "_law_of_crew" "_law_of_crew" (defArgs (top 124)) (defBody (top 124)) (defScope (top 124)) [] [] fa fd) (hm : mg "_law_of_crew" = some (.ref fa)) (hcd : fd.code = .ref c) (TB : LamX.TabB base mg c Pt) (hmT : (Pt, lamQ "_law_of_crew") ∈ T) (huT : ∀ p ∈ T, p.1 = Pt → p.2 = lamQ "_law_of_crew") : ∃ Ls, GClo P w K mg base T cl 0 6 "_law_of_crew" Ls ∧ Ls.map Lm.we = ws__law_of_crew :=
  ⟨_, ⟨fa, fd, _, _, _, "crew", "found", .ref c, F, sc__law_of_crew, hm, F.bindsN fun _ _ _ _ _ _ us hl => match us, hl with | [_], _ => rfl, hcd, fun A outer s H Fz hr => clo_as (n_asClo (i := 1) (⟨lt_by rfl, fun h => absurd rfl h⟩) sc__law_of_crew.nd rfl (Or.inl rfl) (n_clo TB rfl hmT huT (lamS_by (sc := defScope st__law_of_crew) (by decide +kernel)) rfl)) (⟨lt_by rfl, fun h => absurd rfl h⟩) ⟨lamS_by (sc := defScope st__law_of_crew) (by decide +kernel), fun _ _ _ _ _ => rfl, fun base cs A1 outer s H E f c1 Fz Hz hr => have W : Wd P w K mg base T cl := W.re; n_call (ok_without W) (hr.mono (by omega)) passG2 rfl (n_cons (n_v 0) (n_cons (n_non) (n_nil))) (wl1 (wl1 wl0))⟩
    (clo_app (n_appClo (n_clo TB rfl hmT huT (lamS_by (sc := defScope st__law_of_crew) (by decide +kernel)) rfl)) ⟨lamS_by (sc := defScope st__law_of_crew) (by decide +kernel), fun _ _ _ _ _ => rfl, fun base cs A1 outer s H E f c1 Fz Hz hr => have W : Wd P w K mg base T cl := W.re; n_call (ok_place_at W) (hr.mono (by omega)) passG2 rfl (n_cons (n_v 0) (n_cons (n_non) (n_cons (n_non) (n_nil)))) (wl1 (wl1 (wl1 wl0)))⟩
    (clo_app (n_appClo (n_clo TB rfl hmT huT (lamS_by (sc := defScope st__law_of_crew) (by decide +kernel)) rfl)) ⟨lamS_by (sc := defScope st__law_of_crew) (by decide +kernel), fun _ _ _ _ _ => rfl, fun base cs A1 outer s H E f c1 Fz Hz hr => have W : Wd P w K mg base T cl := W.re; n_call (ok_far_in W) (hr.mono (by omega)) passG2 rfl (n_cons (n_v 0) (n_cons (n_non) (n_nil))) (wl1 (wl1 wl0))⟩
    (clo_app (n_appClo (n_clo TB rfl hmT huT (lamS_by (sc := defScope st__law_of_crew) (by decide +kernel)) rfl)) ⟨lamS_by (sc := defScope st__law_of_crew) (by decide +kernel), fun _ _ _ _ _ => rfl, fun base cs A1 outer s H E f c1 Fz Hz hr => have W : Wd P w K mg base T cl := W.re; n_call (ok_is_open W) (hr.mono (by omega)) passG2 rfl (n_cons (n_v 0) (n_cons (n_non) (n_cons (n_non) (n_nil)))) (wl1 (wl1 (wl1 wl0)))⟩
    (clo_app (n_appClo (n_clo TB rfl hmT huT (lamS_by (sc := defScope st__law_of_crew) (by decide +kernel)) rfl)) ⟨lamS_by (sc := defScope st__law_of_crew) (by decide +kernel), fun _ _ _ _ _ => rfl, fun base cs A1 outer s H E f c1 Fz Hz hr => have W : Wd P w K mg base T cl := W.re; n_call (ok_count_open W) (hr.mono (by omega)) passG2 rfl (n_cons (n_v 0) (n_cons (n_non) (n_nil))) (wl1 (wl1 wl0))⟩
    (clo_app (n_appClo (n_clo TB rfl hmT huT (lamS_by (sc := defScope st__law_of_crew) (by decide +kernel)) rfl)) ⟨lamS_by (sc := defScope st__law_of_crew) (by decide +kernel), fun _ _ _ _ _ => rfl, fun base cs A1 outer s H E f c1 Fz Hz hr => have W : Wd P w K mg base T cl := W.re; n_call (ok_ends_open W) (hr.mono (by omega)) passG2 rfl (n_cons (n_v 0) (n_cons (n_non) (n_nil))) (wl1 (wl1 wl0))⟩
    (clo_app (n_appClo (n_clo TB rfl hmT huT (lamS_by (sc := defScope st__law_of_crew) (by decide +kernel)) rfl)) ⟨lamS_by (sc := defScope st__law_of_crew) (by decide +kernel), fun _ _ _ _ _ => rfl, fun base cs A1 outer s H E f c1 Fz Hz hr => have W : Wd P w K mg base T cl := W.re; n_call (ok_open_between W) (hr.mono (by omega)) passG2 rfl (n_cons (n_v 0) (n_cons (n_non) (n_cons (n_non) (n_cons (n_non) (n_nil))))) (wl1 (wl1 (wl1 (wl1 wl0))))⟩
    (clo_app (n_appClo (n_clo TB rfl hmT huT (lamS_by (sc := defScope st__law_of_crew) (by decide +kernel)) rfl)) ⟨lamS_by (sc := defScope st__law_of_crew) (by decide +kernel), fun _ _ _ _ _ => rfl, fun base cs A1 outer s H E f c1 Fz Hz hr => have W : Wd P w K mg base T cl := W.re; n_call (ok_fate W) (hr.mono (by omega)) passG2 rfl (n_cons (n_v 0) (n_cons (n_non) (n_nil))) (wl1 (wl1 wl0))⟩
    (clo_app (n_appClo (n_clo TB rfl hmT huT (lamS_by (sc := defScope st__law_of_crew) (by decide +kernel)) rfl)) ⟨lamS_by (sc := defScope st__law_of_crew) (by decide +kernel), fun _ _ _ _ _ => rfl, fun base cs A1 outer s H E f c1 Fz Hz hr => have W : Wd P w K mg base T cl := W.re; n_call (ok_settled W) (hr.mono (by omega)) passG2 rfl (n_cons (n_v 0) (n_cons (n_non) (n_nil))) (wl1 (wl1 wl0))⟩
    (clo_app (n_appClo (n_clo TB rfl hmT huT (lamS_by (sc := defScope st__law_of_crew) (by decide +kernel)) rfl)) ⟨lamS_by (sc := defScope st__law_of_crew) (by decide +kernel), fun _ _ _ _ _ => rfl, fun base cs A1 outer s H E f c1 Fz Hz hr => have W : Wd P w K mg base T cl := W.re; n_call (ok_right W) (hr.mono (by omega)) passG2 rfl (n_cons (n_v 0) (n_nil)) (wl1 wl0)⟩
    (clo_app (n_appClo (n_clo TB rfl hmT huT (lamS_by (sc := defScope st__law_of_crew) (by decide +kernel)) rfl)) ⟨lamS_by (sc := defScope st__law_of_crew) (by decide +kernel), fun _ _ _ _ _ => rfl, fun base cs A1 outer s H E f c1 Fz Hz hr => have W : Wd P w K mg base T cl := W.re; n_call (ok_left W) (hr.mono (by omega)) passG2 rfl (n_cons (n_v 0) (n_nil)) (wl1 wl0)⟩
    (clo_app (n_appClo (n_clo TB rfl hmT huT (lamS_by (sc := defScope st__law_of_crew) (by decide +kernel)) rfl)) ⟨lamS_by (sc := defScope st__law_of_crew) (by decide +kernel), fun _ _ _ _ _ => rfl, fun base cs A1 outer s H E f c1 Fz Hz hr => have W : Wd P w K mg base T cl := W.re; n_call (ok_meets W) (hr.mono (by omega)) passG2 rfl (n_cons (n_v 0) (n_cons (n_non) (n_cons (n_non) (n_nil)))) (wl1 (wl1 (wl1 wl0)))⟩
    (clo_app (n_appClo (n_clo TB rfl hmT huT (lamS_by (sc := defScope st__law_of_crew) (by decide +kernel)) rfl)) ⟨lamS_by (sc := defScope st__law_of_crew) (by decide +kernel), fun _ _ _ _ _ => rfl, fun base cs A1 outer s H E f c1 Fz Hz hr => have W : Wd P w K mg base T cl := W.re; n_call (ok_next_meeting W) (hr.mono (by omega)) passG2 rfl (n_cons (n_v 0) (n_cons (n_non) (n_cons (n_non) (n_cons (n_non) (n_nil))))) (wl1 (wl1 (wl1 (wl1 wl0))))⟩
    (clo_app (n_appClo (n_clo TB rfl hmT huT (lamS_by (sc := defScope st__law_of_crew) (by decide +kernel)) rfl)) ⟨lamS_by (sc := defScope st__law_of_crew) (by decide +kernel), fun _ _ _ _ _ => rfl, fun base cs A1 outer s H E f c1 Fz Hz hr => have W : Wd P w K mg base T cl := W.re; n_call (ok_count_meetings W) (hr.mono (by omega)) passG2 rfl (n_cons (n_v 0) (n_cons (n_non) (n_cons (n_non) (n_cons (n_non) (n_nil))))) (wl1 (wl1 (wl1 (wl1 wl0))))⟩
    (clo_app (n_appClo (n_clo TB rfl hmT huT (lamS_by (sc := defScope st__law_of_crew) (by decide +kernel)) rfl)) ⟨lamS_by (sc := defScope st__law_of_crew) (by decide +kernel), fun _ _ _ _ _ => rfl, fun base cs A1 outer s H E f c1 Fz Hz hr => have W : Wd P w K mg base T cl := W.re; n_call (ok_alike W) (hr.mono (by omega)) passG2 rfl (n_cons (n_v 0) (n_cons (n_non) (n_nil))) (wl1 (wl1 wl0))⟩
    (clo_app (n_appClo (n_clo TB rfl hmT huT (lamS_by (sc := defScope st__law_of_crew) (by decide +kernel)) rfl)) ⟨lamS_by (sc := defScope st__law_of_crew) (by decide +kernel), fun _ _ _ _ _ => rfl, fun base cs A1 outer s H E f c1 Fz Hz hr => have W : Wd P w K mg base T cl := W.re; n_call (ok_parting W) (hr.mono (by omega)) passG2 rfl (n_cons (n_v 0) (n_cons (n_non) (n_nil))) (wl1 (wl1 wl0))⟩
    (clo_app (n_appClo (n_clo TB rfl hmT huT (lamS_by (sc := defScope st__law_of_crew) (by decide +kernel)) rfl)) ⟨lamS_by (sc := defScope st__law_of_crew) (by decide +kernel), fun _ _ _ _ _ => rfl, fun base cs A1 outer s H E f c1 Fz Hz hr => have W : Wd P w K mg base T cl := W.re; n_call (ok_idle_walkers W) (hr.mono (by omega)) passG2 rfl (n_cons (n_v 0) (n_nil)) (wl1 wl0)⟩
    (clo_app (n_appClo (n_clo TB rfl hmT huT (lamS_by (sc := defScope st__law_of_crew) (by decide +kernel)) rfl)) ⟨lamS_by (sc := defScope st__law_of_crew) (by decide +kernel), fun _ _ _ _ _ => rfl, fun base cs A1 outer s H E f c1 Fz Hz hr => have W : Wd P w K mg base T cl := W.re; n_call (ok_starts_for W) (hr.mono (by omega)) passG2 rfl (n_cons (n_v 0) (n_cons (n_non) (n_cons (n_non) (n_nil)))) (wl1 (wl1 (wl1 wl0)))⟩
    (clo_app (n_appClo (n_clo TB rfl hmT huT (lamS_by (sc := defScope st__law_of_crew) (by decide +kernel)) rfl)) ⟨lamS_by (sc := defScope st__law_of_crew) (by decide +kernel), fun _ _ _ _ _ => rfl, fun base cs A1 outer s H E f c1 Fz Hz hr => have W : Wd P w K mg base T cl := W.re; n_call (ok_deeds_for W) (hr.mono (by omega)) passG2 rfl (n_cons (n_v 0) (n_cons (n_non) (n_cons (n_non) (n_nil)))) (wl1 (wl1 (wl1 wl0)))⟩
    (clo_app (n_appClo (n_clo TB rfl hmT huT (lamS_by (sc := defScope st__law_of_crew) (by decide +kernel)) rfl)) ⟨lamS_by (sc := defScope st__law_of_crew) (by decide +kernel), fun _ _ _ _ _ => rfl, fun base cs A1 outer s H E f c1 Fz Hz hr => have W : Wd P w K mg base T cl := W.re; n_call (ok_crew_text W) (hr.mono (by omega)) passG2 rfl (n_cons (n_v 0) (n_nil)) (wl1 wl0)⟩
    (clo_app (n_appClo (n_clo TB rfl hmT huT (lamS_by (sc := defScope st__law_of_crew) (by decide +kernel)) rfl)) ⟨lamS_by (sc := defScope st__law_of_crew) (by decide +kernel), fun _ _ _ _ _ => rfl, fun base cs A1 outer s H E f c1 Fz Hz hr => have W : Wd P w K mg base T cl := W.re; n_mk (mk_Stair W) (hr.mono (by omega)) passG2 rfl (n_cons (n_v 0) (n_nil)) (wl1 wl0)⟩
    (clo_ret)))))))))))))))))))))⟩, rfl⟩
abbrev st__law_all_say : Stmt := top 125
theorem sc__law_all_say : FnScope ["calls_so", "word", "call_so"] ["calls_so", "word"] (defScope st__law_all_say) := ⟨rfl, rfl, rfl, by decide +kernel, rfl, by decide +kernel, by decide +kernel⟩
def wc__law_all_say_1 (tells : Addr → Option Str) : WTx := wT (wO fNe (wCameV tells (wV 2)) (wV 1))
def we__law_all_say_1 (tells : Addr → Option Str) : WEx := wC (.int 1)
def w__law_all_say (tells : Addr → Option Str) : WSt := wRet (wO fEq (wLc (wIt (wV 0)) (gN 2) (wc__law_all_say_1 tells) (we__law_all_say_1 tells) [2]) (wB fLst (wNil)))
def s__law_all_say (tells : Addr → Option Str) : Fn := semOf 2 3 (w__law_all_say tells)
theorem v__law_all_say (tells : Addr → Option Str) (fs : List Addr) (nm : Str) (h : ∀ f ∈ fs, tells f = some nm) : s__law_all_say tells [.lst (refs fs), .str nm] = some (.ok (.bl true)) := by
  have hne : fNe (.at (.str nm)) (.at (.str nm)) = some (.bl false) := by simp [fNe, eqB, scal]
  have key := lcL_pure (g := gN 2) (c := wc__law_all_say_1 tells) (t := we__law_all_say_1 tells) (own := [2]) (e0 := [some (.v (.lst (refs fs))), some (.v (.str nm)), none]) (fun _ => false) (fun x => x) (xs := refs fs) (fun x hx => by
    obtain ⟨f, hf, rfl⟩ := List.mem_map.mp hx
    exact ⟨_, rfl, by simp [wc__law_all_say_1, h f hf, hne], (fun z => by cases z), rfl⟩)
  have hfil : ((refs fs).filter fun _ => false).map (fun x => x) = [] := by simp
  rw [hfil] at key
  have he : fEq (.lst []) (.lst []) = some (.bl true) := fEq_lnil (by simp [plBs]) (by simp) (by simp [deps])
  unfold s__law_all_say semOf w__law_all_say
  simp [iniE, key, he, itemsOf, wipeE, rsE]
theorem ok__law_all_say {P : Program} {w : World} {K : PySem.W.Frag} {mg : Str → Option Value} {base : Heap} {T : List (Addr × Str)} {cl : Str → Option Addr} (W : Wd P w K mg base T cl) : GAll P w K mg T cl errN 9 6 "_law_all_say" := by
  obtain ⟨fa, fd, F, hm⟩ := W.d__law_all_say
  refine ⟨fa, fd, "calls_so", "word", s__law_all_say, fun base tells => ?_, hm, F.kp, F.bindsN fun _ _ _ _ _ _ us hl => match us, hl with | [_, _], _ => rfl, v__law_all_say⟩
  have W : Wd P w K mg base T cl := W.re
  refine fn_clo 3 T cl errN tells (w__law_all_say tells) F sc__law_all_say rfl fun cdv A outer s H E Fz CT hr => ?_
  exact n_s1 (n_ret (n_eq hr.units (n_lcD (own := [("call_so", 2)]) rfl sc__law_all_say.nd (n_it (n_v 0)) (blkOk_by (own := [("call_so", 2)]) (N := ["calls_so", "word", "call_so"]) (sc := defScope st__law_all_say) (by decide +kernel)) (own_hv (l := [2]) rfl) (raw_n (own_hv (l := [2]) rfl 2 (by simp)) (by simp)) (fun s H C cl fp => pg_name (i := 2) sc__law_all_say.nd rfl (Or.inl rfl)) (fun Da o hD s H C cl fp => pts_onex (n_tne hr.units (n_cameV (ok__law_came W) (k := 6) (by omega) (hr.mono (by omega)) rfl (fun g nm hg => (CT g nm hg).hid hD) rfl (n_v 2)) (n_v 1))) (fun Da o hD s H C cl fp => n_int)) (n_lst (n_nil))))
end K12
set_option maxHeartbeats 4000000
/-! the walk of law k12_what_is_refused; printed by gen.py -/
namespace K12
open PySem PySem.Spec PyProof.Rows L2 Ly LamX Pg
abbrev st_law : Stmt := top 126
theorem sc_law : FnScope ["script", "at", "spring", "crew", "one", "odds", "odd", "some"] ["script"] (defScope st_law) := ⟨rfl, rfl, rfl, by decide +kernel, rfl, by decide +kernel, by decide +kernel⟩
def wl_law_1 : WEx := wCall (s_alike) (wCons (wV 3) (wCons (wV 6) (wNil)))
def wl_law_2 : WEx := wCall (s_parting) (wCons (wV 3) (wCons (wV 6) (wNil)))
def wr_law_1 : WSt := wBlk errN 7 "crew" [wl_law_1, wl_law_2]
def wb_law_1 : WSt := wSeq (wIf (wTnot (wT (wAllC errN "crew" ws__law_of_crew (wV 6)))) (wRet (wC (.bl false))) (wSkip)) (wr_law_1)
def wl_law_3 : WEx := wCall (s_is_open) (wCons (wV 3) (wCons (wV 6) (wCons (wC .non) (wNil))))
def wl_law_4 : WEx := wCall (s_count_open) (wCons (wV 3) (wCons (wV 6) (wNil)))
def wl_law_5 : WEx := wCall (s_ends_open) (wCons (wV 3) (wCons (wV 6) (wNil)))
def wl_law_6 : WEx := wCall (s_open_between) (wCons (wV 3) (wCons (wV 6) (wCons (wC .non) (wCons (wC .non) (wNil)))))
def wb_law_2 : WSt := wBlk errN 7 "beat" [wl_law_3, wl_law_4, wl_law_5, wl_law_6]
def wl_law_7 : WEx := wCall (s_is_open) (wCons (wV 3) (wCons (wC (.int 0)) (wCons (wV 6) (wNil))))
def wl_law_8 : WEx := wCall (s_fate) (wCons (wV 3) (wCons (wV 6) (wNil)))
def wl_law_9 : WEx := wCall (s_settled) (wCons (wV 3) (wCons (wV 6) (wNil)))
def wl_law_10 : WEx := wCall (s_open_between) (wCons (wV 3) (wCons (wC (.int 0)) (wCons (wV 6) (wCons (wV 6) (wNil)))))
def wb_law_3 : WSt := wBlk errN 7 "place" [wl_law_7, wl_law_8, wl_law_9, wl_law_10]
def wr_law_2 : WSt := wIf (wT (wO fNe (wCame errN (wMk f_Crew (wCons (wC .non) (wNil)))) (wC (.str "crew")))) (wRet (wC (.bl false))) (wSkip)
def wr_law_3 : WSt := wSeq (wIf (wT (wO fNe (wCame errN (wMk f_Crew (wCons (wV 4) (wCons (wV 4) (wCons (wV 4) (wCons (wV 4) (wCons (wV 4) (wNil)))))))) (wC (.str "crew")))) (wRet (wC (.bl false))) (wSkip)) (wr_law_2)
def wr_law_4 : WSt := wSeq (wFor (wIt (wB fLst (wCons (wC .non) (wCons (wO fAdd (wO fPow (wC (.int 10)) (wC (.int 31))) (wC (.int 1))) (wCons (wO (fI0 fun i j => .int (i - j)) (wU fNeg (wO fPow (wC (.int 10)) (wC (.int 31)))) (wC (.int 1))) (wCons (wC (.bl true)) (wCons (wC (.str "0")) (wNil)))))))) (gN 6) wb_law_3) (wr_law_3)
def wr_law_5 : WSt := wSeq (wFor (wIt (wB fLst (wCons (wC .non) (wCons (wU fNeg (wC (.int 1))) (wCons (wO fAdd (wO fPow (wC (.int 10)) (wC (.int 30))) (wC (.int 1))) (wCons (wC (.bl true)) (wCons (wC (.str "0")) (wNil)))))))) (gN 6) wb_law_2) (wr_law_4)
def wb_law_4 : WSt := wSeq (wAsO s__law_spring 2 (wCons (wV 0) (wCons (wV 1) (wNil)))) (wSeq (wAs (gN 3) (wCallM (s__law_crew) 2 (wCons (wC (.int 3)) (wCons (wC (.int 9)) (wNil))))) (wSeq (wAs (gN 4) (wB fTup (wCons (wC (.int 0)) (wCons (wB fTup (wCons (wC (.int 1)) (wNil))) (wCons (wC (.str "open")) (wNil)))))) (wSeq (wAs (gN 5) (wB fLst (wCons (wC .non) (wCons (wB fTup (wNil)) (wCons (wB fLstO (wCons (wV 3) (wNil))) (wCons (wO fMulU (wB fTup (wCons (wV 4) (wNil))) (wC (.int 5))) (wCons (wV 4) (wCons (wC (.str "crew")) (wCons (wB fTup (wCons (wB fTup (wCons (wC (.int 21)) (wCons (wB fTup (wCons (wC (.int 1)) (wNil))) (wCons (wC (.str "open")) (wNil))))) (wNil))) (wCons (wB fTup (wCons (wB fTup (wCons (wC (.int 0)) (wCons (wB fTup (wNil)) (wCons (wC (.str "open")) (wNil))))) (wNil))) (wCons (wB fTup (wCons (wC .non) (wNil))) (wNil)))))))))))) (wSeq (wAs (gN 5) (wO fAdd (wV 5) (wB fLst (wCons (wB fTup (wCons (wB fTup (wCons (wC (.int 0)) (wCons (wB fTup (wCons (wC (.int 1)) (wCons (wC (.int 1)) (wCons (wC (.int 1)) (wCons (wC (.int 1)) (wNil)))))) (wCons (wC (.str "open")) (wNil))))) (wNil))) (wCons (wB fTup (wCons (wB fTup (wCons (wC (.int 0)) (wCons (wB fTup (wCons (wC (.int 4)) (wNil))) (wCons (wC (.str "open")) (wNil))))) (wNil))) (wCons (wB fTup (wCons (wB fTup (wCons (wC (.int 0)) (wCons (wB fLst (wCons (wC (.int 1)) (wNil))) (wCons (wC (.str "open")) (wNil))))) (wNil))) (wCons (wB fTup (wCons (wB fTup (wCons (wC (.int 0)) (wCons (wB fTup (wCons (wC (.int 1)) (wNil))) (wCons (wC (.str "go")) (wNil))))) (wNil))) (wNil)))))))) (wSeq (wFor (wIt (wO fAdd (wV 5) (wB fLst (wCons (wB fTup (wCons (wB fTup (wCons (wC (.bl true)) (wCons (wB fTup (wCons (wC (.int 1)) (wNil))) (wCons (wC (.str "open")) (wNil))))) (wNil))) (wCons (wB fTup (wCons (wB fTup (wCons (wC (.int 0)) (wCons (wB fTup (wCons (wC (.bl true)) (wNil))) (wCons (wC (.str "open")) (wNil))))) (wNil))) (wCons (wB fTup (wCons (wB fTup (wCons (wC (.int 0)) (wCons (wB fTup (wCons (wC (.int 1)) (wNil))) (wCons (wC .non) (wNil))))) (wNil))) (wCons (wB fTup (wCons (wSl (wV 4) (wP0) (wP1 (wC (.int 2)))) (wNil))) (wNil)))))))) (gN 6) wb_law_1) (wr_law_5))))))
def wr_law_6 : WSt := wRet (wC (.bl true))
def w_law : WSt := wSeq (wFor (wI fRg1 (wCons (wO fAdd (wB fMin2 (wCons (wB fLen (wCons (wV 0) (wNil))) (wCons (wC (.int 4)) (wNil)))) (wC (.int 1))) (wNil))) (gN 1) wb_law_4) (wr_law_6)
def s_law : Fn := semOf 1 8 (w_law )
theorem okF_law {P : Program} {w : World} {K : PySem.W.Frag} {mg : Str → Option Value} {base : Heap} {T : List (Addr × Str)} {cl : Str → Option Addr} {c Pt fa : Addr} {fd : FuncData} (W : Wd P w K mg base T cl)  {LsC : List Lm} (hGC : GClo P w K mg base T cl 0 6 "_law_of_crew" LsC) (hws : LsC.map Lm.we = ws__law_of_crew) (F : FunD K "law" "law" (defArgs (top 126)) (defBody (top 126)) (defScope (top 126)) [] [] fa fd) (hcd : fd.code = .ref c) (TB : LamX.TabB base mg c Pt) (hmT : (Pt, lamQ "law") ∈ T) (huT : ∀ p ∈ T, p.1 = Pt → p.2 = lamQ "law") : FnOk P w K mg base (L2N.CX P w) 12 fa fd ["script"] (spP K T cl 1 (s_law )) := by
  refine fn_pureC 8 T cl (w_law ) F hcd sc_law rfl fun A outer s H E Fz hr => ?_
  exact n_sc (n_for ownN rfl (n_rg1 rfl W.f_range (n_cons (n_add (n_min2 rfl rfl W.f_min (n_cons (n_len rfl W.f_len (n_cons (n_v 0) (n_nil))) (n_cons (n_int) (n_nil)))) (n_int)) (n_nil))) (n_gN (i := 1) (⟨lt_by rfl, fun h => absurd rfl h⟩) sc_law.nd rfl (Or.inl rfl)) (n_sc (n_asO (ok__law_spring W) (hr.mono (by omega)) passN rfl (n_cons (n_v 0) (n_cons (n_v 1) (n_nil))) (wl1 (wl1 wl0)) (⟨lt_by rfl, fun h => absurd rfl h⟩) sc_law.nd rfl (Or.inl rfl)) (n_sc (n_as (i := 3) (⟨lt_by rfl, fun h => absurd rfl h⟩) sc_law.nd rfl (Or.inr rfl) (n_callM (i := 2) (ok__law_crew W) (hr.mono (by omega)) passN rfl (n_cons (n_int) (n_cons (n_int) (n_nil))) (wl1 (wl1 wl0)))) (n_sc (n_as (i := 4) (⟨lt_by rfl, fun h => absurd rfl h⟩) sc_law.nd rfl (Or.inr rfl) (n_tup (n_cons (n_int) (n_cons (n_tup (n_cons (n_int) (n_nil))) (n_cons (n_str) (n_nil)))))) (n_sc (n_as (i := 5) (⟨lt_by rfl, fun h => absurd rfl h⟩) sc_law.nd rfl (Or.inl rfl) (n_lst (n_cons (n_non) (n_cons (n_tup (n_nil)) (n_cons (n_lstO rfl W.f_list (n_cons (n_v 3) (n_nil))) (n_cons (n_mulU (n_tup (n_cons (n_v 4) (n_nil))) (n_int)) (n_cons (n_v 4) (n_cons (n_str) (n_cons (n_tup (n_cons (n_tup (n_cons (n_int) (n_cons (n_tup (n_cons (n_int) (n_nil))) (n_cons (n_str) (n_nil))))) (n_nil))) (n_cons (n_tup (n_cons (n_tup (n_cons (n_int) (n_cons (n_tup (n_nil)) (n_cons (n_str) (n_nil))))) (n_nil))) (n_cons (n_tup (n_cons (n_non) (n_nil))) (n_nil)))))))))))) (n_sc (n_as (i := 5) (⟨lt_by rfl, fun h => absurd rfl h⟩) sc_law.nd rfl (Or.inl rfl) (n_add (n_v 5) (n_lst (n_cons (n_tup (n_cons (n_tup (n_cons (n_int) (n_cons (n_tup (n_cons (n_int) (n_cons (n_int) (n_cons (n_int) (n_cons (n_int) (n_nil)))))) (n_cons (n_str) (n_nil))))) (n_nil))) (n_cons (n_tup (n_cons (n_tup (n_cons (n_int) (n_cons (n_tup (n_cons (n_int) (n_nil))) (n_cons (n_str) (n_nil))))) (n_nil))) (n_cons (n_tup (n_cons (n_tup (n_cons (n_int) (n_cons (n_lst (n_cons (n_int) (n_nil))) (n_cons (n_str) (n_nil))))) (n_nil))) (n_cons (n_tup (n_cons (n_tup (n_cons (n_int) (n_cons (n_tup (n_cons (n_int) (n_nil))) (n_cons (n_str) (n_nil))))) (n_nil))) (n_nil)))))))) (n_sc (n_for ownN rfl (n_it (n_add (n_v 5) (n_lst (n_cons (n_tup (n_cons (n_tup (n_cons (n_bl) (n_cons (n_tup (n_cons (n_int) (n_nil))) (n_cons (n_str) (n_nil))))) (n_nil))) (n_cons (n_tup (n_cons (n_tup (n_cons (n_int) (n_cons (n_tup (n_cons (n_bl) (n_nil))) (n_cons (n_str) (n_nil))))) (n_nil))) (n_cons (n_tup (n_cons (n_tup (n_cons (n_int) (n_cons (n_tup (n_cons (n_int) (n_nil))) (n_cons (n_non) (n_nil))))) (n_nil))) (n_cons (n_tup (n_cons (n_sl (n_v 4) (n_p0) (n_p1 (n_int))) (n_nil))) (n_nil)))))))) (n_gN (i := 6) (⟨lt_by rfl, fun h => absurd rfl h⟩) sc_law.nd rfl (Or.inr rfl)) (n_sc (n_if (n_tnot (n_t (n_allC hws (ok__law_all_say W) hGC (hr.mono (by omega)) (hr.mono (by omega)) rfl rfl (n_v 6)))) (n_s1 (n_ret (n_bl))) (n_sn)) (n_blk (n_asClo (i := 7) (⟨lt_by rfl, fun h => absurd rfl h⟩) sc_law.nd rfl (Or.inl rfl) (n_clo TB rfl hmT huT (lamS_by (sc := defScope st_law) (by decide +kernel)) rfl)) (⟨lt_by rfl, fun h => absurd rfl h⟩) ⟨lamS_by (sc := defScope st_law) (by decide +kernel), fun _ _ _ _ _ => rfl, fun base cs A1 outer s H E f c1 Fz Hz hr => have W : Wd P w K mg base T cl := W.re; n_call (ok_alike W) (hr.mono (by omega)) passG2 rfl (n_cons (n_v 3) (n_cons (n_v 6) (n_nil))) (wl1 (wl1 wl0))⟩ (blk_app (n_appClo (n_clo TB rfl hmT huT (lamS_by (sc := defScope st_law) (by decide +kernel)) rfl)) ⟨lamS_by (sc := defScope st_law) (by decide +kernel), fun _ _ _ _ _ => rfl, fun base cs A1 outer s H E f c1 Fz Hz hr => have W : Wd P w K mg base T cl := W.re; n_call (ok_parting W) (hr.mono (by omega)) passG2 rfl (n_cons (n_v 3) (n_cons (n_v 6) (n_nil))) (wl1 (wl1 wl0))⟩ (blk_end (ok__law_all_say W) (hr.mono (by omega)) rfl (⟨lt_by rfl, fun h => absurd rfl h⟩) (fun _ => rfl)))))) (n_sc (n_for ownN rfl (n_it (n_lst (n_cons (n_non) (n_cons (n_neg (n_int)) (n_cons (n_add (n_pow (n_int) (n_int)) (n_int)) (n_cons (n_bl) (n_cons (n_str) (n_nil)))))))) (n_gN (i := 6) (⟨lt_by rfl, fun h => absurd rfl h⟩) sc_law.nd rfl (Or.inr rfl)) (n_blk (n_asClo (i := 7) (⟨lt_by rfl, fun h => absurd rfl h⟩) sc_law.nd rfl (Or.inl rfl) (n_clo TB rfl hmT huT (lamS_by (sc := defScope st_law) (by decide +kernel)) rfl)) (⟨lt_by rfl, fun h => absurd rfl h⟩) ⟨lamS_by (sc := defScope st_law) (by decide +kernel), fun _ _ _ _ _ => rfl, fun base cs A1 outer s H E f c1 Fz Hz hr => have W : Wd P w K mg base T cl := W.re; n_call (ok_is_open W) (hr.mono (by omega)) passG2 rfl (n_cons (n_v 3) (n_cons (n_v 6) (n_cons (n_non) (n_nil)))) (wl1 (wl1 (wl1 wl0)))⟩ (blk_app (n_appClo (n_clo TB rfl hmT huT (lamS_by (sc := defScope st_law) (by decide +kernel)) rfl)) ⟨lamS_by (sc := defScope st_law) (by decide +kernel), fun _ _ _ _ _ => rfl, fun base cs A1 outer s H E f c1 Fz Hz hr => have W : Wd P w K mg base T cl := W.re; n_call (ok_count_open W) (hr.mono (by omega)) passG2 rfl (n_cons (n_v 3) (n_cons (n_v 6) (n_nil))) (wl1 (wl1 wl0))⟩ (blk_app (n_appClo (n_clo TB rfl hmT huT (lamS_by (sc := defScope st_law) (by decide +kernel)) rfl)) ⟨lamS_by (sc := defScope st_law) (by decide +kernel), fun _ _ _ _ _ => rfl, fun base cs A1 outer s H E f c1 Fz Hz hr => have W : Wd P w K mg base T cl := W.re; n_call (ok_ends_open W) (hr.mono (by omega)) passG2 rfl (n_cons (n_v 3) (n_cons (n_v 6) (n_nil))) (wl1 (wl1 wl0))⟩ (blk_app (n_appClo (n_clo TB rfl hmT huT (lamS_by (sc := defScope st_law) (by decide +kernel)) rfl)) ⟨lamS_by (sc := defScope st_law) (by decide +kernel), fun _ _ _ _ _ => rfl, fun base cs A1 outer s H E f c1 Fz Hz hr => have W : Wd P w K mg base T cl := W.re; n_call (ok_open_between W) (hr.mono (by omega)) passG2 rfl (n_cons (n_v 3) (n_cons (n_v 6) (n_cons (n_non) (n_cons (n_non) (n_nil))))) (wl1 (wl1 (wl1 (wl1 wl0))))⟩ (blk_end (ok__law_all_say W) (hr.mono (by omega)) rfl (⟨lt_by rfl, fun h => absurd rfl h⟩) (fun _ => rfl))))))) (n_sc (n_for ownN rfl (n_it (n_lst (n_cons (n_non) (n_cons (n_add (n_pow (n_int) (n_int)) (n_int)) (n_cons (n_sub (n_neg (n_pow (n_int) (n_int))) (n_int)) (n_cons (n_bl) (n_cons (n_str) (n_nil)))))))) (n_gN (i := 6) (⟨lt_by rfl, fun h => absurd rfl h⟩) sc_law.nd rfl (Or.inr rfl)) (n_blk (n_asClo (i := 7) (⟨lt_by rfl, fun h => absurd rfl h⟩) sc_law.nd rfl (Or.inl rfl) (n_clo TB rfl hmT huT (lamS_by (sc := defScope st_law) (by decide +kernel)) rfl)) (⟨lt_by rfl, fun h => absurd rfl h⟩) ⟨lamS_by (sc := defScope st_law) (by decide +kernel), fun _ _ _ _ _ => rfl, fun base cs A1 outer s H E f c1 Fz Hz hr => have W : Wd P w K mg base T cl := W.re; n_call (ok_is_open W) (hr.mono (by omega)) passG2 rfl (n_cons (n_v 3) (n_cons (n_int) (n_cons (n_v 6) (n_nil)))) (wl1 (wl1 (wl1 wl0)))⟩ (blk_app (n_appClo (n_clo TB rfl hmT huT (lamS_by (sc := defScope st_law) (by decide +kernel)) rfl)) ⟨lamS_by (sc := defScope st_law) (by decide +kernel), fun _ _ _ _ _ => rfl, fun base cs A1 outer s H E f c1 Fz Hz hr => have W : Wd P w K mg base T cl := W.re; n_call (ok_fate W) (hr.mono (by omega)) passG2 rfl (n_cons (n_v 3) (n_cons (n_v 6) (n_nil))) (wl1 (wl1 wl0))⟩ (blk_app (n_appClo (n_clo TB rfl hmT huT (lamS_by (sc := defScope st_law) (by decide +kernel)) rfl)) ⟨lamS_by (sc := defScope st_law) (by decide +kernel), fun _ _ _ _ _ => rfl, fun base cs A1 outer s H E f c1 Fz Hz hr => have W : Wd P w K mg base T cl := W.re; n_call (ok_settled W) (hr.mono (by omega)) passG2 rfl (n_cons (n_v 3) (n_cons (n_v 6) (n_nil))) (wl1 (wl1 wl0))⟩ (blk_app (n_appClo (n_clo TB rfl hmT huT (lamS_by (sc := defScope st_law) (by decide +kernel)) rfl)) ⟨lamS_by (sc := defScope st_law) (by decide +kernel), fun _ _ _ _ _ => rfl, fun base cs A1 outer s H E f c1 Fz Hz hr => have W : Wd P w K mg base T cl := W.re; n_call (ok_open_between W) (hr.mono (by omega)) passG2 rfl (n_cons (n_v 3) (n_cons (n_int) (n_cons (n_v 6) (n_cons (n_v 6) (n_nil))))) (wl1 (wl1 (wl1 (wl1 wl0))))⟩ (blk_end (ok__law_all_say W) (hr.mono (by omega)) rfl (⟨lt_by rfl, fun h => absurd rfl h⟩) (fun _ => rfl))))))) (n_sc (n_if (n_tne hr.units (n_came (ok__law_came W) (k := 9) (by omega) (hr.mono (by omega)) rfl TB rfl hmT huT (lamS_by (sc := defScope st_law) (by decide +kernel)) rfl (fun _ _ _ _ _ => rfl) (fun A1 outer s H E f c1 Fz Hz hr => n_mkS (mk_Crew W) (hr.mono (by omega)) passL rfl (n_cons (n_v 4) (n_cons (n_v 4) (n_cons (n_v 4) (n_cons (n_v 4) (n_cons (n_v 4) (n_nil)))))))) (n_str)) (n_s1 (n_ret (n_bl))) (n_sn)) (n_s1 (n_if (n_tne hr.units (n_came (ok__law_came W) (k := 9) (by omega) (hr.mono (by omega)) rfl TB rfl hmT huT (lamS_by (sc := defScope st_law) (by decide +kernel)) rfl (fun _ _ _ _ _ => rfl) (fun A1 outer s H E f c1 Fz Hz hr => n_mkS (mk_Crew W) (hr.mono (by omega)) passL rfl (n_cons (n_non) (n_nil)))) (n_str)) (n_s1 (n_ret (n_bl))) (n_sn))))))))))))) (n_s1 (n_ret (n_bl)))
end K12
set_option maxHeartbeats 4000000
/-! k12: the plain law -/
namespace K12
open PySem PySem.Spec PyProof.Rows L2 Ly LamX Pg
theorem one_sz : (1 : Nat) ≤ sizeLine := by decide
theorem bad_of {d : Dt} (hp : plB d = true) (hf : fitB d = false) : s_look_at_crew [d] = some (.er "InvalidCrew") := by
  unfold s_look_at_crew semOf w_look_at_crew
  simp [v_is_fit hp, hf]
theorem beat_of {d : Dt} (hp : plB d = true) (hf : withinB d 0 (10 ^ 30) = false) : s_look_at_beat [d] = some (.er "InvalidBeat") := by
  rw [v_look_beat hp, hf]; rfl
theorem place_of {d : Dt} (hp : plB d = true) (hf : withinB d (-10 ^ 31) (10 ^ 31) = false) : s_look_at_place [d] = some (.er "InvalidPlace") := by
  unfold s_look_at_place semOf w_look_at_place
  have e : (10000000000000000000000000000000 : Int) = 10 ^ 31 := by decide
  have hf2 : withinB d (-10000000000000000000000000000000) 10000000000000000000000000000000 = false := by rw [e]; exact hf
  simp [v_is_within hp, hf2]
theorem sb_crew : saysB errN "crew" (some (.er "InvalidCrew")) = true := by decide +kernel
theorem sb_beat : saysB errN "beat" (some (.er "InvalidBeat")) = true := by decide +kernel
theorem sb_place : saysB errN "place" (some (.er "InvalidPlace")) = true := by decide +kernel
theorem all_crew {d : Dt} (h : s_look_at_crew [d] = some (.er "InvalidCrew")) : (ws__law_of_crew.all fun w => saysB errN "crew" (w [some (.v d), none])) = true := by
  have key : ∀ w ∈ ws__law_of_crew, w [some (.v d), none] = some (.er "InvalidCrew") := by
    intro w hw
    simp only [ws__law_of_crew, List.mem_cons, List.not_mem_nil, or_false] at hw
    rcases hw with rfl | rfl | rfl | rfl | rfl | rfl | rfl | rfl | rfl | rfl | rfl | rfl | rfl | rfl | rfl | rfl | rfl | rfl | rfl | rfl | rfl <;>
      simp [wl__law_of_crew_1, wl__law_of_crew_2, wl__law_of_crew_3, wl__law_of_crew_4, wl__law_of_crew_5, wl__law_of_crew_6, wl__law_of_crew_7, wl__law_of_crew_8, wl__law_of_crew_9, wl__law_of_crew_10, wl__law_of_crew_11, wl__law_of_crew_12, wl__law_of_crew_13, wl__law_of_crew_14, wl__law_of_crew_15, wl__law_of_crew_16, wl__law_of_crew_17, wl__law_of_crew_18, wl__law_of_crew_19, wl__law_of_crew_20, wl__law_of_crew_21, s_without, w_without, s_place_at, w_place_at, s_far_in, w_far_in, s_is_open, w_is_open, s_count_open, w_count_open, s_ends_open, w_ends_open, s_open_between, w_open_between, s_fate, w_fate, s_settled, w_settled, s_right, w_right, s_left, w_left, s_look_at_two, w_look_at_two, s_meets, w_meets, s_next_meeting, w_next_meeting, s_count_meetings, w_count_meetings, s_alike, w_alike, s_parting, w_parting, s_idle_walkers, w_idle_walkers, s_look_at_seen, w_look_at_seen, s_starts_for, w_starts_for, s_deeds_for, w_deeds_for, s_crew_text, w_crew_text, semOf, iniE, f_Stair, one_sz, h]
  rw [List.all_eq_true]
  intro w hw
  rw [key w hw]
  exact sb_crew
@[reducible] def oneD : Dt := .tup [.int 0, .tup [.int 1], .str "open"]
@[reducible] def env (ns : List Int) (k : Int) (sp : List Dt) (c : List Wk) (y5 y6 : Option Sl) : En := [some (.v (.scr ns)), some (.v (.int k)), some (.m sp), some (.v (crewD c)), some (.v oneD), y5, y6, none]
section
variable {ns : List Int} {k : Int} {sp : List Dt} {c : List Wk} {y5 y6 : Option Sl} {d : Dt}
theorem mask_env : mask (env ns k sp c y5 (some (.v d))) = [some (.v (.scr ns)), some (.v (.int k)), none, some (.v (crewD c)), some (.v oneD), maskS y5, some (.v d), none] := rfl
theorem gt_env7 : maskS (gt (env ns k sp c y5 y6) 7) = none := rfl
theorem st_env7 : st (env ns k sp c y5 y6) 7 none = env ns k sp c y5 y6 := rfl
theorem step1 (hg : goodC c) (h : s_look_at_crew [d] = some (.er "InvalidCrew")) : wb_law_1 (env ns k sp c y5 (some (.v d))) = some (.nx (env ns k sp c y5 (some (.v d)))) := by
  have a1 : wl_law_1 (mask (env ns k sp c y5 (some (.v d)))) = some (.er "InvalidCrew") := by
    rw [mask_env]; simp [wl_law_1, s_alike, w_alike, semOf, iniE, v_look_crew hg, h]
  have a2 : wl_law_2 (mask (env ns k sp c y5 (some (.v d)))) = some (.er "InvalidCrew") := by
    rw [mask_env]; simp [wl_law_2, s_parting, w_parting, semOf, iniE, v_look_crew hg, h]
  have b : wr_law_1 (env ns k sp c y5 (some (.v d))) = some (.nx (env ns k sp c y5 (some (.v d)))) := by
    unfold wr_law_1
    rw [e_wBlk, gt_env7, st_env7]
    simp only [List.all_cons, List.all_nil, a1, a2, sb_crew]
    rfl
  have hc : wAllC errN "crew" ws__law_of_crew (wV 6) (env ns k sp c y5 (some (.v d))) = some (.ok (.bl true) (env ns k sp c y5 (some (.v d)))) := by
    rw [e_wAllC]
    show (bnd (some (.ok d (env ns k sp c y5 (some (.v d))))) _) = _
    rw [bnd_ok, if_pos (all_crew h)]
  unfold wb_law_1
  simp -implicitDefEqProofs only [bnd_ok, bnd_er, bnd_none, bns_ok, bns_er, bns_none, pur_some, pur_none, gt_zero, gt_succ, st_zero, st_succ, e_wV, e_wC, e_wK, e_wO, e_wU, e_wNil, e_wCons, e_wB, e_wT, e_wTand, e_wTor, e_wTnot, e_wAnd, e_wOr, e_wNot, e_wIfE, e_wSeq, e_wSkip, e_wIf, e_wRet, e_wDo, e_wBk, e_wCt, e_wAs, e_gN, e_gT, e_wAsL, e_wAsD, e_wAsLD, e_wAsP, e_wFz, e_wIxO, e_wSetO, e_wApp, e_wPutO, e_wInO, e_wGetO, e_wPopO, e_isM, e_isK, e_wCall, e_wCallM, e_wAsO, e_wRaise, e_wCh, e_wI, e_wIt, e_wItL, e_wP0, e_wP1, e_wSl, e_wFor, e_wYes, e_wLc, e_wIsiT, boolOf_e, gL_nil, gL_cons, itemsOf_l, itemsOf_t, itemsOf_s, listOf_l, wipeE_nil, wipeE_cons, rsE_nil, rsE_cons, nown_none, nown_v, fEq_int, fNe_int, fLt_int, fLe_int, fGt_int, fGe_int, fAdd_int, fNeg_int, fI0_int, fLen_t, fLen_l, fTup_0, fTup_1, fTup_2, fTup_3, fLst_0, fLst_1, fLst_2, fLst_3, fLst_5, intOf_int, e_wIdx, e_wSplit, e_wGetV, strOf_e, dicOf_e, e_wD0, e_wAsP3, e_wAsLE, e_wAsVL, e_wAsDP, e_wAsDC, e_wLcI, e_wCnt, Bool.not_true, Bool.not_false, hc, b]
theorem step2 (hg : goodC c) (h : s_look_at_beat [d] = some (.er "InvalidBeat")) : wb_law_2 (env ns k sp c y5 (some (.v d))) = some (.nx (env ns k sp c y5 (some (.v d)))) := by
  have a3 : wl_law_3 (mask (env ns k sp c y5 (some (.v d)))) = some (.er "InvalidBeat") := by
    rw [mask_env]; simp [wl_law_3, s_is_open, w_is_open, semOf, iniE, v_look_crew hg, h]
  have a4 : wl_law_4 (mask (env ns k sp c y5 (some (.v d)))) = some (.er "InvalidBeat") := by
    rw [mask_env]; simp [wl_law_4, s_count_open, w_count_open, semOf, iniE, v_look_crew hg, h]
  have a5 : wl_law_5 (mask (env ns k sp c y5 (some (.v d)))) = some (.er "InvalidBeat") := by
    rw [mask_env]; simp [wl_law_5, s_ends_open, w_ends_open, semOf, iniE, v_look_crew hg, h]
  have a6 : wl_law_6 (mask (env ns k sp c y5 (some (.v d)))) = some (.er "InvalidBeat") := by
    rw [mask_env]; simp [wl_law_6, s_open_between, w_open_between, semOf, iniE, v_look_crew hg, h]
  unfold wb_law_2
  rw [e_wBlk, gt_env7, st_env7]
  simp only [List.all_cons, List.all_nil, a3, a4, a5, a6, sb_beat]
  rfl
theorem step3 (hg : goodC c) (h : s_look_at_place [d] = some (.er "InvalidPlace")) : wb_law_3 (env ns k sp c y5 (some (.v d))) = some (.nx (env ns k sp c y5 (some (.v d)))) := by
  have b0 : s_look_at_beat [.int 0] = some (.ok .non) := by rw [v_look_beat (plB_int 0)]; rfl
  have a7 : wl_law_7 (mask (env ns k sp c y5 (some (.v d)))) = some (.er "InvalidPlace") := by
    rw [mask_env]; simp [wl_law_7, s_is_open, w_is_open, semOf, iniE, v_look_crew hg, b0, h]
  have a8 : wl_law_8 (mask (env ns k sp c y5 (some (.v d)))) = some (.er "InvalidPlace") := by
    rw [mask_env]; simp [wl_law_8, s_fate, w_fate, semOf, iniE, v_look_crew hg, h]
  have a9 : wl_law_9 (mask (env ns k sp c y5 (some (.v d)))) = some (.er "InvalidPlace") := by
    rw [mask_env]; simp [wl_law_9, s_settled, w_settled, semOf, iniE, v_look_crew hg, h]
  have a10 : wl_law_10 (mask (env ns k sp c y5 (some (.v d)))) = some (.er "InvalidPlace") := by
    rw [mask_env]; simp [wl_law_10, s_open_between, w_open_between, semOf, iniE, v_look_crew hg, b0, h]
  unfold wb_law_3
  rw [e_wBlk, gt_env7, st_env7]
  simp only [List.all_cons, List.all_nil, a7, a8, a9, a10, sb_place]
  rfl
theorem loop_of {b : WSt} (ok : Dt → Prop) (hb : ∀ d y5, ok d → b (env ns k sp c y5 (some (.v d))) = some (.nx (env ns k sp c y5 (some (.v d))))) {ds : List Dt} (hd : ∀ d ∈ ds, ok d) : ∃ z, forL (gN 6) b ds (env ns k sp c y5 y6) = some (.nx (env ns k sp c y5 z)) := by
  obtain ⟨e2, h1, z, rfl⟩ := forL_inv (g := gN 6) (b := b) (fun e => ∃ z, e = env ns k sp c y5 z) (ds := ds) (e := env ns k sp c y5 y6) (fun d hm e ⟨z, he⟩ => by
    subst he
    exact ⟨env ns k sp c y5 (some (.v d)), rfl, _, .inl (hb d y5 (hd d hm)), some (.v d), rfl⟩) ⟨y6, rfl⟩
  exact ⟨z, h1⟩
end
def odds1 (c : List Wk) : List Dt := [.non, .tup [], .lst (c.map Wk.dt), .tup [oneD, oneD, oneD, oneD, oneD], oneD, .str "crew", .tup [.tup [.int 21, .tup [.int 1], .str "open"]], .tup [.tup [.int 0, .tup [], .str "open"]], .tup [.non]]
def odds2 : List Dt := [.tup [.tup [.int 0, .tup [.int 1, .int 1, .int 1, .int 1], .str "open"]], .tup [.tup [.int 0, .tup [.int 4], .str "open"]], .tup [.tup [.int 0, .lst [.int 1], .str "open"]], .tup [.tup [.int 0, .tup [.int 1], .str "go"]]]
def odds3 : List Dt := [.tup [.tup [.bl true, .tup [.int 1], .str "open"]], .tup [.tup [.int 0, .tup [.bl true], .str "open"]], .tup [.tup [.int 0, .tup [.int 1], .non]], .tup [.tup [.int 0, .tup [.int 1]]]]
theorem odds_bad {c : List Wk} (hg : goodC c) : ∀ d ∈ (odds1 c ++ odds2) ++ odds3, s_look_at_crew [d] = some (.er "InvalidCrew") := by
  intro d hd
  have hp : plB (.lst (c.map Wk.dt)) = true := by
    have := (crew_pl hg).1
    unfold crewD at this
    exact plB_lst.mpr (plB_tup.mp this)
  simp only [odds1, odds2, odds3, List.mem_append, List.mem_cons, List.not_mem_nil, or_false] at hd
  rcases hd with ((rfl | rfl | rfl | rfl | rfl | rfl | rfl | rfl | rfl) | (rfl | rfl | rfl | rfl)) | (rfl | rfl | rfl | rfl)
  case inl.inl.inr.inr.inl => exact bad_of hp rfl
  all_goals exact bad_of (by decide +kernel) (by decide +kernel)
def beats : List Dt := [.non, .int (-1), .int 1000000000000000000000000000001, .bl true, .str "0"]
theorem beats_bad : ∀ d ∈ beats, s_look_at_beat [d] = some (.er "InvalidBeat") := by
  intro d hd
  simp only [beats, List.mem_cons, List.not_mem_nil, or_false] at hd
  rcases hd with rfl | rfl | rfl | rfl | rfl <;> exact beat_of (by decide +kernel) (by decide +kernel)
def places : List Dt := [.non, .int 10000000000000000000000000000001, .int (-10000000000000000000000000000001), .bl true, .str "0"]
theorem places_bad : ∀ d ∈ places, s_look_at_place [d] = some (.er "InvalidPlace") := by
  intro d hd
  simp only [places, List.mem_cons, List.not_mem_nil, or_false] at hd
  rcases hd with rfl | rfl | rfl | rfl | rfl <;> exact place_of (by decide +kernel) (by decide +kernel)
end K12
set_option maxHeartbeats 4000000
/-! k12: the law is true -/
namespace K12
open PySem PySem.Spec PyProof.Rows L2 Ly LamX Pg
theorem fLst_9 (a b c d e f g h i : Dt) : fLst [a, b, c, d, e, f, g, h, i] = some (.lst [a, b, c, d, e, f, g, h, i]) := if_pos (sz (by simp))
theorem fLst_4k (a b c d : Dt) : fLst [a, b, c, d] = some (.lst [a, b, c, d]) := if_pos (sz (by simp))
theorem fTup_4k (a b c d : Dt) : fTup [a, b, c, d] = some (.tup [a, b, c, d]) := if_pos (sz (by simp))
theorem fAdd_94 (a b c d e f g h i j k l m : Dt) : fAdd (.lst [a, b, c, d, e, f, g, h, i]) (.lst [j, k, l, m]) = some (.lst ([a, b, c, d, e, f, g, h, i] ++ [j, k, l, m])) := fAdd_l (by simp)
theorem fAdd_134 (a b c d e f g h i j k l m n o p q : Dt) : fAdd (.lst ([a, b, c, d, e, f, g, h, i] ++ [j, k, l, m])) (.lst [n, o, p, q]) = some (.lst (([a, b, c, d, e, f, g, h, i] ++ [j, k, l, m]) ++ [n, o, p, q])) := fAdd_l (by simp)
theorem er_crew : errN "InvalidCrew" = some ("crew" : Str) := by decide +kernel
theorem ne_crew : fNe (.at (.str "crew")) (.at (.str "crew")) = some (.bl false) := by simp [fNe, eqB, scal]
theorem mul5 : fMulU (.tup [oneD]) (.int 5) = some (.tup [oneD, oneD, oneD, oneD, oneD]) := by rfl
theorem lstO (c : List Wk) : fLstO [crewD c] = some (.lst (c.map Wk.dt)) := rfl
theorem sl2 : fSl oneD none (some 2) = some (.tup [.int 0, .tup [.int 1]]) := by rfl
section
variable {ns : List Int} {k : Int} {sp : List Dt} {c : List Wk} {y5 y6 : Option Sl}
theorem came_1 : wCame errN (wMk f_Crew (wCons (wC .non) (wNil))) (env ns k sp c y5 y6) = some (.ok (.str "crew") (env ns k sp c y5 y6)) := by
  have hb : s_look_at_crew [.tup [.non]] = some (.er "InvalidCrew") := bad_of (by decide +kernel) (by decide +kernel)
  have c1 : wMk f_Crew (wCons (wC .non) (wNil)) (mask (env ns k sp c y5 y6)) = some (.er "InvalidCrew") := by
    simp [f_Crew, hb, one_sz]
  unfold wCame
  rw [c1]
  simp only [er_crew]
theorem came_2 : wCame errN (wMk f_Crew (wCons (wV 4) (wCons (wV 4) (wCons (wV 4) (wCons (wV 4) (wCons (wV 4) (wNil))))))) (env ns k sp c y5 y6) = some (.ok (.str "crew") (env ns k sp c y5 y6)) := by
  have hb : s_look_at_crew [.tup [oneD, oneD, oneD, oneD, oneD]] = some (.er "InvalidCrew") := bad_of (by decide +kernel) (by decide +kernel)
  have h5 : (5 : Nat) ≤ sizeLine := by decide
  have hm : mask (env ns k sp c y5 y6) = [some (.v (.scr ns)), some (.v (.int k)), none, some (.v (crewD c)), some (.v oneD), maskS y5, maskS y6, none] := rfl
  have c1 : wMk f_Crew (wCons (wV 4) (wCons (wV 4) (wCons (wV 4) (wCons (wV 4) (wCons (wV 4) (wNil)))))) (mask (env ns k sp c y5 y6)) = some (.er "InvalidCrew") := by
    rw [hm]
    simp [f_Crew, hb, h5]
  unfold wCame
  rw [c1]
  simp only [er_crew]
theorem w3 : wr_law_3 (env ns k sp c y5 y6) = some (.nx (env ns k sp c y5 y6)) := by
  have k1 := came_1 (ns := ns) (k := k) (sp := sp) (c := c) (y5 := y5) (y6 := y6)
  have k2 := came_2 (ns := ns) (k := k) (sp := sp) (c := c) (y5 := y5) (y6 := y6)
  simp -implicitDefEqProofs only [wr_law_3, wr_law_2, bnd_ok, bnd_er, bnd_none, bns_ok, bns_er, bns_none, pur_some, pur_none, gt_zero, gt_succ, st_zero, st_succ, e_wV, e_wC, e_wK, e_wO, e_wU, e_wNil, e_wCons, e_wB, e_wT, e_wTand, e_wTor, e_wTnot, e_wAnd, e_wOr, e_wNot, e_wIfE, e_wSeq, e_wSkip, e_wIf, e_wRet, e_wDo, e_wBk, e_wCt, e_wAs, e_gN, e_gT, e_wAsL, e_wAsD, e_wAsLD, e_wAsP, e_wFz, e_wIxO, e_wSetO, e_wApp, e_wPutO, e_wInO, e_wGetO, e_wPopO, e_isM, e_isK, e_wCall, e_wCallM, e_wAsO, e_wRaise, e_wCh, e_wI, e_wIt, e_wItL, e_wP0, e_wP1, e_wSl, e_wFor, e_wYes, e_wLc, e_wIsiT, boolOf_e, gL_nil, gL_cons, itemsOf_l, itemsOf_t, itemsOf_s, listOf_l, wipeE_nil, wipeE_cons, rsE_nil, rsE_cons, nown_none, nown_v, fEq_int, fNe_int, fLt_int, fLe_int, fGt_int, fGe_int, fAdd_int, fNeg_int, fI0_int, fLen_t, fLen_l, fTup_0, fTup_1, fTup_2, fTup_3, fLst_0, fLst_1, fLst_2, fLst_3, fLst_5, intOf_int, e_wIdx, e_wSplit, e_wGetV, strOf_e, dicOf_e, e_wD0, e_wAsP3, e_wAsLE, e_wAsVL, e_wAsDP, e_wAsDC, e_wLcI, e_wCnt, Bool.not_true, Bool.not_false, k1, k2, ne_crew]
theorem w4 (hg : goodC c) : ∃ z, wr_law_4 (env ns k sp c y5 y6) = some (.nx (env ns k sp c y5 z)) := by
  obtain ⟨z, hl⟩ := loop_of (ns := ns) (k := k) (sp := sp) (c := c) (y6 := y6) (y5 := y5) (b := wb_law_3) (fun d => s_look_at_place [d] = some (.er "InvalidPlace")) (fun d y5 h => step3 hg h) places_bad
  have h3 := w3 (ns := ns) (k := k) (sp := sp) (c := c) (y5 := y5) (y6 := z)
  have p : fPow (.int 10) (.int 31) = some (.int 10000000000000000000000000000000) := fPow_int (by decide)
  refine ⟨z, ?_⟩
  unfold places at hl
  simp -implicitDefEqProofs only [wr_law_4, bnd_ok, bnd_er, bnd_none, bns_ok, bns_er, bns_none, pur_some, pur_none, gt_zero, gt_succ, st_zero, st_succ, e_wV, e_wC, e_wK, e_wO, e_wU, e_wNil, e_wCons, e_wB, e_wT, e_wTand, e_wTor, e_wTnot, e_wAnd, e_wOr, e_wNot, e_wIfE, e_wSeq, e_wSkip, e_wIf, e_wRet, e_wDo, e_wBk, e_wCt, e_wAs, e_gN, e_gT, e_wAsL, e_wAsD, e_wAsLD, e_wAsP, e_wFz, e_wIxO, e_wSetO, e_wApp, e_wPutO, e_wInO, e_wGetO, e_wPopO, e_isM, e_isK, e_wCall, e_wCallM, e_wAsO, e_wRaise, e_wCh, e_wI, e_wIt, e_wItL, e_wP0, e_wP1, e_wSl, e_wFor, e_wYes, e_wLc, e_wIsiT, boolOf_e, gL_nil, gL_cons, itemsOf_l, itemsOf_t, itemsOf_s, listOf_l, wipeE_nil, wipeE_cons, rsE_nil, rsE_cons, nown_none, nown_v, fEq_int, fNe_int, fLt_int, fLe_int, fGt_int, fGe_int, fAdd_int, fNeg_int, fI0_int, fLen_t, fLen_l, fTup_0, fTup_1, fTup_2, fTup_3, fLst_0, fLst_1, fLst_2, fLst_3, fLst_5, intOf_int, e_wIdx, e_wSplit, e_wGetV, strOf_e, dicOf_e, e_wD0, e_wAsP3, e_wAsLE, e_wAsVL, e_wAsDP, e_wAsDC, e_wLcI, e_wCnt, Bool.not_true, Bool.not_false, p, Int.reduceAdd, Int.reduceNeg, Int.reduceSub, hl, h3]
theorem w5 (hg : goodC c) : ∃ z, wr_law_5 (env ns k sp c y5 y6) = some (.nx (env ns k sp c y5 z)) := by
  obtain ⟨z, hl⟩ := loop_of (ns := ns) (k := k) (sp := sp) (c := c) (y6 := y6) (y5 := y5) (b := wb_law_2) (fun d => s_look_at_beat [d] = some (.er "InvalidBeat")) (fun d y5 h => step2 hg h) beats_bad
  obtain ⟨z2, h4⟩ := w4 (ns := ns) (k := k) (sp := sp) (y5 := y5) (y6 := z) hg
  have p : fPow (.int 10) (.int 30) = some (.int 1000000000000000000000000000000) := fPow_int (by decide)
  refine ⟨z2, ?_⟩
  unfold beats at hl
  simp -implicitDefEqProofs only [wr_law_5, bnd_ok, bnd_er, bnd_none, bns_ok, bns_er, bns_none, pur_some, pur_none, gt_zero, gt_succ, st_zero, st_succ, e_wV, e_wC, e_wK, e_wO, e_wU, e_wNil, e_wCons, e_wB, e_wT, e_wTand, e_wTor, e_wTnot, e_wAnd, e_wOr, e_wNot, e_wIfE, e_wSeq, e_wSkip, e_wIf, e_wRet, e_wDo, e_wBk, e_wCt, e_wAs, e_gN, e_gT, e_wAsL, e_wAsD, e_wAsLD, e_wAsP, e_wFz, e_wIxO, e_wSetO, e_wApp, e_wPutO, e_wInO, e_wGetO, e_wPopO, e_isM, e_isK, e_wCall, e_wCallM, e_wAsO, e_wRaise, e_wCh, e_wI, e_wIt, e_wItL, e_wP0, e_wP1, e_wSl, e_wFor, e_wYes, e_wLc, e_wIsiT, boolOf_e, gL_nil, gL_cons, itemsOf_l, itemsOf_t, itemsOf_s, listOf_l, wipeE_nil, wipeE_cons, rsE_nil, rsE_cons, nown_none, nown_v, fEq_int, fNe_int, fLt_int, fLe_int, fGt_int, fGe_int, fAdd_int, fNeg_int, fI0_int, fLen_t, fLen_l, fTup_0, fTup_1, fTup_2, fTup_3, fLst_0, fLst_1, fLst_2, fLst_3, fLst_5, intOf_int, e_wIdx, e_wSplit, e_wGetV, strOf_e, dicOf_e, e_wD0, e_wAsP3, e_wAsLE, e_wAsVL, e_wAsDP, e_wAsDC, e_wLcI, e_wCnt, Bool.not_true, Bool.not_false, p, Int.reduceAdd, Int.reduceNeg, hl, h4]
end
theorem l_cell (ns : List Int) (k : Nat) {x2 x3 x4 x5 x6 : Option Sl} : ∃ sp c z5 z6, wb_law_4 [some (.v (.scr ns)), some (.v (.int (k : Int))), x2, x3, x4, x5, x6, none] = some (.nx (env ns (k : Int) sp c z5 z6)) := by
  obtain ⟨s0, p0, q0⟩ := v__law_spring ns k
  obtain ⟨c, s1, p1, hg, _, q1⟩ := v__law_crew q0 (wide := 3) (far := 9) (by decide) (by decide) (by decide)
  obtain ⟨z, hl⟩ := loop_of (ns := ns) (k := (k : Int)) (sp := s1) (c := c) (y6 := x6) (y5 := some (.v (.lst (odds1 c ++ odds2)))) (b := wb_law_1) (fun d => s_look_at_crew [d] = some (.er "InvalidCrew")) (fun d y5 h => step1 hg h) (odds_bad hg)
  obtain ⟨z2, h5⟩ := w5 (ns := ns) (k := (k : Int)) (sp := s1) (y5 := some (.v (.lst (odds1 c ++ odds2)))) (y6 := z) hg
  refine ⟨s1, c, some (.v (.lst (odds1 c ++ odds2))), z2, ?_⟩
  have m5 := mul5
  have s2 := sl2
  have lo := lstO c
  unfold odds1 odds2 odds3 env oneD at hl
  unfold odds1 odds2 env oneD at h5
  unfold oneD at m5 s2
  unfold env oneD odds1 odds2
  simp -implicitDefEqProofs only [wb_law_4, bnd_ok, bnd_er, bnd_none, bns_ok, bns_er, bns_none, pur_some, pur_none, gt_zero, gt_succ, st_zero, st_succ, e_wV, e_wC, e_wK, e_wO, e_wU, e_wNil, e_wCons, e_wB, e_wT, e_wTand, e_wTor, e_wTnot, e_wAnd, e_wOr, e_wNot, e_wIfE, e_wSeq, e_wSkip, e_wIf, e_wRet, e_wDo, e_wBk, e_wCt, e_wAs, e_gN, e_gT, e_wAsL, e_wAsD, e_wAsLD, e_wAsP, e_wFz, e_wIxO, e_wSetO, e_wApp, e_wPutO, e_wInO, e_wGetO, e_wPopO, e_isM, e_isK, e_wCall, e_wCallM, e_wAsO, e_wRaise, e_wCh, e_wI, e_wIt, e_wItL, e_wP0, e_wP1, e_wSl, e_wFor, e_wYes, e_wLc, e_wIsiT, boolOf_e, gL_nil, gL_cons, itemsOf_l, itemsOf_t, itemsOf_s, listOf_l, wipeE_nil, wipeE_cons, rsE_nil, rsE_cons, nown_none, nown_v, fEq_int, fNe_int, fLt_int, fLe_int, fGt_int, fGe_int, fAdd_int, fNeg_int, fI0_int, fLen_t, fLen_l, fTup_0, fTup_1, fTup_2, fTup_3, fLst_0, fLst_1, fLst_2, fLst_3, fLst_5, intOf_int, e_wIdx, e_wSplit, e_wGetV, strOf_e, dicOf_e, e_wD0, e_wAsP3, e_wAsLE, e_wAsVL, e_wAsDP, e_wAsDC, e_wLcI, e_wCnt, Bool.not_true, Bool.not_false, p0, p1, fTup_4k, m5, lo, fLst_9, fLst_4k, fAdd_94, fAdd_134, s2, hl, h5]
theorem rg_nat (n : Nat) : rgL 0 n = (List.range n).map fun i => Dt.int (i : Nat) := by
  unfold rgL
  refine List.map_congr_left fun i _ => ?_
  rw [Int.zero_add]
theorem law_true (ns : List Int) (h1 : ns.length ≤ 63) (h2 : ∀ z ∈ ns, Builtin.Int.intBits z ≤ 1048576) : s_law [.scr ns] = some (.ok (.bl true)) := by
  have hmin : ∃ m : Int, fMin2 [.int (ns.length : Int), .int 4] = some (.int m) ∧ 0 ≤ m ∧ m ≤ 4 := by
    unfold fMin2
    refine ⟨_, rfl, ?_, ?_⟩ <;> split <;> omega
  obtain ⟨m, hm, m0, m8⟩ := hmin
  have hr : fRg1 [.int (m + 1)] = some (rgL 0 (m + 1).toNat) := fRg1_int (by omega) (by omega)
  obtain ⟨e2, k1, _⟩ := forL_inv (g := gN 1) (b := wb_law_4) (fun e => ∃ x1 x2 x3 x4 x5 x6, e = [some (.v (.scr ns)), x1, x2, x3, x4, x5, x6, none]) (ds := rgL 0 (m + 1).toNat) (e := [some (.v (.scr ns)), none, none, none, none, none, none, none]) (fun d hd e he => by
    obtain ⟨x1, x2, x3, x4, x5, x6, rfl⟩ := he
    rw [rg_nat] at hd
    obtain ⟨j, _, rfl⟩ := List.mem_map.mp hd
    obtain ⟨sp, c, z5, z6, f1⟩ := l_cell ns j (x2 := x2) (x3 := x3) (x4 := x4) (x5 := x5) (x6 := x6)
    exact ⟨_, rfl, _, .inl f1, ⟨_, _, _, _, _, _, rfl⟩⟩) ⟨_, _, _, _, _, _, rfl⟩
  refine sem_rt (e := e2) ?_
  have hini : iniE 8 [.scr ns] = [some (.v (.scr ns)), none, none, none, none, none, none, none] := rfl
  rw [hini]
  simp -implicitDefEqProofs only [w_law, bnd_ok, bnd_er, bnd_none, bns_ok, bns_er, bns_none, pur_some, pur_none, gt_zero, gt_succ, st_zero, st_succ, e_wV, e_wC, e_wK, e_wO, e_wU, e_wNil, e_wCons, e_wB, e_wT, e_wTand, e_wTor, e_wTnot, e_wAnd, e_wOr, e_wNot, e_wIfE, e_wSeq, e_wSkip, e_wIf, e_wRet, e_wDo, e_wBk, e_wCt, e_wAs, e_gN, e_gT, e_wAsL, e_wAsD, e_wAsLD, e_wAsP, e_wFz, e_wIxO, e_wSetO, e_wApp, e_wPutO, e_wInO, e_wGetO, e_wPopO, e_isM, e_isK, e_wCall, e_wCallM, e_wAsO, e_wRaise, e_wCh, e_wI, e_wIt, e_wItL, e_wP0, e_wP1, e_wSl, e_wFor, e_wYes, e_wLc, e_wIsiT, boolOf_e, gL_nil, gL_cons, itemsOf_l, itemsOf_t, itemsOf_s, listOf_l, wipeE_nil, wipeE_cons, rsE_nil, rsE_cons, nown_none, nown_v, fEq_int, fNe_int, fLt_int, fLe_int, fGt_int, fGe_int, fAdd_int, fNeg_int, fI0_int, fLen_t, fLen_l, fTup_0, fTup_1, fTup_2, fTup_3, fLst_0, fLst_1, fLst_2, fLst_3, fLst_5, intOf_int, e_wIdx, e_wSplit, e_wGetV, strOf_e, dicOf_e, e_wD0, e_wAsP3, e_wAsLE, e_wAsVL, e_wAsDP, e_wAsDC, e_wLcI, e_wCnt, Bool.not_true, Bool.not_false, fLen_s, hm, hr, k1, wr_law_6]
end K12
set_option maxHeartbeats 0
namespace K12
open PySem PySem.Spec PyProof.Rows L2 Ly LamX Pg
def loose0 : List Str := ["DEEDS", "FAR", "WIDE", "CORE", "NEAR", "TURNS", "LEAST", "MANY", "StepError", "InvalidCrew", "InvalidWalker", "InvalidBeat", "InvalidPlace", "InvalidSeen", "InvalidText", "NothingLeft", "Stair", "Crew", "_wall", "is_within", "is_wide", "is_walker", "is_fit", "look_at_crew", "look_at_walker", "look_at_beat", "look_at_place", "drift", "stands_at", "less_by"]
def loose1 : List Str := ["look_at_less", "without", "place_at", "far_in", "divisor", "multiple", "drifting", "round_of", "error_of", "order_from", "enough_beats", "first_visits", "phases_at", "count_visits", "last_visit", "last_setting", "turns_behind", "open_at", "mirrored", "led", "fronts", "stretches", "count_in", "last_in", "first_in", "count_right", "last_right", "first_right", "core_of", "number_at"]
def loose2 : List Str := ["ends_at", "is_open", "count_open", "ends_open", "open_between", "late_beat", "fate_of", "settled_at", "shortened", "right_of", "left_of", "fate", "settled", "right", "left", "done", "parting_of", "alike", "parting", "idle_walkers", "apart", "beats_of", "look_at_two", "meets", "next_meeting", "count_meetings", "behind", "is_sight", "look_at_seen", "with_walker"]
def loose3 : List Str := ["goes_with", "starts_for", "deeds_for", "line_of", "text_of", "crew_text", "number_of", "walker_of", "read_crew", "made_of", "_law_spring", "_law_pick", "_law_kind", "_law_twins", "_law_walker", "_law_crew", "_law_stand", "_law_on", "_law_run", "_law_error_of", "_law_came", "_law_of_crew", "_law_all_say"]
def loose : List Str := loose0 ++ loose1 ++ loose2 ++ loose3
def dd_is_within : He.DefD := ⟨("is_within", none), "is_within", "is_within", defArgs (top 14), defBody (top 14), defScope (top 14), [], []⟩
def dd_is_wide : He.DefD := ⟨("is_wide", none), "is_wide", "is_wide", defArgs (top 15), defBody (top 15), defScope (top 15), [], []⟩
def dd_is_walker : He.DefD := ⟨("is_walker", none), "is_walker", "is_walker", defArgs (top 16), defBody (top 16), defScope (top 16), [], []⟩
def dd_is_fit : He.DefD := ⟨("is_fit", none), "is_fit", "is_fit", defArgs (top 17), defBody (top 17), defScope (top 17), [], []⟩
def dd_look_at_crew : He.DefD := ⟨("look_at_crew", none), "look_at_crew", "look_at_crew", defArgs (top 18), defBody (top 18), defScope (top 18), [], []⟩
def dd_look_at_beat : He.DefD := ⟨("look_at_beat", none), "look_at_beat", "look_at_beat", defArgs (top 20), defBody (top 20), defScope (top 20), [], []⟩
def dd_look_at_place : He.DefD := ⟨("look_at_place", none), "look_at_place", "look_at_place", defArgs (top 21), defBody (top 21), defScope (top 21), [], []⟩
def dd_without : He.DefD := ⟨("without", none), "without", "without", defArgs (top 26), defBody (top 26), defScope (top 26), [], []⟩
def dd_place_at : He.DefD := ⟨("place_at", none), "place_at", "place_at", defArgs (top 27), defBody (top 27), defScope (top 27), [], []⟩
def dd_far_in : He.DefD := ⟨("far_in", none), "far_in", "far_in", defArgs (top 28), defBody (top 28), defScope (top 28), [], []⟩
def dd_is_open : He.DefD := ⟨("is_open", none), "is_open", "is_open", defArgs (top 61), defBody (top 61), defScope (top 61), [], []⟩
def dd_count_open : He.DefD := ⟨("count_open", none), "count_open", "count_open", defArgs (top 62), defBody (top 62), defScope (top 62), [], []⟩
def dd_ends_open : He.DefD := ⟨("ends_open", none), "ends_open", "ends_open", defArgs (top 63), defBody (top 63), defScope (top 63), [], []⟩
def dd_open_between : He.DefD := ⟨("open_between", none), "open_between", "open_between", defArgs (top 64), defBody (top 64), defScope (top 64), [], []⟩
def dd_fate : He.DefD := ⟨("fate", none), "fate", "fate", defArgs (top 73), defBody (top 73), defScope (top 73), [], []⟩
def dd_settled : He.DefD := ⟨("settled", none), "settled", "settled", defArgs (top 74), defBody (top 74), defScope (top 74), [], []⟩
def dd_right : He.DefD := ⟨("right", none), "right", "right", defArgs (top 75), defBody (top 75), defScope (top 75), [], []⟩
def dd_left : He.DefD := ⟨("left", none), "left", "left", defArgs (top 76), defBody (top 76), defScope (top 76), [], []⟩
def dd_alike : He.DefD := ⟨("alike", none), "alike", "alike", defArgs (top 80), defBody (top 80), defScope (top 80), [], []⟩
def dd_parting : He.DefD := ⟨("parting", none), "parting", "parting", defArgs (top 81), defBody (top 81), defScope (top 81), [], []⟩
def dd_idle_walkers : He.DefD := ⟨("idle_walkers", none), "idle_walkers", "idle_walkers", defArgs (top 82), defBody (top 82), defScope (top 82), [], []⟩
def dd_look_at_two : He.DefD := ⟨("look_at_two", none), "look_at_two", "look_at_two", defArgs (top 86), defBody (top 86), defScope (top 86), [], []⟩
def dd_meets : He.DefD := ⟨("meets", none), "meets", "meets", defArgs (top 87), defBody (top 87), defScope (top 87), [], []⟩
def dd_next_meeting : He.DefD := ⟨("next_meeting", none), "next_meeting", "next_meeting", defArgs (top 88), defBody (top 88), defScope (top 88), [], []⟩
def dd_count_meetings : He.DefD := ⟨("count_meetings", none), "count_meetings", "count_meetings", defArgs (top 89), defBody (top 89), defScope (top 89), [], []⟩
def dd_look_at_seen : He.DefD := ⟨("look_at_seen", none), "look_at_seen", "look_at_seen", defArgs (top 95), defBody (top 95), defScope (top 95), [], []⟩
def dd_starts_for : He.DefD := ⟨("starts_for", none), "starts_for", "starts_for", defArgs (top 98), defBody (top 98), defScope (top 98), [], []⟩
def dd_deeds_for : He.DefD := ⟨("deeds_for", none), "deeds_for", "deeds_for", defArgs (top 99), defBody (top 99), defScope (top 99), [], []⟩
def dd_crew_text : He.DefD := ⟨("crew_text", none), "crew_text", "crew_text", defArgs (top 105), defBody (top 105), defScope (top 105), [], []⟩
def dd__law_spring : He.DefD := ⟨("_law_spring", none), "_law_spring", "_law_spring", defArgs (top 113), defBody (top 113), defScope (top 113), [], []⟩
def dd__law_pick : He.DefD := ⟨("_law_pick", none), "_law_pick", "_law_pick", defArgs (top 114), defBody (top 114), defScope (top 114), [], []⟩
def dd__law_walker : He.DefD := ⟨("_law_walker", none), "_law_walker", "_law_walker", defArgs (top 117), defBody (top 117), defScope (top 117), [], []⟩
def dd__law_crew : He.DefD := ⟨("_law_crew", none), "_law_crew", "_law_crew", defArgs (top 118), defBody (top 118), defScope (top 118), [], []⟩
def dd__law_error_of : He.DefD := ⟨("_law_error_of", none), "_law_error_of", "_law_error_of", defArgs (top 122), defBody (top 122), defScope (top 122), [], []⟩
def dd__law_came : He.DefD := ⟨("_law_came", none), "_law_came", "_law_came", defArgs (top 123), defBody (top 123), defScope (top 123), [], []⟩
def dd__law_of_crew : He.DefD := ⟨("_law_of_crew", none), "_law_of_crew", "_law_of_crew", defArgs (top 124), defBody (top 124), defScope (top 124), [], []⟩
def dd__law_all_say : He.DefD := ⟨("_law_all_say", none), "_law_all_say", "_law_all_say", defArgs (top 125), defBody (top 125), defScope (top 125), [], []⟩
def dd_law : He.DefD := ⟨("law", none), "law", "law", defArgs (top 126), defBody (top 126), defScope (top 126), [], []⟩
def dd_Stair : He.DefD := ⟨("Stair", some "__init__"), "__init__", "Stair.__init__", defArgs (meth (top 92) 1), defBody (meth (top 92) 1), defScope (meth (top 92) 1), [], []⟩
def dd_Crew : He.DefD := ⟨("Crew", some "__init__"), "__init__", "Crew.__init__", defArgs (meth (top 111) 1), defBody (meth (top 111) 1), defScope (meth (top 111) 1), [], []⟩
def fn0 : List He.DefD := [dd_is_within, dd_is_wide, dd_is_walker, dd_is_fit, dd_look_at_crew, dd_look_at_beat, dd_look_at_place, dd_without, dd_place_at, dd_far_in, dd_is_open, dd_count_open, dd_ends_open, dd_open_between, dd_fate, dd_settled, dd_right, dd_left, dd_alike, dd_parting]
def fn1 : List He.DefD := [dd_idle_walkers, dd_look_at_two, dd_meets, dd_next_meeting, dd_count_meetings, dd_look_at_seen, dd_starts_for, dd_deeds_for, dd_crew_text, dd__law_spring, dd__law_pick, dd__law_walker, dd__law_crew, dd__law_error_of, dd__law_came, dd__law_of_crew, dd__law_all_say, dd_law, dd_Stair, dd_Crew]
def fnL : List He.DefD := fn0 ++ fn1
def fa0 : List He.Fa := [.free "abs", .free "all", .free "bool", .free "int", .free "isinstance", .free "len", .free "list", .free "min", .free "range", .free "str", .free "sum", .free "tuple", .glo "is_within", .glo "is_wide", .glo "is_walker", .glo "is_fit", .glo "look_at_crew", .glo "look_at_beat", .glo "look_at_place", .glo "without", .glo "place_at", .glo "far_in", .glo "is_open", .glo "count_open", .glo "ends_open"]
def fa1 : List He.Fa := [.glo "open_between", .glo "fate", .glo "settled", .glo "right", .glo "left", .glo "alike", .glo "parting", .glo "idle_walkers", .glo "look_at_two", .glo "meets", .glo "next_meeting", .glo "count_meetings", .glo "look_at_seen", .glo "starts_for", .glo "deeds_for", .glo "crew_text", .glo "_law_spring", .glo "_law_pick", .glo "_law_walker", .glo "_law_crew", .glo "_law_error_of", .glo "_law_came", .glo "_law_of_crew", .glo "_law_all_say", .glo "law"]
def fa2 : List He.Fa := [.glo "Stair", .glo "Crew", .mkr "Stair", .mkr "Crew", .int "FAR" (1000000000000000000000000000000), .int "WIDE" (10000000000000000000000000000000), .glo "DEEDS", .glo "InvalidBeat", .glo "InvalidCrew", .glo "InvalidPlace", .glo "InvalidSeen", .glo "InvalidText", .glo "InvalidWalker", .glo "NothingLeft", .exc "InvalidBeat", .exc "InvalidCrew", .exc "InvalidPlace", .exc "InvalidSeen", .exc "InvalidText", .exc "InvalidWalker", .exc "NothingLeft", .glo "StepError", .exm "InvalidBeat" "StepError" true, .exm "InvalidCrew" "StepError" true, .exm "InvalidPlace" "StepError" true]
def fa3 : List He.Fa := [.exm "InvalidSeen" "StepError" true, .exm "InvalidText" "StepError" true, .exm "InvalidWalker" "StepError" true, .exm "NothingLeft" "StepError" true]
def faL : List He.Fa := fa0 ++ fa1 ++ fa2 ++ fa3
def clsL : List Str := ["InvalidBeat", "InvalidCrew", "InvalidPlace", "InvalidSeen", "InvalidText", "InvalidWalker", "NothingLeft"]
def tfL : List He.Defn := [("_law_of_crew", none), ("law", none)]
def exB (K : PySem.W.Frag) : Bool := He.tupB K "DEEDS" [.str "look", .str "open", .str "shut", .str "turn"] && clsB K clsL && decide ((He.cT K ("_law_of_crew", none)).2 ≠ (He.cT K ("law", none)).2)
theorem fct {w : World} {h : Heap} {K : PySem.W.Frag} (c : He.SaysX faL fnL [] tfL exB w h K) (f : He.Fa) (hf : (faL.any fun g => faEq g f) = true) : f.ok K = true := by
  obtain ⟨g, hg, e⟩ := List.any_eq_true.mp hf
  rw [← faEq_ok e]; exact (saysT_D c.t).facts hg
theorem exm_all {w : World} {h : Heap} {K : PySem.W.Frag} (c : He.SaysX faL fnL [] tfL exB w h K) (x : Str) (hx : clsL.contains x = true) : (He.Fa.exm x "StepError" true).ok K = true := by
  have all : ∀ y ∈ clsL, (faL.any fun g => faEq g (.exm y "StepError" true)) = true := by
    have : (clsL.all fun y => faL.any fun g => faEq g (.exm y "StepError" true)) = true := by decide +kernel
    exact List.all_eq_true.mp this
  exact fct c _ (all x (List.contains_iff_mem.mp hx))
theorem wdOf {P : Program} {w : World} {h : Heap} {K : PySem.W.Frag} {mg : Str → Option Value} {base : Heap} {T : List (Addr × Str)} (X : K.In h) (G : h.Ns mainGlobals mg) (c : He.SaysX faL fnL [] tfL exB w h K) : Wd P w K mg base T (clOf K clsL) := by
  have hx : exB K = true := c.more
  unfold exB at hx
  simp only [Bool.and_eq_true] at hx
  exact {
    f_abs := He.free_ok X G (fct c (.free "abs") (by decide +kernel))
    f_all := He.free_ok X G (fct c (.free "all") (by decide +kernel))
    f_bool := He.free_ok X G (fct c (.free "bool") (by decide +kernel))
    f_int := He.free_ok X G (fct c (.free "int") (by decide +kernel))
    f_isinstance := He.free_ok X G (fct c (.free "isinstance") (by decide +kernel))
    f_len := He.free_ok X G (fct c (.free "len") (by decide +kernel))
    f_list := He.free_ok X G (fct c (.free "list") (by decide +kernel))
    f_min := He.free_ok X G (fct c (.free "min") (by decide +kernel))
    f_range := He.free_ok X G (fct c (.free "range") (by decide +kernel))
    f_str := He.free_ok X G (fct c (.free "str") (by decide +kernel))
    f_sum := He.free_ok X G (fct c (.free "sum") (by decide +kernel))
    f_tuple := He.free_ok X G (fct c (.free "tuple") (by decide +kernel))
    m_Stair := by
      obtain ⟨fd, F⟩ := (saysT_D c.t).def_ 38 (d := dd_Stair) rfl
      exact ⟨_, _, fd, He.mkr_ok (fct c (.mkr "Stair") (by decide +kernel)), He.glo_ok X G (fct c (.glo "Stair") (by decide +kernel)), F⟩
    m_Crew := by
      obtain ⟨fd, F⟩ := (saysT_D c.t).def_ 39 (d := dd_Crew) rfl
      exact ⟨_, _, fd, He.mkr_ok (fct c (.mkr "Crew") (by decide +kernel)), He.glo_ok X G (fct c (.glo "Crew") (by decide +kernel)), F⟩
    d_is_within := by
      obtain ⟨fd, F⟩ := (saysT_D c.t).def_ 0 (d := dd_is_within) rfl
      exact ⟨_, fd, F, He.glo_ok X G (fct c (.glo "is_within") (by decide +kernel))⟩
    d_is_wide := by
      obtain ⟨fd, F⟩ := (saysT_D c.t).def_ 1 (d := dd_is_wide) rfl
      exact ⟨_, fd, F, He.glo_ok X G (fct c (.glo "is_wide") (by decide +kernel))⟩
    d_is_walker := by
      obtain ⟨fd, F⟩ := (saysT_D c.t).def_ 2 (d := dd_is_walker) rfl
      exact ⟨_, fd, F, He.glo_ok X G (fct c (.glo "is_walker") (by decide +kernel))⟩
    d_is_fit := by
      obtain ⟨fd, F⟩ := (saysT_D c.t).def_ 3 (d := dd_is_fit) rfl
      exact ⟨_, fd, F, He.glo_ok X G (fct c (.glo "is_fit") (by decide +kernel))⟩
    d_look_at_crew := by
      obtain ⟨fd, F⟩ := (saysT_D c.t).def_ 4 (d := dd_look_at_crew) rfl
      exact ⟨_, fd, F, He.glo_ok X G (fct c (.glo "look_at_crew") (by decide +kernel))⟩
    d_look_at_beat := by
      obtain ⟨fd, F⟩ := (saysT_D c.t).def_ 5 (d := dd_look_at_beat) rfl
      exact ⟨_, fd, F, He.glo_ok X G (fct c (.glo "look_at_beat") (by decide +kernel))⟩
    d_look_at_place := by
      obtain ⟨fd, F⟩ := (saysT_D c.t).def_ 6 (d := dd_look_at_place) rfl
      exact ⟨_, fd, F, He.glo_ok X G (fct c (.glo "look_at_place") (by decide +kernel))⟩
    d_without := by
      obtain ⟨fd, F⟩ := (saysT_D c.t).def_ 7 (d := dd_without) rfl
      exact ⟨_, fd, F, He.glo_ok X G (fct c (.glo "without") (by decide +kernel))⟩
    d_place_at := by
      obtain ⟨fd, F⟩ := (saysT_D c.t).def_ 8 (d := dd_place_at) rfl
      exact ⟨_, fd, F, He.glo_ok X G (fct c (.glo "place_at") (by decide +kernel))⟩
    d_far_in := by
      obtain ⟨fd, F⟩ := (saysT_D c.t).def_ 9 (d := dd_far_in) rfl
      exact ⟨_, fd, F, He.glo_ok X G (fct c (.glo "far_in") (by decide +kernel))⟩
    d_is_open := by
      obtain ⟨fd, F⟩ := (saysT_D c.t).def_ 10 (d := dd_is_open) rfl
      exact ⟨_, fd, F, He.glo_ok X G (fct c (.glo "is_open") (by decide +kernel))⟩
    d_count_open := by
      obtain ⟨fd, F⟩ := (saysT_D c.t).def_ 11 (d := dd_count_open) rfl
      exact ⟨_, fd, F, He.glo_ok X G (fct c (.glo "count_open") (by decide +kernel))⟩
    d_ends_open := by
      obtain ⟨fd, F⟩ := (saysT_D c.t).def_ 12 (d := dd_ends_open) rfl
      exact ⟨_, fd, F, He.glo_ok X G (fct c (.glo "ends_open") (by decide +kernel))⟩
    d_open_between := by
      obtain ⟨fd, F⟩ := (saysT_D c.t).def_ 13 (d := dd_open_between) rfl
      exact ⟨_, fd, F, He.glo_ok X G (fct c (.glo "open_between") (by decide +kernel))⟩
    d_fate := by
      obtain ⟨fd, F⟩ := (saysT_D c.t).def_ 14 (d := dd_fate) rfl
      exact ⟨_, fd, F, He.glo_ok X G (fct c (.glo "fate") (by decide +kernel))⟩
    d_settled := by
      obtain ⟨fd, F⟩ := (saysT_D c.t).def_ 15 (d := dd_settled) rfl
      exact ⟨_, fd, F, He.glo_ok X G (fct c (.glo "settled") (by decide +kernel))⟩
    d_right := by
      obtain ⟨fd, F⟩ := (saysT_D c.t).def_ 16 (d := dd_right) rfl
      exact ⟨_, fd, F, He.glo_ok X G (fct c (.glo "right") (by decide +kernel))⟩
    d_left := by
      obtain ⟨fd, F⟩ := (saysT_D c.t).def_ 17 (d := dd_left) rfl
      exact ⟨_, fd, F, He.glo_ok X G (fct c (.glo "left") (by decide +kernel))⟩
    d_alike := by
      obtain ⟨fd, F⟩ := (saysT_D c.t).def_ 18 (d := dd_alike) rfl
      exact ⟨_, fd, F, He.glo_ok X G (fct c (.glo "alike") (by decide +kernel))⟩
    d_parting := by
      obtain ⟨fd, F⟩ := (saysT_D c.t).def_ 19 (d := dd_parting) rfl
      exact ⟨_, fd, F, He.glo_ok X G (fct c (.glo "parting") (by decide +kernel))⟩
    d_idle_walkers := by
      obtain ⟨fd, F⟩ := (saysT_D c.t).def_ 20 (d := dd_idle_walkers) rfl
      exact ⟨_, fd, F, He.glo_ok X G (fct c (.glo "idle_walkers") (by decide +kernel))⟩
    d_look_at_two := by
      obtain ⟨fd, F⟩ := (saysT_D c.t).def_ 21 (d := dd_look_at_two) rfl
      exact ⟨_, fd, F, He.glo_ok X G (fct c (.glo "look_at_two") (by decide +kernel))⟩
    d_meets := by
      obtain ⟨fd, F⟩ := (saysT_D c.t).def_ 22 (d := dd_meets) rfl
      exact ⟨_, fd, F, He.glo_ok X G (fct c (.glo "meets") (by decide +kernel))⟩
    d_next_meeting := by
      obtain ⟨fd, F⟩ := (saysT_D c.t).def_ 23 (d := dd_next_meeting) rfl
      exact ⟨_, fd, F, He.glo_ok X G (fct c (.glo "next_meeting") (by decide +kernel))⟩
    d_count_meetings := by
      obtain ⟨fd, F⟩ := (saysT_D c.t).def_ 24 (d := dd_count_meetings) rfl
      exact ⟨_, fd, F, He.glo_ok X G (fct c (.glo "count_meetings") (by decide +kernel))⟩
    d_look_at_seen := by
      obtain ⟨fd, F⟩ := (saysT_D c.t).def_ 25 (d := dd_look_at_seen) rfl
      exact ⟨_, fd, F, He.glo_ok X G (fct c (.glo "look_at_seen") (by decide +kernel))⟩
    d_starts_for := by
      obtain ⟨fd, F⟩ := (saysT_D c.t).def_ 26 (d := dd_starts_for) rfl
      exact ⟨_, fd, F, He.glo_ok X G (fct c (.glo "starts_for") (by decide +kernel))⟩
    d_deeds_for := by
      obtain ⟨fd, F⟩ := (saysT_D c.t).def_ 27 (d := dd_deeds_for) rfl
      exact ⟨_, fd, F, He.glo_ok X G (fct c (.glo "deeds_for") (by decide +kernel))⟩
    d_crew_text := by
      obtain ⟨fd, F⟩ := (saysT_D c.t).def_ 28 (d := dd_crew_text) rfl
      exact ⟨_, fd, F, He.glo_ok X G (fct c (.glo "crew_text") (by decide +kernel))⟩
    d__law_spring := by
      obtain ⟨fd, F⟩ := (saysT_D c.t).def_ 29 (d := dd__law_spring) rfl
      exact ⟨_, fd, F, He.glo_ok X G (fct c (.glo "_law_spring") (by decide +kernel))⟩
    d__law_pick := by
      obtain ⟨fd, F⟩ := (saysT_D c.t).def_ 30 (d := dd__law_pick) rfl
      exact ⟨_, fd, F, He.glo_ok X G (fct c (.glo "_law_pick") (by decide +kernel))⟩
    d__law_walker := by
      obtain ⟨fd, F⟩ := (saysT_D c.t).def_ 31 (d := dd__law_walker) rfl
      exact ⟨_, fd, F, He.glo_ok X G (fct c (.glo "_law_walker") (by decide +kernel))⟩
    d__law_crew := by
      obtain ⟨fd, F⟩ := (saysT_D c.t).def_ 32 (d := dd__law_crew) rfl
      exact ⟨_, fd, F, He.glo_ok X G (fct c (.glo "_law_crew") (by decide +kernel))⟩
    d__law_error_of := by
      obtain ⟨fd, F⟩ := (saysT_D c.t).def_ 33 (d := dd__law_error_of) rfl
      exact ⟨_, fd, F, He.glo_ok X G (fct c (.glo "_law_error_of") (by decide +kernel))⟩
    d__law_came := by
      obtain ⟨fd, F⟩ := (saysT_D c.t).def_ 34 (d := dd__law_came) rfl
      exact ⟨_, fd, F, He.glo_ok X G (fct c (.glo "_law_came") (by decide +kernel))⟩
    d__law_of_crew := by
      obtain ⟨fd, F⟩ := (saysT_D c.t).def_ 35 (d := dd__law_of_crew) rfl
      exact ⟨_, fd, F, He.glo_ok X G (fct c (.glo "_law_of_crew") (by decide +kernel))⟩
    d__law_all_say := by
      obtain ⟨fd, F⟩ := (saysT_D c.t).def_ 36 (d := dd__law_all_say) rfl
      exact ⟨_, fd, F, He.glo_ok X G (fct c (.glo "_law_all_say") (by decide +kernel))⟩
    d_law := by
      obtain ⟨fd, F⟩ := (saysT_D c.t).def_ 37 (d := dd_law) rfl
      exact ⟨_, fd, F, He.glo_ok X G (fct c (.glo "law") (by decide +kernel))⟩
    c_InvalidBeat := gx_of X G (fct c (.glo "InvalidBeat") (by decide +kernel)) (fct c (.exc "InvalidBeat") (by decide +kernel)) (clOf_at (by decide +kernel))
    c_InvalidCrew := gx_of X G (fct c (.glo "InvalidCrew") (by decide +kernel)) (fct c (.exc "InvalidCrew") (by decide +kernel)) (clOf_at (by decide +kernel))
    c_InvalidPlace := gx_of X G (fct c (.glo "InvalidPlace") (by decide +kernel)) (fct c (.exc "InvalidPlace") (by decide +kernel)) (clOf_at (by decide +kernel))
    c_InvalidSeen := gx_of X G (fct c (.glo "InvalidSeen") (by decide +kernel)) (fct c (.exc "InvalidSeen") (by decide +kernel)) (clOf_at (by decide +kernel))
    c_InvalidText := gx_of X G (fct c (.glo "InvalidText") (by decide +kernel)) (fct c (.exc "InvalidText") (by decide +kernel)) (clOf_at (by decide +kernel))
    c_InvalidWalker := gx_of X G (fct c (.glo "InvalidWalker") (by decide +kernel)) (fct c (.exc "InvalidWalker") (by decide +kernel)) (clOf_at (by decide +kernel))
    c_NothingLeft := gx_of X G (fct c (.glo "NothingLeft") (by decide +kernel)) (fct c (.exc "NothingLeft") (by decide +kernel)) (clOf_at (by decide +kernel))
    i_FAR := He.int_ok X G (fct c (.int "FAR" (1000000000000000000000000000000)) (by decide +kernel))
    i_WIDE := He.int_ok X G (fct c (.int "WIDE" (10000000000000000000000000000000)) (by decide +kernel))
    t_DEEDS := ⟨_, He.glo_ok X G (fct c (.glo "DEEDS") (by decide +kernel)), fun F => rep_strs_of (l := ["look", "open", "shut", "turn"]) (He.tupB_ok hx.1.1 F)⟩
    cls := clsB_ok hx.1.2
    step := ⟨_, He.glo_ok X G (fct c (.glo "StepError") (by decide +kernel)), fun c1 n C h1 h2 => by
      obtain ⟨hm, rfl⟩ := clOf_inv h1
      exact He.exm_ok (exm_all c c1 hm)⟩ }
abbrev R : PySem.W.OpenRow := PySem.W.OpenLaw.row PySem.Challenge.rw_sharedsteps_k12_what_is_refused
def fnsL0 : List Str := ["is_within", "is_wide", "is_walker", "is_fit", "look_at_crew", "look_at_beat", "look_at_place", "without", "place_at", "far_in", "is_open", "count_open", "ends_open", "open_between", "fate", "settled", "right", "left", "alike", "parting", "idle_walkers", "look_at_two", "meets", "next_meeting", "count_meetings"]
def fnsL1 : List Str := ["look_at_seen", "starts_for", "deeds_for", "crew_text", "_law_spring", "_law_pick", "_law_walker", "_law_crew", "_law_error_of", "_law_came", "_law_of_crew", "_law_all_say", "law"]
def fnsL : List Str := fnsL0 ++ fnsL1
def clsY0 : List Str := ["InvalidBeat", "InvalidCrew", "InvalidPlace", "InvalidSeen", "InvalidText", "InvalidWalker", "NothingLeft", "StepError", "Stair", "Crew", "DEEDS"]
def clsY : List Str := clsY0
def msL : List He.Defn := [("Stair", some "__init__"), ("Crew", some "__init__")]
abbrev hk : PySem.W.Hook := hookY fnsL clsY msL faL fnL tfL exB
def ob (s : PySem.W.SharedT) : He.AlX := obsY fnsL clsY msL faL fnL tfL exB (HandSHeadRun.getT s)
theorem ob_eq (s : PySem.W.SharedT) : ob s = hk.obs s.abs := obsY_eq (HandSHeadRun.getT_eq s)
theorem run_a (w : World) : RunA R 8000 w := by
  intro os
  kernel_rfl
theorem run_b (w : World) : RunB R (PySem.W.view R.prog [126]) 8000 loose w := by
  intro os
  kernel_rfl
theorem run_c (w : World) : RunC R hk ob 8000 w := by
  intro os
  kernel_rfl
theorem run (w : World) : HandSHeadRun.RunEq R (PySem.W.view R.prog [126]) hk ob 8000 loose w := runEq_of (run_a w) (run_b w) (run_c w)
end K12
set_option maxHeartbeats 0
open PySem PySem.W PySem.Calls PyProof.Rows
theorem PySem.Challenge.cw_sharedsteps_k12_what_is_refused_holds : PySem.Challenge.rw_sharedsteps_k12_what_is_refused.Holds := by
  w_on; o_law
  refine HandSHeadRun.head_any (r := OpenLaw.row PySem.Challenge.rw_sharedsteps_k12_what_is_refused) (q := view (OpenLaw.row PySem.Challenge.rw_sharedsteps_k12_what_is_refused).prog [126]) (H := K12.hk) (ob := K12.ob) (M := 8000) (loose := K12.loose) (d := HandSHeadRun.topDef (OpenLaw.row PySem.Challenge.rw_sharedsteps_k12_what_is_refused).prog 126) (kwd := []) K12.ob_eq
    (by kernel_rfl) (fun s => by kernel_rfl) K12.run (by kernel_rfl) (by kernel_rfl) (by kernel_rfl) (by rfl) (by first | assumption | decide +kernel) (by decide +kernel) ⟨rfl, rfl, rfl, rfl, rfl, by decide +kernel⟩ ?hw ?hc
  case hw => w_witness2
  case hc =>
    refine LamX.walk_ofTsE (l := PySem.Challenge.rw_sharedsteps_k12_what_is_refused) (n := 63) (k := 12) (x := "script") (CX := fun w => L2N.CX (PySem.Challenge.rw_sharedsteps_k12_what_is_refused).prog w) rfl (by decide) (by kernel_rfl) ⟨rfl, by decide, by decide⟩ ?F (fun w H s e t z => Ly.cxFalse z)
    intro w mg fa h Y G hmg0
    obtain ⟨K, KX, c⟩ := Y
    have hmg : mg ("law" : PySem.Str) = some (.ref fa) := by
      have e : (HandSHeadRun.topDef (OpenLaw.row PySem.Challenge.rw_sharedsteps_k12_what_is_refused).prog 126).name = ("law" : PySem.Str) := by kernel_rfl
      rw [← e]
      exact hmg0
    have hfa : fa = He.fAd K ("law", none) := by
      have e := hmg.symm.trans (He.glo_ok KX G (K12.fct c (.glo "law") (by decide +kernel)))
      exact Value.ref.inj (Option.some.inj e)
    subst hfa
    obtain ⟨fd, F⟩ := (Ly.saysT_D c.t).defs (d := K12.dd_law) (by simp [K12.fnL, K12.fn0,K12.fn1])
    refine ⟨K, KX, Ly.lawAt (tf := K12.tfL) (cl := Ly.clOf K K12.clsL) (f := K12.s_law) KX (fun q hq => c.hd q hq) (fun q hq => c.out q hq) (fun q hq => c.empty q hq) F (fun _ _ _ _ _ _ us hl => match us, hl with | [_], _ => rfl) (fun base hb gb tb => ?_) (by decide) (fun ns h1 h2 => ?_)⟩
    · obtain ⟨fd2, F2⟩ := (Ly.saysT_D c.t).defs (d := K12.dd__law_of_crew) (by simp [K12.fnL, K12.fn0, K12.fn1])
      have hx := c.more
      unfold K12.exB at hx
      simp only [Bool.and_eq_true] at hx
      have ne := of_decide_eq_true hx.2
      have key : ∀ q ∈ Ly.tabsOf K K12.tfL, q = ((He.cT K ("_law_of_crew", none)).2, Ly.lamQ "_law_of_crew") ∨ q = ((He.cT K ("law", none)).2, Ly.lamQ "law") := by
        intro q hq
        obtain ⟨r, hr, rfl⟩ := List.mem_map.mp hq
        simp only [K12.tfL, List.mem_cons, List.not_mem_nil, or_false] at hr
        rcases hr with rfl | rfl
        · exact .inl rfl
        · exact .inr rfl
      obtain ⟨LsC, hGC, hws⟩ := K12.ok__law_of_crew (base := base) (T := Ly.tabsOf K K12.tfL) (Pt := (He.cT K ("_law_of_crew", none)).2) (K12.wdOf KX G c) F2 (He.glo_ok KX G (K12.fct c (.glo "_law_of_crew") (by decide +kernel))) (Ly.hcd_of F2) (tb ("_law_of_crew", none) (by decide)) (List.mem_map_of_mem (f := fun p => ((He.cT K p).2, Ly.lamQ p.1)) (by decide : (("_law_of_crew", none) : He.Defn) ∈ K12.tfL)) (fun q hq hq2 => by
        rcases key q hq with rfl | rfl
        · rfl
        · exact absurd hq2.symm ne)
      refine K12.okF_law (Pt := (He.cT K ("law", none)).2) (K12.wdOf KX G c) hGC hws F (Ly.hcd_of F) (tb ("law", none) (by decide)) (List.mem_map_of_mem (f := fun p => ((He.cT K p).2, Ly.lamQ p.1)) (by decide : (("law", none) : He.Defn) ∈ K12.tfL)) (fun q hq hq2 => ?_)
      rcases key q hq with rfl | rfl
      · exact absurd hq2 ne
      · rfl
    · exact K12.law_true ns h1 h2
