import PyProof.Rows.All
import Wide.All
import OpenK.AllK
import Wide.FinOn
import HandS.ForMost
import HandS.ForExc
import HandS.Wide
import HandS.IsInst
import HandS.StrMore
import HandS.Conv
import HandS.Deep
import HandS.TupAny
import HandS.Style
import HandS.WideBits
import HandS.EndBits
import HandS.Rev
import KE.IntTextLaws
import KE.KIntText
import PyProof.MinMaxWalk
import PyProof.WalkInts
import PyProof.SeqI3
import HandS.SortKw
import KE.DataMinMax
import PySem.Challenge.RW_saywell_k21_a_condition_holds
set_option Elab.async false
set_option linter.all false
set_option maxRecDepth 100000
set_option autoImplicit false
set_option maxHeartbeats 4000000
namespace DL
open PySem PySem.Spec PyProof.Rows L2

/-! ### data -/
/-- what a value tells: texts by their codes; scr: a list of ints from outside; obj: an instance that stays as it is -/
inductive D where
  | non | bl (b : Bool) | int (i : Int) | str (s : List Nat)
  | lst (ds : List D) | tup (ds : List D) | scr (ns : List Int) | dic (es : List (D × D)) | obj (c : Nat) (fs : List (Nat × D)) | ty (n : String)
instance : Inhabited D := ⟨.non⟩
/-- the text of these codes -/
def tx (s : List Nat) : Str := ⟨s.toArray⟩
theorem tx_cps (x : Str) : tx x.cps.toList = x := rfl
theorem cps_tx (s : List Nat) : (tx s).cps.toList = s := rfl
theorem tx_inj {s t : List Nat} (h : tx s = tx t) : s = t := by
  have := congrArg (fun x : Str => x.cps.toList) h
  exact this
theorem tx_len (s : List Nat) : (tx s).length = s.length := by simp [tx, Str.length]
theorem tx_app (s t : List Nat) : tx s ++ tx t = tx (s ++ t) := by
  show Str.append (tx s) (tx t) = _
  simp [Str.append, tx]
/-- a name's number: its signs, base 256 -/
def nmL : Nat → Nat → List Nat → List Nat
  | 0, _, acc => acc
  | k + 1, n, acc => if n = 0 then acc else nmL k (n / 256) (n % 256 :: acc)
def nmS (n : Nat) : Str := tx (nmL 64 n [])
def nmV (l : List Nat) (a : Nat) : Nat := l.foldl (fun a c => a * 256 + c) a
theorem nmL_val : ∀ (k n : Nat) (acc : List Nat), n < 256 ^ k → nmV (nmL k n acc) 0 = nmV acc n
  | 0, n, acc, h => by
    have : n = 0 := by simpa using h
    subst this; rfl
  | k + 1, n, acc, h => by
    unfold nmL
    split
    · rename_i h0; rw [h0]
    · rw [nmL_val k (n / 256) _ (by rw [Nat.pow_succ] at h; omega)]
      show nmV acc (n / 256 * 256 + n % 256) = _
      congr 1; omega
abbrev okN (n : Nat) : Prop := n < 256 ^ 64
theorem nmS_inj {n m : Nat} (h : okN n) (h' : okN m) (e : nmS n = nmS m) : n = m := by
  have e1 : nmV (nmL 64 n []) 0 = nmV (nmL 64 m []) 0 := congrArg (fun l => nmV l 0) (tx_inj e)
  rw [nmL_val 64 n [] h, nmL_val 64 m [] h'] at e1
  exact e1
/-- what stands behind the top, as far as it is needed -/
structure Gx where
  K : PySem.W.Frag
  mg : Str → Option Value
/-- all signs are signs -/
def okS (s : List Nat) : Bool := s.all (· < 1114112)
theorem okS_app {s t : List Nat} (h : okS s = true) (h' : okS t = true) : okS (s ++ t) = true := by
  unfold okS at *; rw [List.all_append, h, h']; rfl
theorem okS_sub {s t : List Nat} (h : okS s = true) (i : ∀ c ∈ t, c ∈ s) : okS t = true := by
  unfold okS at *
  rw [List.all_eq_true] at h ⊢
  exact fun c m => h c (i c m)
def okK : Key → Bool
  | .inl _ => true
  | .inr x => okS x.cps.toList
def keyD : Key → D
  | .inl i => .int i
  | .inr x => .str x.cps.toList
mutual
inductive Rp (G : Gx) (F : Hp) : V → D → Prop
  | non : Rp G F .non .non
  | bl (b : Bool) : Rp G F (.bl b) (.bl b)
  | int (i : Int) : Rp G F (.int i) (.int i)
  | str (s : List Nat) (h : okS s = true) : Rp G F (.str (tx s)) (.str s)
  | ty (n : String) : Rp G F (.ty n) (.ty n)
  | lst {a : Addr} {xs : List V} {ds : List D} : F a = some (.lst xs) → RpAll G F xs ds → Rp G F (.ref a) (.lst ds)
  | tup {a : Addr} {xs : List V} {ds : List D} : SqT G.K F a xs → RpAll G F xs ds → Rp G F (.ref a) (.tup ds)
  | scr {a : Addr} {ns : List Int} : SqL G.K F a (ns.map V.int) → Rp G F (.ref a) (.scr ns)
  | dicK {a : Addr} {kvs : List (Key × V)} {es : List (D × D)} : F a = some (.dK kvs) → RpK G F kvs es → Rp G F (.ref a) (.dic es)
  | dicT {a : Addr} {kvs : List (List Key × V)} {es : List (D × D)} : F a = some (.dT kvs) → RpT G F kvs es → Rp G F (.ref a) (.dic es)
  | obj {a dx C : Addr} {c : Nat} {fs : List (Str × V)} {es : List (Nat × D)} : F a = some (.ins C dx fs) → F dx = some (.own a) → G.mg (nmS c) = some (.ref C) → RpF G F fs es → Rp G F (.ref a) (.obj c es)
inductive RpAll (G : Gx) (F : Hp) : List V → List D → Prop
  | nil : RpAll G F [] []
  | cons {v : V} {vs : List V} {d : D} {ds : List D} : Rp G F v d → RpAll G F vs ds → RpAll G F (v :: vs) (d :: ds)
inductive RpK (G : Gx) (F : Hp) : List (Key × V) → List (D × D) → Prop
  | nil : RpK G F [] []
  | cons {k : Key} {v : V} {vs : List (Key × V)} {d : D} {ds : List (D × D)} : okK k = true → Rp G F v d → RpK G F vs ds → RpK G F ((k, v) :: vs) ((keyD k, d) :: ds)
inductive RpT (G : Gx) (F : Hp) : List (List Key × V) → List (D × D) → Prop
  | nil : RpT G F [] []
  | cons {k : List Key} {v : V} {vs : List (List Key × V)} {d : D} {ds : List (D × D)} : k.all okK = true → Rp G F v d → RpT G F vs ds → RpT G F ((k, v) :: vs) ((.tup (k.map keyD), d) :: ds)
inductive RpF (G : Gx) (F : Hp) : List (Str × V) → List (Nat × D) → Prop
  | nil : RpF G F [] []
  | cons {k : Nat} {v : V} {vs : List (Str × V)} {d : D} {ds : List (Nat × D)} : okN k → Rp G F v d → RpF G F vs ds → RpF G F ((nmS k, v) :: vs) ((k, d) :: ds)
end
theorem same_seqT {K : PySem.W.Frag} {H H' : Hp} {a : Addr} {xs : List V} (e : Same H H') (h : SqT K H a xs) : SqT K H' a xs := by
  rcases h with (h | ⟨o, h⟩) | h
  · exact .inl (.inl (e _ _ h))
  · exact .inl (.inr ⟨o, e _ _ h⟩)
  · exact .inr h
mutual
theorem Rp.mono {G : Gx} {F F' : Hp} (e : Same F F') : ∀ {v : V} {d : D}, Rp G F v d → Rp G F' v d
  | _, _, .non => .non
  | _, _, .bl b => .bl b
  | _, _, .int i => .int i
  | _, _, .str x h => .str x h
  | _, _, .ty n => .ty n
  | _, _, .lst h t => .lst (e _ _ h) (RpAll.mono e t)
  | _, _, .tup h t => .tup (same_seqT e h) (RpAll.mono e t)
  | _, _, .scr h => .scr (e.seq h)
  | _, _, .dicK h t => .dicK (e _ _ h) (RpK.mono e t)
  | _, _, .dicT h t => .dicT (e _ _ h) (RpT.mono e t)
  | _, _, .obj h h' g t => .obj (e _ _ h) (e _ _ h') g (RpF.mono e t)
theorem RpAll.mono {G : Gx} {F F' : Hp} (e : Same F F') : ∀ {vs : List V} {ds : List D}, RpAll G F vs ds → RpAll G F' vs ds
  | _, _, .nil => .nil
  | _, _, .cons h t => .cons (Rp.mono e h) (RpAll.mono e t)
theorem RpK.mono {G : Gx} {F F' : Hp} (e : Same F F') : ∀ {vs : List (Key × V)} {ds : List (D × D)}, RpK G F vs ds → RpK G F' vs ds
  | _, _, .nil => .nil
  | _, _, .cons o h t => .cons o (Rp.mono e h) (RpK.mono e t)
theorem RpT.mono {G : Gx} {F F' : Hp} (e : Same F F') : ∀ {vs : List (List Key × V)} {ds : List (D × D)}, RpT G F vs ds → RpT G F' vs ds
  | _, _, .nil => .nil
  | _, _, .cons o h t => .cons o (Rp.mono e h) (RpT.mono e t)
theorem RpF.mono {G : Gx} {F F' : Hp} (e : Same F F') : ∀ {vs : List (Str × V)} {ds : List (Nat × D)}, RpF G F vs ds → RpF G F' vs ds
  | _, _, .nil => .nil
  | _, _, .cons o h t => .cons o (Rp.mono e h) (RpF.mono e t)
end
section
variable {G : Gx} {F : Hp}
theorem RpAll.length : ∀ {vs : List V} {ds : List D}, RpAll G F vs ds → vs.length = ds.length
  | _, _, .nil => rfl
  | _, _, .cons _ t => congrArg Nat.succ (RpAll.length t)
theorem RpAll.append : ∀ {vs ws : List V} {ds es : List D}, RpAll G F vs ds → RpAll G F ws es → RpAll G F (vs ++ ws) (ds ++ es)
  | _, _, _, _, .nil, b => b
  | _, _, _, _, .cons h t, b => .cons h (RpAll.append t b)
theorem RpAll.one {v : V} {d : D} (h : Rp G F v d) : RpAll G F [v] [d] := .cons h .nil
theorem RpAll.get : ∀ {vs : List V} {ds : List D} {i : Nat} {d : D}, RpAll G F vs ds → ds[i]? = some d → ∃ v, vs[i]? = some v ∧ Rp G F v d
  | _, _, _, _, .nil, e => by simp at e
  | _, _, 0, _, .cons h _, e => by simp at e; subst e; exact ⟨_, rfl, h⟩
  | _, _, i + 1, _, .cons _ t, e => by
    obtain ⟨v, e', h⟩ := RpAll.get (i := i) t (by simpa using e)
    exact ⟨v, by simpa using e', h⟩
theorem RpAll.getV : ∀ {vs : List V} {ds : List D} {i : Nat} {v : V}, RpAll G F vs ds → vs[i]? = some v → ∃ d, ds[i]? = some d ∧ Rp G F v d
  | _, _, _, _, .nil, e => by simp at e
  | _, _, 0, _, .cons h _, e => by simp at e; subst e; exact ⟨_, rfl, h⟩
  | _, _, i + 1, _, .cons _ t, e => by
    obtain ⟨v, e', h⟩ := RpAll.getV (i := i) t (by simpa using e)
    exact ⟨v, by simpa using e', h⟩
theorem RpAll.take : ∀ {vs : List V} {ds : List D} (n : Nat), RpAll G F vs ds → RpAll G F (vs.take n) (ds.take n)
  | _, _, 0, _ => by simp; exact .nil
  | _, _, _ + 1, .nil => .nil
  | _, _, n + 1, .cons h t => .cons h (RpAll.take n t)
theorem RpAll.drop : ∀ {vs : List V} {ds : List D} (n : Nat), RpAll G F vs ds → RpAll G F (vs.drop n) (ds.drop n)
  | _, _, 0, h => h
  | _, _, _ + 1, .nil => .nil
  | _, _, n + 1, .cons _ t => RpAll.drop n t
theorem RpAll.set : ∀ {vs : List V} {ds : List D} (n : Nat) {v : V} {d : D}, RpAll G F vs ds → Rp G F v d → RpAll G F (vs.set n v) (ds.set n d)
  | _, _, _, _, _, .nil, _ => .nil
  | _, _, 0, _, _, .cons _ t, h => .cons h t
  | _, _, n + 1, _, _, .cons h' t, h => .cons h' (RpAll.set n t h)
theorem rp_ints (G : Gx) (F : Hp) : ∀ ns : List Int, RpAll G F (ns.map V.int) (ns.map D.int)
  | [] => .nil
  | n :: r => .cons (.int n) (rp_ints G F r)
theorem rp_strs (G : Gx) (F : Hp) : ∀ ns : List (List Nat), (∀ n ∈ ns, okS n = true) → RpAll G F (ns.map (V.str ∘ tx)) (ns.map D.str)
  | [], _ => .nil
  | n :: r, h => .cons (.str n (h n (List.mem_cons_self ..))) (rp_strs G F r fun m q => h m (List.mem_cons_of_mem _ q))
theorem rp_strs_inv : ∀ {vs : List V} {ns : List (List Nat)}, RpAll G F vs (ns.map D.str) → vs = (ns.map tx).map V.str
  | [], [], _ => rfl
  | [], _ :: _, h => by cases h
  | _ :: _, [], h => by cases h
  | v :: vs, n :: ns, h => by
    cases h with
    | cons h t =>
      cases h
      rw [rp_strs_inv t]; rfl
theorem rp_ints_inv : ∀ {vs : List V} {ns : List Int}, RpAll G F vs (ns.map D.int) → vs = ns.map V.int
  | [], [], _ => rfl
  | [], _ :: _, h => by cases h
  | _ :: _, [], h => by cases h
  | v :: vs, n :: ns, h => by
    cases h with
    | cons h t =>
      cases h
      rw [rp_ints_inv t]; rfl
theorem rp_bools_inv : ∀ {vs : List V} {ns : List Bool}, RpAll G F vs (ns.map D.bl) → vs = ns.map V.bl
  | [], [], _ => rfl
  | [], _ :: _, h => by cases h
  | _ :: _, [], h => by cases h
  | v :: vs, n :: ns, h => by
    cases h with
    | cons h t =>
      cases h
      rw [rp_bools_inv t]; rfl
end

/-! ### the state -/
/-- what an object of a slot's own holds -/
inductive Ow where
  | l (ds : List D) | k (es : List (D × D))
inductive OwRel (G : Gx) (F : Hp) : HO → Ow → Prop
  | l {xs : List V} {ds : List D} : RpAll G F xs ds → OwRel G F (.lst xs) (.l ds)
  | kK {xs : List (Key × V)} {ds : List (D × D)} : RpK G F xs ds → OwRel G F (.dK xs) (.k ds)
  | kT {xs : List (List Key × V)} {ds : List (D × D)} : RpT G F xs ds → OwRel G F (.dT xs) (.k ds)
theorem OwRel.mono {G : Gx} {F F' : Hp} (e : Same F F') {u : HO} {o : Ow} (h : OwRel G F u o) : OwRel G F' u o := by
  cases h with
  | l t => exact .l (t.mono e)
  | kK t => exact .kK (t.mono e)
  | kT t => exact .kT (t.mono e)
def Ow.d : Ow → D
  | .l ds => .lst ds
  | .k es => .dic es
theorem OwRel.rp {G : Gx} {F : Hp} {u : HO} {o : Ow} {a : Addr} (h : OwRel G F u o) (e : F a = some u) : Rp G F (.ref a) o.d := by
  cases h with
  | l t => exact .lst e t
  | kK t => exact .dicK e t
  | kT t => exact .dicT e t
/-- what a slot holds: nothing that is known, a datum that stays, an object of its own that may change -/
inductive Sl where
  | no | d (x : D) | own (o : Ow)
def Gr (B F F' : Hp) : Prop := Same F F' ∧ ∀ a, F a = none → F' a ≠ none → B a = none
theorem Gr.refl {B F : Hp} : Gr B F F := ⟨Same.refl F, fun a h h' => absurd h h'⟩
theorem Gr.trans {B F F1 F2 : Hp} (a : Gr B F F1) (b : Gr B F1 F2) : Gr B F F2 := ⟨a.1.trans b.1, fun x h h' => by
  by_cases e : F1 x = none
  · exact b.2 x e h'
  · exact a.2 x h e⟩
theorem Gr.under {B H F F' : Hp} (e : Same B H) (g : Gr H F F') : Gr B F F' := ⟨g.1, fun a h h' => e.free (g.2 a h h')⟩
def SlOk (G : Gx) (B F H : Hp) (o : Option (Option V)) : Sl → Prop
  | .no => True
  | .d x => ∃ v, o = some (some v) ∧ Rp G F v x
  | .own w => ∃ p u, o = some (some (.ref p)) ∧ H p = some u ∧ F p = none ∧ B p = none ∧ OwRel G F u w
structure Ok (G : Gx) (B F : Hp) (σ : L2.St) (H : Hp) (S : List Sl) : Prop where
  fH : Same F H
  kp : Same B H
  len : σ.length = S.length
  sl : ∀ (i : Nat) (s : Sl), S[i]? = some s → SlOk G B F H σ[i]? s
  ap : ∀ (i j : Nat) (ds es : Ow) (p : Addr), S[i]? = some (.own ds) → S[j]? = some (.own es) → σ[i]? = some (some (.ref p)) → σ[j]? = some (some (.ref p)) → i = j
section
variable {G : Gx} {B F F' H H' : Hp} {σ : L2.St} {S : List Sl}
/-- the heap grows, so does what stays -/
theorem Ok.grow (o : Ok G B F σ H S) (g : Gr H F F') (k : Same H H') (f : Same F' H') : Ok G B F' σ H' S := by
  refine ⟨f, o.kp.trans k, o.len, fun i s e => ?_, o.ap⟩
  have h := o.sl i s e
  cases s with
  | no => trivial
  | d x =>
    obtain ⟨v, e1, r⟩ := h
    exact ⟨v, e1, r.mono g.1⟩
  | own ds =>
    obtain ⟨p, xs, e1, h1, h2, h3, r⟩ := h
    refine ⟨p, xs, e1, k _ _ h1, ?_, h3, r.mono g.1⟩
    cases q : F' p with
    | none => rfl
    | some u =>
      have := g.2 p h2 (by rw [q]; simp)
      rw [h1] at this; cases this
theorem same_new {H : Hp} {p : Addr} {o : HO} (h : H p = none) : Same H (upd H p o) := fun b u q => by rw [upd_ne (ne_of_none q h)]; exact q
theorem same_upd2 {F H : Hp} {p : Addr} {o : HO} (f : Same F H) : Same (upd F p o) (upd H p o) := fun b u q => by
  by_cases e : b = p
  · subst e; rw [upd_same] at q ⊢; exact q
  · rw [upd_ne e] at q ⊢; exact f _ _ q
theorem gr_new {F H : Hp} {p : Addr} {o : HO} (f : Same F H) (h : H p = none) : Gr H F (upd F p o) := ⟨same_new (f.free h), fun a h1 h2 => by
  by_cases e : a = p
  · subst e; exact h
  · rw [upd_ne e] at h2; exact absurd h1 h2⟩
theorem Ok.gnew (o : Ok G B F σ H S) {p : Addr} {u : HO} (h : H p = none) : Ok G B (upd F p u) σ (upd H p u) S := o.grow (gr_new o.fH h) (same_new h) (same_upd2 o.fH)
theorem Ok.gr (o : Ok G B F σ H S) (g : Gr H F F') : Gr B F F' := g.under o.kp
theorem Ok.grN (o : Ok G B F σ H S) {p : Addr} {u : HO} (h : H p = none) : Gr B F (upd F p u) := o.gr (gr_new o.fH h)
/-- a new object that isn't told of -/
theorem Ok.junk (o : Ok G B F σ H S) (k : Same H H') : Ok G B F σ H' S := o.grow .refl k (o.fH.trans k)
theorem Ok.get {i : Nat} {x : D} (o : Ok G B F σ H S) (e : S[i]? = some (.d x)) : ∃ v, σ[i]? = some (some v) ∧ Rp G F v x := o.sl i _ e
theorem set_lt {α : Type} {S : List α} {i j : Nat} {x s : α} (e : (S.set i x)[j]? = some s) (z : i = j) : i < S.length := by
  subst z
  have := (List.getElem?_eq_some_iff.mp e).1
  rw [List.length_set] at this; exact this
/-- a slot takes a datum -/
theorem Ok.set (o : Ok G B F σ H S) (i : Nat) {v : V} {x : D} (r : Rp G F v x) : Ok G B F (σ.set i (some v)) H (S.set i (.d x)) := by
  refine ⟨o.fH, o.kp, by rw [List.length_set, List.length_set]; exact o.len, fun j s e => ?_, fun j k ds es p e1 e2 e3 e4 => ?_⟩
  · by_cases hj : i = j
    · have hi := set_lt e hj
      subst hj
      rw [List.getElem?_set_self hi] at e
      cases e
      exact ⟨v, by rw [List.getElem?_set_self (by rw [o.len]; exact hi)], r⟩
    · rw [List.getElem?_set_ne hj] at e
      have h := o.sl j s e
      rw [List.getElem?_set_ne hj]
      exact h
  · have n1 : i ≠ j := fun z => by
      have hi := set_lt e1 z
      subst z
      rw [List.getElem?_set_self hi] at e1; cases e1
    have n2 : i ≠ k := fun z => by
      have hi := set_lt e2 z
      subst z
      rw [List.getElem?_set_self hi] at e2; cases e2
    rw [List.getElem?_set_ne n1] at e1 e3
    rw [List.getElem?_set_ne n2] at e2 e4
    exact o.ap j k ds es p e1 e2 e3 e4
/-- a slot takes an object of its own: H p is known, p is no other slot's, nor kept, nor frozen -/
theorem Ok.setOwnAt (o : Ok G B F σ H S) (i : Nat) {p : Addr} {u : HO} {w : Ow} (h : H p = some u) (hF : F p = none) (hB : B p = none) (r : OwRel G F u w)
    (no : ∀ (j : Nat) (es : Ow), S[j]? = some (.own es) → σ[j]? ≠ some (some (.ref p))) : Ok G B F (σ.set i (some (.ref p))) H (S.set i (.own w)) := by
  refine ⟨o.fH, o.kp, by rw [List.length_set, List.length_set]; exact o.len, fun j s e => ?_, fun j k ds1 es p1 e1 e2 e3 e4 => ?_⟩
  · by_cases hj : i = j
    · have hi := set_lt e hj
      subst hj
      rw [List.getElem?_set_self hi] at e
      cases e
      exact ⟨p, u, by rw [List.getElem?_set_self (by rw [o.len]; exact hi)], h, hF, hB, r⟩
    · rw [List.getElem?_set_ne hj] at e
      rw [List.getElem?_set_ne hj]
      exact o.sl j s e
  · by_cases hj : i = j
    · by_cases hk : i = k
      · exact hj.symm.trans hk
      · have hi := set_lt e1 hj
        subst hj
        rw [List.getElem?_set_self (by rw [o.len]; exact hi)] at e3
        rw [List.getElem?_set_ne hk] at e2 e4
        have e5 : p1 = p := by
          have := Option.some.inj (Option.some.inj e3)
          exact (V.ref.inj this).symm
        exact absurd (by rw [← e5]; exact e4) (no k es e2)
    · by_cases hk : i = k
      · have hi := set_lt e2 hk
        subst hk
        rw [List.getElem?_set_self (by rw [o.len]; exact hi)] at e4
        rw [List.getElem?_set_ne hj] at e1 e3
        have e5 : p1 = p := by
          have := Option.some.inj (Option.some.inj e4)
          exact (V.ref.inj this).symm
        exact absurd (by rw [← e5]; exact e3) (no j ds1 e1)
      · rw [List.getElem?_set_ne hj] at e1 e3
        rw [List.getElem?_set_ne hk] at e2 e4
        exact o.ap j k ds1 es p1 e1 e2 e3 e4
/-- a slot takes an object that is new -/
theorem Ok.setOwn (o : Ok G B F σ H S) (i : Nat) {p : Addr} {u : HO} {w : Ow} (h : H p = none) (r : OwRel G F u w) : Ok G B F (σ.set i (some (.ref p))) (upd H p u) (S.set i (.own w)) := by
  refine (o.junk (same_new h)).setOwnAt i upd_same (o.fH.free h) (o.kp.free h) r fun j es e1 e2 => ?_
  obtain ⟨p', xs', e3, h1, _⟩ := o.sl j _ e1
  rw [e2] at e3; cases e3
  rw [h] at h1; cases h1
/-- the own object of a slot changes -/
theorem Ok.chg (o : Ok G B F σ H S) {i : Nat} {p : Addr} {u : HO} {w w' : Ow} (e : S[i]? = some (.own w)) (ep : σ[i]? = some (some (.ref p))) (r : OwRel G F u w') : Ok G B F σ (upd H p u) (S.set i (.own w')) := by
  obtain ⟨p', xs', e3, h1, h2, h3, _⟩ := o.sl i _ e
  rw [ep] at e3; cases e3
  have hi : i < S.length := (List.getElem?_eq_some_iff.mp e).1
  have old : ∀ (j : Nat) (es' : Ow), (S.set i (.own w'))[j]? = some (.own es') → ∃ ds', S[j]? = some (.own ds') := fun j es' q => by
    by_cases hj : i = j
    · subst hj; exact ⟨w, e⟩
    · rw [List.getElem?_set_ne hj] at q; exact ⟨es', q⟩
  refine ⟨fun b u q => ?_, fun b u q => ?_, by rw [List.length_set]; exact o.len, fun j s q => ?_, fun j k ds1 es1 p1 q1 q2 q3 q4 => ?_⟩
  · rw [upd_ne (ne_of_none q h2)]; exact o.fH _ _ q
  · rw [upd_ne (ne_of_none q h3)]; exact o.kp _ _ q
  · by_cases hj : i = j
    · subst hj
      rw [List.getElem?_set_self hi] at q
      cases q
      exact ⟨p, u, ep, upd_same, h2, h3, r⟩
    · rw [List.getElem?_set_ne hj] at q
      have w := o.sl j s q
      cases s with
      | no => trivial
      | d x => exact w
      | own es' =>
        obtain ⟨p2, xs2, a1, a2, a3, a4, a5⟩ := w
        have : p2 ≠ p := fun z => hj (o.ap i j _ es' p2 e q (by rw [z]; exact ep) a1)
        exact ⟨p2, xs2, a1, by rw [upd_ne this]; exact a2, a3, a4, a5⟩
  · obtain ⟨d1, b1⟩ := old j ds1 q1
    obtain ⟨d2, b2⟩ := old k es1 q2
    exact o.ap j k d1 d2 p1 b1 b2 q3 q4
/-- an own object is left as it is, from here on -/
theorem Ok.frz (o : Ok G B F σ H S) {i : Nat} {w : Ow} (e : S[i]? = some (.own w)) : ∃ F' p, Gr B F F' ∧ Ok G B F' σ H (S.set i (.d w.d)) ∧ σ[i]? = some (some (.ref p)) ∧ Rp G F' (.ref p) w.d := by
  obtain ⟨p, u, ep, h1, h2, h3, r⟩ := o.sl i _ e
  have sm : Same F (upd F p u) := same_new h2
  have hi : i < S.length := (List.getElem?_eq_some_iff.mp e).1
  have rr : Rp G (upd F p u) (.ref p) w.d := (r.mono sm).rp upd_same
  refine ⟨upd F p u, p, ⟨sm, fun a q1 q2 => ?_⟩, ⟨fun b u q => ?_, o.kp, by rw [List.length_set]; exact o.len, fun j s q => ?_, fun j k ds1 es1 p1 q1 q2 q3 q4 => ?_⟩, ep, rr⟩
  · by_cases z : a = p
    · subst z; exact h3
    · rw [upd_ne z] at q2; exact absurd q1 q2
  · by_cases z : b = p
    · subst z; rw [upd_same] at q; cases q; exact h1
    · rw [upd_ne z] at q; exact o.fH _ _ q
  · by_cases hj : i = j
    · subst hj
      rw [List.getElem?_set_self hi] at q
      cases q
      exact ⟨_, ep, rr⟩
    · rw [List.getElem?_set_ne hj] at q
      have w := o.sl j s q
      cases s with
      | no => trivial
      | d x =>
        obtain ⟨v, a1, a2⟩ := w
        exact ⟨v, a1, a2.mono sm⟩
      | own es' =>
        obtain ⟨p2, xs2, a1, a2, a3, a4, a5⟩ := w
        have : p2 ≠ p := fun z => hj (o.ap i j _ es' p2 e q (by rw [z]; exact ep) a1)
        exact ⟨p2, xs2, a1, a2, by rw [upd_ne this]; exact a3, a4, a5.mono sm⟩
  · have n1 : i ≠ j := fun z => by subst z; rw [List.getElem?_set_self hi] at q1; cases q1
    have n2 : i ≠ k := fun z => by subst z; rw [List.getElem?_set_self hi] at q2; cases q2
    rw [List.getElem?_set_ne n1] at q1
    rw [List.getElem?_set_ne n2] at q2
    exact o.ap j k ds1 es1 p1 q1 q2 q3 q4
/-- less is known -/
theorem Ok.drop (o : Ok G B F σ H S) (i : Nat) : Ok G B F σ H (S.set i .no) := by
  refine ⟨o.fH, o.kp, by rw [List.length_set]; exact o.len, fun j s q => ?_, fun j k ds1 es1 p1 q1 q2 q3 q4 => ?_⟩
  · by_cases hj : i = j
    · have hi := set_lt q hj
      subst hj
      rw [List.getElem?_set_self hi] at q
      cases q
      trivial
    · rw [List.getElem?_set_ne hj] at q
      exact o.sl j s q
  · have f : ∀ {j : Nat} {d : Ow}, (S.set i .no)[j]? = some (.own d) → S[j]? = some (.own d) := fun {j d} q => by
      by_cases z : i = j
      · have hi := set_lt q z
        subst z
        rw [List.getElem?_set_self hi] at q; cases q
      · rw [List.getElem?_set_ne z] at q; exact q
    exact o.ap j k ds1 es1 p1 (f q1) (f q2) q3 q4
/-- a slot that isn't told of may hold anything -/
theorem Ok.any (o : Ok G B F σ H S) (i : Nat) (x : Option V) : Ok G B F (σ.set i x) H (S.set i .no) := by
  refine ⟨o.fH, o.kp, by rw [List.length_set, List.length_set]; exact o.len, fun j s q => ?_, fun j k ds1 es1 p1 q1 q2 q3 q4 => ?_⟩
  · by_cases hj : i = j
    · have hi := set_lt q hj
      subst hj
      rw [List.getElem?_set_self hi] at q
      cases q
      trivial
    · rw [List.getElem?_set_ne hj] at q ⊢
      exact o.sl j s q
  · have f : ∀ {j : Nat} {d : Ow}, (S.set i .no)[j]? = some (.own d) → i ≠ j := fun {j d} q z => by
      have hi := set_lt q z
      subst z
      rw [List.getElem?_set_self hi] at q; cases q
    have n1 := f q1
    have n2 := f q2
    rw [List.getElem?_set_ne n1] at q1 q3
    rw [List.getElem?_set_ne n2] at q2 q4
    exact o.ap j k ds1 es1 p1 q1 q2 q3 q4
end
end DL

namespace DL
open PySem PySem.Spec PyProof.Rows L2

/-! ### results -/
structure Exc where
  c : Nat
  fs : List (Nat × D)
abbrev Store := List Unit
abbrev Sls := List Sl
inductive Res (α : Type) where
  | ok (a : α) (S : Sls) (st : Store)
  | exc (x : Exc) (S : Sls) (st : Store)
  | stuck
def Res.bind {α β : Type} (r : Res α) (k : α → Sls → Store → Res β) : Res β :=
  match r with
  | .ok a S st => k a S st
  | .exc x S st => .exc x S st
  | .stuck => .stuck
@[simp] theorem Res.bind_ok {α β : Type} (a : α) (S : Sls) (st : Store) (k : α → Sls → Store → Res β) : (Res.ok a S st).bind k = k a S st := rfl
@[simp] theorem Res.bind_exc {α β : Type} (x : Exc) (S : Sls) (st : Store) (k : α → Sls → Store → Res β) : (Res.exc x S st : Res α).bind k = .exc x S st := rfl
@[simp] theorem Res.bind_stuck {α β : Type} (k : α → Sls → Store → Res β) : (Res.stuck : Res α).bind k = .stuck := rfl
inductive Out where
  | nx (S : Sls) (st : Store)
  | ret (d : D) (S : Sls) (st : Store)
  | bk (S : Sls) (st : Store)
  | ct (S : Sls) (st : Store)
  | rto (w : Ow) (S : Sls) (st : Store)
  | exc (x : Exc) (S : Sls) (st : Store)
  | stuck
def Res.out {α : Type} (r : Res α) (k : α → Sls → Store → Out) : Out :=
  match r with
  | .ok a S st => k a S st
  | .exc x S st => .exc x S st
  | .stuck => .stuck
@[simp] theorem Res.out_ok {α : Type} (a : α) (S : Sls) (st : Store) (k : α → Sls → Store → Out) : (Res.ok a S st).out k = k a S st := rfl
@[simp] theorem Res.out_exc {α : Type} (x : Exc) (S : Sls) (st : Store) (k : α → Sls → Store → Out) : (Res.exc x S st : Res α).out k = .exc x S st := rfl
@[simp] theorem Res.out_stuck {α : Type} (k : α → Sls → Store → Out) : (Res.stuck : Res α).out k = .stuck := rfl
def Out.then (r : Out) (k : Sls → Store → Out) : Out :=
  match r with
  | .nx S st => k S st
  | r => r
@[simp] theorem Out.then_nx (S : Sls) (st : Store) (k : Sls → Store → Out) : (Out.nx S st).then k = k S st := rfl
@[simp] theorem Out.then_ret (d : D) (S : Sls) (st : Store) (k : Sls → Store → Out) : (Out.ret d S st).then k = .ret d S st := rfl
@[simp] theorem Out.then_bk (S : Sls) (st : Store) (k : Sls → Store → Out) : (Out.bk S st).then k = .bk S st := rfl
@[simp] theorem Out.then_rto (w : Ow) (S : Sls) (st : Store) (k : Sls → Store → Out) : (Out.rto w S st).then k = .rto w S st := rfl
@[simp] theorem Out.then_ct (S : Sls) (st : Store) (k : Sls → Store → Out) : (Out.ct S st).then k = .ct S st := rfl
@[simp] theorem Out.then_exc (x : Exc) (S : Sls) (st : Store) (k : Sls → Store → Out) : (Out.exc x S st).then k = .exc x S st := rfl
@[simp] theorem Out.then_stuck (k : Sls → Store → Out) : Out.stuck.then k = .stuck := rfl
abbrev Ev (α : Type) := Sls → Store → Res α
abbrev EvS := Sls → Store → Out
/-- what a def does with its arguments -/
abbrev CallT := List D → Store → Res D
/-- an operand: a datum, or what stands in a slot at the time of the operation -/
inductive Opd where
  | v (d : D) | s (i : Nat)

/-! ### what a result says -/
def XRel (G : Gx) (F : Hp) (x : Exc) (cls : Value) (dd : Option Addr) (H : Hp) : Prop :=
  ∃ C, G.mg (nmS x.c) = some (.ref C) ∧ cls = .ref C ∧ ((x.fs = [] ∧ dd = none) ∨ ∃ a vs, dd = some a ∧ H a = some (.xd vs) ∧ RpF G F vs x.fs)
section
variable (G : Gx) (B : Hp) (W : WX)
def Post {α β : Type} (R : Hp → β → α → Prop) (σ : L2.St) (F : Hp) (Q : β → Hp → Prop) : Res α → Prop
  | .ok d S' _ => ∀ v H' F', Gr B F F' → Ok G B F' σ H' S' → R F' v d → Q v H'
  | .exc x S' _ => ∀ cls dd H' F', Gr B F F' → Ok G B F' σ H' S' → XRel G F' x cls dd H' → W cls dd σ H'
  | .stuck => False
def PostS (F : Hp) (D : Ends) : Out → Prop
  | .nx S' _ => ∀ σ' H' F', Gr B F F' → Ok G B F' σ' H' S' → D.nx σ' H'
  | .ret d S' _ => ∀ v σ' H' F', Gr B F F' → Ok G B F' σ' H' S' → Rp G F' v d → D.rt v H'
  | .bk S' _ => ∀ σ' H' F', Gr B F F' → Ok G B F' σ' H' S' → D.bk σ' H'
  | .ct S' _ => ∀ σ' H' F', Gr B F F' → Ok G B F' σ' H' S' → D.ct σ' H'
  | .rto w S' _ => ∀ p u σ' H' F', Gr B F F' → Ok G B F' σ' H' S' → H' p = some u → F' p = none → B p = none → OwRel G F' u w → D.rt (.ref p) H'
  | .exc x S' _ => ∀ cls dd σ' H' F', Gr B F F' → Ok G B F' σ' H' S' → XRel G F' x cls dd H' → W cls dd σ' H'
  | .stuck => False
end
section
variable {G : Gx} {B : Hp} {W : WX}
theorem Post.grow {α β : Type} {R : Hp → β → α → Prop} {σ : L2.St} {F F' : Hp} {Q : β → Hp → Prop} {r : Res α} (g : Gr B F F') (h : Post G B W R σ F Q r) : Post G B W R σ F' Q r := by
  cases r with
  | ok d S st => exact fun v H' F2 g2 o r => h v H' F2 (g.trans g2) o r
  | exc x S st => exact fun c d H' F2 g2 o r => h c d H' F2 (g.trans g2) o r
  | stuck => exact h
theorem PostS.grow {F F' : Hp} {D : Ends} {r : Out} (g : Gr B F F') (h : PostS G B W F D r) : PostS G B W F' D r := by
  cases r with
  | nx S st => exact fun σ' H' F2 g2 o => h σ' H' F2 (g.trans g2) o
  | bk S st => exact fun σ' H' F2 g2 o => h σ' H' F2 (g.trans g2) o
  | ct S st => exact fun σ' H' F2 g2 o => h σ' H' F2 (g.trans g2) o
  | rto w S st => exact fun p u σ' H' F2 g2 o => h p u σ' H' F2 (g.trans g2) o
  | ret d S st => exact fun v σ' H' F2 g2 o r => h v σ' H' F2 (g.trans g2) o r
  | exc x S st => exact fun c d σ' H' F2 g2 o r => h c d σ' H' F2 (g.trans g2) o r
  | stuck => exact h
theorem Post.bind {α β γ δ : Type} {R : Hp → β → α → Prop} {R' : Hp → δ → γ → Prop} {σ : L2.St} {F : Hp} {Q : δ → Hp → Prop} {r : Res α} {k : α → Sls → Store → Res γ} (h : Post G B W R' σ F Q (r.bind k)) :
    Post G B W R σ F (fun v H1 => ∃ F1 d S1 st1, Gr B F F1 ∧ Ok G B F1 σ H1 S1 ∧ R F1 v d ∧ Post G B W R' σ F1 Q (k d S1 st1)) r := by
  cases r with
  | ok d S st => exact fun v H' F' g o r => ⟨F', d, S, st, g, o, r, Post.grow g h⟩
  | exc x S st => exact h
  | stuck => exact h
theorem Post.out {α β : Type} {R : Hp → β → α → Prop} {σ : L2.St} {F : Hp} {Dn : Ends} {r : Res α} {k : α → Sls → Store → Out} (h : PostS G B W F Dn (r.out k)) :
    Post G B W R σ F (fun v H1 => ∃ F1 d S1 st1, Gr B F F1 ∧ Ok G B F1 σ H1 S1 ∧ R F1 v d ∧ PostS G B W F1 Dn (k d S1 st1)) r := by
  cases r with
  | ok d S st => exact fun v H' F' g o r => ⟨F', d, S, st, g, o, r, PostS.grow g h⟩
  | exc x S st => exact fun c d H' F' g o r => h c d σ H' F' g o r
  | stuck => exact h
theorem Post.mono {α β : Type} {R : Hp → β → α → Prop} {σ : L2.St} {F : Hp} {Q Q' : β → Hp → Prop} {r : Res α} (h : Post G B W R σ F Q r) (i : ∀ v H, Q v H → Q' v H) : Post G B W R σ F Q' r := by
  cases r with
  | ok d S st => exact fun v H' F' g o r => i _ _ (h v H' F' g o r)
  | exc x S st => exact h
  | stuck => exact h
end
/-- a reading, of a state that bears these data -/
def lift {α β : Type} (G : Gx) (B : Hp) (W : WX) (R : L2.St → Hp → β → α → Prop) (f : Ev α) : L2.St → Hp → (β → Hp → Prop) → Prop := fun σ H Q =>
  ∃ F S st, Ok G B F σ H S ∧ Post G B W (R σ) σ F Q (f S st)
def liftS (G : Gx) (B : Hp) (W : WX) (f : EvS) : TS := fun D σ H => ∃ F S st, Ok G B F σ H S ∧ PostS G B W F D (f S st)
def RD (G : Gx) : L2.St → Hp → V → D → Prop := fun _ F v d => Rp G F v d
/-- an operand's value -/
def RO (G : Gx) : L2.St → Hp → V → Opd → Prop := fun σ F v o => match o with
  | .v d => Rp G F v d
  | .s i => σ[i]? = some (some v)
inductive RpO (G : Gx) (σ : L2.St) (F : Hp) : List V → List Opd → Prop
  | nil : RpO G σ F [] []
  | cons {v : V} {vs : List V} {o : Opd} {os : List Opd} : RO G σ F v o → RpO G σ F vs os → RpO G σ F (v :: vs) (o :: os)
theorem RO.mono {G : Gx} {σ : L2.St} {F F' : Hp} {v : V} {o : Opd} (e : Same F F') (h : RO G σ F v o) : RO G σ F' v o := by
  cases o with
  | v d => exact Rp.mono e h
  | s i => exact h
theorem RpO.mono {G : Gx} {σ : L2.St} {F F' : Hp} (e : Same F F') : ∀ {vs : List V} {os : List Opd}, RpO G σ F vs os → RpO G σ F' vs os
  | _, _, .nil => .nil
  | _, _, .cons h t => .cons (h.mono e) (RpO.mono e t)
abbrev Cx.g (X : Cx) : Gx := ⟨X.K, X.mg⟩
/-- what an operand holds: a datum, or the slot's own object as it stands -/
def vw (S : Sls) : Opd → Option D
  | .v d => some d
  | .s i => match S[i]? with
    | some (.d d) => some d
    | some (.own w) => some w.d
    | _ => none
/-- .. where no object of the slot's own is handed on -/
def vd (S : Sls) : Opd → Option D
  | .v d => some d
  | .s i => match S[i]? with
    | some (.d d) => some d
    | _ => none
def vws (S : Sls) : List Opd → Option (List D)
  | [] => some []
  | o :: r => match vw S o, vws S r with
    | some d, some ds => some (d :: ds)
    | _, _ => none
def vds (S : Sls) : List Opd → Option (List D)
  | [] => some []
  | o :: r => match vd S o, vds S r with
    | some d, some ds => some (d :: ds)
    | _, _ => none
/-- v shows d now -/
def Vw (G : Gx) (F H : Hp) (v : V) (d : D) : Prop := Rp G F v d ∨ ∃ p u w, v = .ref p ∧ H p = some u ∧ OwRel G F u w ∧ d = w.d
inductive VwAll (G : Gx) (F H : Hp) : List V → List D → Prop
  | nil : VwAll G F H [] []
  | cons {v : V} {vs : List V} {d : D} {ds : List D} : Vw G F H v d → VwAll G F H vs ds → VwAll G F H (v :: vs) (d :: ds)
section
variable {G : Gx} {B F H : Hp} {σ : L2.St} {S : Sls}
theorem Ok.vw (o : Ok G B F σ H S) {v : V} {a : Opd} {d : D} (r : RO G σ F v a) (e : vw S a = some d) : Vw G F H v d := by
  cases a with
  | v x => simp [DL.vw] at e; subst e; exact .inl r
  | s i =>
    have r : σ[i]? = some (some v) := r
    simp only [DL.vw] at e
    split at e
    · rename_i x hx
      cases e
      obtain ⟨v', e1, q⟩ := o.sl i _ hx
      rw [r] at e1; cases e1
      exact .inl q
    · rename_i w hx
      cases e
      obtain ⟨p, u, e1, q1, q2, q3, q⟩ := o.sl i _ hx
      rw [r] at e1; cases e1
      exact .inr ⟨p, u, w, rfl, q1, q, rfl⟩
    · cases e
theorem Ok.vd (o : Ok G B F σ H S) {v : V} {a : Opd} {d : D} (r : RO G σ F v a) (e : vd S a = some d) : Rp G F v d := by
  cases a with
  | v x => simp [DL.vd] at e; subst e; exact r
  | s i =>
    have r : σ[i]? = some (some v) := r
    simp only [DL.vd] at e
    split at e
    · rename_i x hx
      cases e
      obtain ⟨v', e1, q⟩ := o.sl i _ hx
      rw [r] at e1; cases e1
      exact q
    · cases e
theorem Ok.vws (o : Ok G B F σ H S) : ∀ {vs : List V} {as : List Opd} {ds : List D}, RpO G σ F vs as → vws S as = some ds → VwAll G F H vs ds
  | _, _, _, .nil, e => by simp [DL.vws] at e; subst e; exact .nil
  | _, _, _, .cons h t, e => by
    simp only [DL.vws] at e
    split at e
    · rename_i a b ha hb
      cases e
      exact .cons (o.vw h ha) (Ok.vws o t hb)
    · cases e
theorem Ok.vds (o : Ok G B F σ H S) : ∀ {vs : List V} {as : List Opd} {ds : List D}, RpO G σ F vs as → vds S as = some ds → RpAll G F vs ds
  | _, _, _, .nil, e => by simp [DL.vds] at e; subst e; exact .nil
  | _, _, _, .cons h t, e => by
    simp only [DL.vds] at e
    split at e
    · rename_i a b ha hb
      cases e
      exact .cons (o.vd h ha) (Ok.vds o t hb)
    · cases e
end

/-! ### the judgements -/
def DE (X : Cx) (B : Hp) (W : WX) (e : Expr) (f : Ev D) : Prop := PE X e (lift (Cx.g X) B W (RD (Cx.g X)) f)
def DO (X : Cx) (B : Hp) (W : WX) (e : Expr) (f : Ev Opd) : Prop := PE X e (lift (Cx.g X) B W (RO (Cx.g X)) f)
def DA (X : Cx) (B : Hp) (W : WX) (es : List Expr) (f : Ev (List Opd)) : Prop := PA X es (lift (Cx.g X) B W (RpO (Cx.g X)) f)
def RB : L2.St → Hp → Bool → Bool → Prop := fun _ _ v d => v = d
def DT (X : Cx) (B : Hp) (W : WX) (e : Expr) (f : Ev Bool) : Prop := PT X e (lift (Cx.g X) B W RB f)
def DW (X : Cx) (B : Hp) (W : WX) (e : Expr) (f : Ev Bool) : Prop := PW X e (lift (Cx.g X) B W RB f)
def DS (X : Cx) (B : Hp) (W : WX) (s : Stmt) (f : EvS) : Prop := PS X s (liftS (Cx.g X) B W f)
def DSs (X : Cx) (B : Hp) (W : WX) (s : List Stmt) (f : EvS) : Prop := PSs X s (liftS (Cx.g X) B W f)
theorem pe_imp {X : Cx} {e : Expr} {t t' : TE} (h : PE X e t) (i : ∀ σ H Q, t' σ H Q → t σ H Q) : PE X e t' := ⟨fun pins s σ H Q I q => h.run pins s σ H Q I (i σ H Q q)⟩
theorem pt_imp {X : Cx} {e : Expr} {t t' : TT} (h : PT X e t) (i : ∀ σ H Q, t' σ H Q → t σ H Q) : PT X e t' := ⟨fun pins s σ H Q I q => h.run pins s σ H Q I (i σ H Q q)⟩
theorem pw_imp {X : Cx} {e : Expr} {t t' : TT} (h : PW X e t) (i : ∀ σ H Q, t' σ H Q → t σ H Q) : PW X e t' := ⟨fun wh pins s σ H Q I q => h.run wh pins s σ H Q I (i σ H Q q)⟩
theorem pa_imp {X : Cx} {es : List Expr} {t t' : TA} (h : PA X es t) (i : ∀ σ H Q, t' σ H Q → t σ H Q) : PA X es t' := ⟨fun pos pins s σ H Q I q => h.run pos pins s σ H Q I (i σ H Q q)⟩
theorem ps_imp {X : Cx} {s : Stmt} {t t' : TS} (h : PS X s t) (i : ∀ D σ H, t' D σ H → t D σ H) : PS X s t' := ⟨fun pins sh σ H D I q => h.run pins sh σ H D I (i D σ H q)⟩
theorem pss_imp {X : Cx} {s : List Stmt} {t t' : TS} (h : PSs X s t) (i : ∀ D σ H, t' D σ H → t D σ H) : PSs X s t' := ⟨fun pins sh σ H D I q => h.run pins sh σ H D I (i D σ H q)⟩
section
variable {X : Cx} {B : Hp} {W : WX} {e a b c : Expr} {es : List Expr} {pos : Pos}

/-! ### names, constants -/
def kE (d : D) : Ev D := fun S st => .ok d S st
def vE (i : Nat) : Ev D := fun S st => match S[i]? with
  | some (.d d) => .ok d S st
  | _ => .stuck
/-- the slot's own object, left as it is from here on -/
def zE (i : Nat) : Ev D := fun S st => match S[i]? with
  | some (.d d) => .ok d S st
  | some (.own w) => .ok w.d (S.set i (.d w.d)) st
  | _ => .stuck
def oV (f : Ev D) : Ev Opd := fun S st => (f S st).bind fun d S st => .ok (.v d) S st
def oS (i : Nat) : Ev Opd := fun S st => match S[i]? with
  | some .no => .stuck
  | none => .stuck
  | _ => .ok (.s i) S st
theorem de_k {v : V} {d : D} (h : PE X e (tC v)) (r : ∀ F, Rp (Cx.g X) F v d) : DE X B W e (kE d) :=
  pe_imp h fun σ H Q ⟨F, S, st, o, q⟩ => q v H F .refl o (r F)
theorem de_non {j} : DE X B W (.Constant .none j pos) (kE .non) := de_k pe_non fun _ => .non
theorem de_bl {t j} : DE X B W (.Constant (.bool t) j pos) (kE (.bl t)) := de_k pe_bl fun _ => .bl _
theorem de_int {i j} : DE X B W (.Constant (.int i) j pos) (kE (.int i)) := de_k pe_int fun _ => .int _
theorem de_str {x j} (s : List Nat) (h : x = tx s := by rfl) (o : okS s = true := by decide) : DE X B W (.Constant (.str x) j pos) (kE (.str s)) := by
  subst h; exact de_k pe_str fun _ => .str _ o
theorem de_v {i : Nat} (h : PE X e (tVar i)) : DE X B W e (vE i) := pe_imp h fun σ H Q ⟨F, S, st, o, q⟩ => by
  unfold vE at q
  split at q
  · rename_i d hd
    obtain ⟨v, e1, r⟩ := o.sl i _ hd
    exact ⟨v, e1, q v H F .refl o r⟩
  · exact q.elim
theorem de_z {i : Nat} (h : PE X e (tVar i)) : DE X B W e (zE i) := pe_imp h fun σ H Q ⟨F, S, st, o, q⟩ => by
  unfold zE at q
  split at q
  · rename_i d hd
    obtain ⟨v, e1, r⟩ := o.sl i _ hd
    exact ⟨v, e1, q v H F .refl o r⟩
  · rename_i w hw
    obtain ⟨F', p, g, o', e1, r⟩ := o.frz hw
    exact ⟨_, e1, q _ H F' g o' r⟩
  · exact q.elim
theorem do_v {f : Ev D} (h : DE X B W e f) : DO X B W e (oV f) := pe_imp h fun σ H Q ⟨F, S, st, o, q⟩ =>
  ⟨F, S, st, o, (Post.bind (R := RD (Cx.g X) σ) q).mono fun v H1 ⟨F1, d, S1, st1, g, o1, r, p⟩ => p v H1 F1 .refl o1 r⟩
theorem do_s {i : Nat} (h : PE X e (tVar i)) : DO X B W e (oS i) := pe_imp h fun σ H Q ⟨F, S, st, o, q⟩ => by
  unfold oS at q
  split at q
  · exact q.elim
  · exact q.elim
  · rename_i n1 n2
    cases hs : S[i]? with
    | none => exact absurd hs n2
    | some s =>
      have h := o.sl i s hs
      cases s with
      | no => exact absurd hs n1
      | d x =>
        obtain ⟨v, e1, r⟩ := h
        exact ⟨v, e1, q v H F .refl o e1⟩
      | own w =>
        obtain ⟨p, u, e1, _⟩ := h
        exact ⟨_, e1, q _ H F .refl o e1⟩

/-! ### argument lists -/
def aN : Ev (List Opd) := fun S st => .ok [] S st
def aC (f : Ev Opd) (g : Ev (List Opd)) : Ev (List Opd) := fun S st => (f S st).bind fun a S st => (g S st).bind fun r S st => .ok (a :: r) S st
theorem da_n : DA X B W [] aN := pa_imp pa_nil fun σ H Q ⟨F, S, st, o, q⟩ => q [] H F .refl o .nil
theorem da_c {f : Ev Opd} {g : Ev (List Opd)} (h : DO X B W e f) (t : DA X B W es g) (hs : starEach (e :: es) X.env = (false, eval e X.env) :: starEach es X.env := by rfl) : DA X B W (e :: es) (aC f g) :=
  pa_imp (pa_cons h t hs) fun σ H Q ⟨F, S, st, o, q⟩ => ⟨F, S, st, o, (Post.bind (R := RO (Cx.g X) σ) q).mono fun v H1 ⟨F1, d, S1, st1, g1, o1, r1, p1⟩ =>
    ⟨F1, S1, st1, o1, (Post.bind (R := RpO (Cx.g X) σ) p1).mono fun vs H2 ⟨F2, ds, S2, st2, g2, o2, r2, p2⟩ => p2 _ H2 F2 .refl o2 (.cons (r1.mono g2.1) r2)⟩⟩
end

/-! ### operations by data -/
/-- r, whatever else is wanted, where op tells d -/
def Gives (r : VK → Prop) (G : Gx) (F H : Hp) (d : D) : Prop := ∀ Q : VK, (∀ v' H' F', Same H H' → Same F' H' → Gr H F F' → Rp G F' v' d → Q v' H') → r Q
def Op2 (G : Gx) (r : R2) (op : D → D → Option D) : Prop := ∀ F H v w x y d, Same F H → Vw G F H v x → Vw G F H w y → op x y = some d → Gives (r v w H) G F H d
def Op1 (G : Gx) (r : V → Hp → VK → Prop) (op : D → Option D) : Prop := ∀ F H v x d, Same F H → Vw G F H v x → op x = some d → Gives (r v H) G F H d
def OpA (G : Gx) (r : List V → Hp → VK → Prop) (op : List D → Option D) : Prop := ∀ F H vs xs d, Same F H → VwAll G F H vs xs → op xs = some d → Gives (r vs H) G F H d
def OpM (G : Gx) (r : V → List V → Hp → VK → Prop) (op : D → List D → Option D) : Prop := ∀ F H v vs x xs d, Same F H → Vw G F H v x → VwAll G F H vs xs → op x xs = some d → Gives (r v vs H) G F H d
def got {α : Type} (o : Option α) (S : Sls) (st : Store) : Res α := match o with
  | some d => .ok d S st
  | none => .stuck
@[simp] theorem got_some {α : Type} (d : α) (S : Sls) (st : Store) : got (some d) S st = .ok d S st := rfl
@[simp] theorem got_none {α : Type} (S : Sls) (st : Store) : got (none : Option α) S st = .stuck := rfl
theorem Gives.fin {r : VK → Prop} {G : Gx} {B F H : Hp} {W : WX} {σ : L2.St} {S : Sls} {st : Store} {d : D} {Q : VK} (g : Gives r G F H d) (o : Ok G B F σ H S) (p : Post G B W (RD G σ) σ F Q (.ok d S st)) : r Q :=
  g Q fun v' H' F' k f gr rr => p v' H' F' (o.gr gr) (o.grow gr k f) rr
def o2E (op : D → D → Option D) (fa fb : Ev Opd) : Ev D := fun S st => (fa S st).bind fun a S st => (fb S st).bind fun b S st =>
  match vw S a, vw S b with
  | some x, some y => got (op x y) S st
  | _, _ => .stuck
def o1E (op : D → Option D) (fa : Ev Opd) : Ev D := fun S st => (fa S st).bind fun a S st =>
  match vw S a with
  | some x => got (op x) S st
  | _ => .stuck
def oAE (op : List D → Option D) (fa : Ev (List Opd)) : Ev D := fun S st => (fa S st).bind fun a S st =>
  match vws S a with
  | some x => got (op x) S st
  | _ => .stuck
def oME (op : D → List D → Option D) (fo : Ev Opd) (fa : Ev (List Opd)) : Ev D := fun S st => (fo S st).bind fun o S st => (fa S st).bind fun a S st =>
  match vw S o, vws S a with
  | some y, some x => got (op y x) S st
  | _, _ => .stuck
theorem got_ok {α β : Type} {G : Gx} {B F : Hp} {W : WX} {σ : L2.St} {R : Hp → β → α → Prop} {Q : β → Hp → Prop} {x : Option α} {S : Sls} {st : Store} (p : Post G B W R σ F Q (got x S st)) : ∃ d, x = some d ∧ Post G B W R σ F Q (.ok d S st) := by
  cases x with
  | none => exact p.elim
  | some d => exact ⟨d, rfl, p⟩
section
variable {X : Cx} {B : Hp} {W : WX} {e a b c : Expr} {es : List Expr} {pos : Pos}
theorem op2_lift {r : R2} {op : D → D → Option D} {fa fb : Ev Opd} (h : Op2 (Cx.g X) r op) {σ : L2.St} {H : Hp} {Q : VK} (q : lift (Cx.g X) B W (RD (Cx.g X)) (o2E op fa fb) σ H Q) :
    tOp r (lift (Cx.g X) B W (RO (Cx.g X)) fa) (lift (Cx.g X) B W (RO (Cx.g X)) fb) σ H Q := by
  obtain ⟨F, S, st, o, q⟩ := q
  refine ⟨F, S, st, o, (Post.bind (R := RO (Cx.g X) σ) q).mono fun v H1 ⟨F1, d, S1, st1, g1, o1, r1, p1⟩ => ⟨F1, S1, st1, o1, (Post.bind (R := RO (Cx.g X) σ) p1).mono fun w H2 ⟨F2, d2, S2, st2, g2, o2, r2, p2⟩ => ?_⟩⟩
  split at p2
  · rename_i x y hx hy
    obtain ⟨z, hz, p2⟩ := got_ok p2
    exact (h F2 H2 v w x y z o2.fH (o2.vw (r1.mono g2.1) hx) (o2.vw r2 hy) hz).fin o2 p2
  · exact p2.elim
theorem de_bin {o : Operator} {r : R2} {op : D → D → Option D} {fa fb : Ev Opd} (ho : OpR X (binaryOp o) r) (h : Op2 (Cx.g X) r op) (ha : DO X B W a fa) (hb : DO X B W b fb) : DE X B W (.BinOp a o b pos) (o2E op fa fb) :=
  pe_imp (pe_op ho ha hb) fun _ _ _ q => op2_lift h q
theorem de_cmp {o : CmpOp} {r : R2} {op : D → D → Option D} {fa fb : Ev Opd} (ho : OpR X (compareOp o) r) (h : Op2 (Cx.g X) r op) (ha : DO X B W a fa) (hb : DO X B W b fb) (hm : behindInMarks o b = false) : DE X B W (.Compare a [o] [b] pos) (o2E op fa fb) :=
  pe_imp (pe_cmpR ho ha hb hm) fun _ _ _ q => op2_lift h q
/-- a value that is a bool, as a test -/
def tV (f : Ev D) : Ev Bool := fun S st => (f S st).bind fun d S st => match d with
  | .bl k => .ok k S st
  | _ => .stuck
theorem test_lift {t : TE} {f : Ev D} {σ : L2.St} {H : Hp} {Q : Bool → Hp → Prop} (i : ∀ σ H Q, lift (Cx.g X) B W (RD (Cx.g X)) f σ H Q → t σ H Q) (q : lift (Cx.g X) B W RB (tV f) σ H Q) : tTest t σ H Q := by
  obtain ⟨F, S, st, o, q⟩ := q
  refine i σ H _ ⟨F, S, st, o, (Post.bind (R := RD (Cx.g X) σ) q).mono fun v H1 ⟨F1, d, S1, st1, g1, o1, r1, p1⟩ => ?_⟩
  split at p1
  · cases r1
    exact ⟨_, rfl, p1 _ H1 F1 .refl o1 rfl⟩
  · exact p1.elim
theorem dt_cmp {o : CmpOp} {r : R2} {op : D → D → Option D} {fa fb : Ev Opd} (ho : OpR X (compareOp o) r) (h : Op2 (Cx.g X) r op) (ha : DO X B W a fa) (hb : DO X B W b fb) (hm : behindInMarks o b = false) : DT X B W (.Compare a [o] [b] pos) (tV (o2E op fa fb)) :=
  pt_imp (pt_cmpR ho ha hb hm) fun _ _ _ q => test_lift (fun _ _ _ q => op2_lift h q) q
theorem de_ix {r : R2} {op : D → D → Option D} {fa fb : Ev Opd} (ho : IxR X r) (h : Op2 (Cx.g X) r op) (ha : DO X B W a fa) (hb : DO X B W b fb) (hs : PlainIx b := by exact fun _ _ => rfl) : DE X B W (.Subscript a b pos) (o2E op fa fb) :=
  pe_imp (pe_ix ho ha hb hs) fun _ _ _ q => op2_lift h q
theorem de_un {o : UnaryOp} {r : V → Hp → VK → Prop} {op : D → Option D} {fa : Ev Opd} (ho : UnR X (unaryOp o) r) (h : Op1 (Cx.g X) r op) (ha : DO X B W a fa) : DE X B W (.UnaryOp o a pos) (o1E op fa) :=
  pe_imp (pe_un ho ha) fun σ H Q ⟨F, S, st, o, q⟩ => ⟨F, S, st, o, (Post.bind (R := RO (Cx.g X) σ) q).mono fun v H1 ⟨F1, d, S1, st1, g1, o1, r1, p1⟩ => by
    split at p1
    · rename_i x hx
      obtain ⟨z, hz, p1⟩ := got_ok p1
      exact (h F1 H1 v x z o1.fH (o1.vw r1 hx) hz).fin o1 p1
    · exact p1.elim⟩
theorem opA_lift {r : List V → Hp → VK → Prop} {op : List D → Option D} {fa : Ev (List Opd)} (h : OpA (Cx.g X) r op) {σ : L2.St} {H : Hp} {Q : VK} (q : lift (Cx.g X) B W (RD (Cx.g X)) (oAE op fa) σ H Q) :
    tCB r (lift (Cx.g X) B W (RpO (Cx.g X)) fa) σ H Q := by
  obtain ⟨F, S, st, o, q⟩ := q
  refine ⟨F, S, st, o, (Post.bind (R := RpO (Cx.g X) σ) q).mono fun v H1 ⟨F1, d, S1, st1, g1, o1, r1, p1⟩ => ?_⟩
  split at p1
  · rename_i x hx
    obtain ⟨z, hz, p1⟩ := got_ok p1
    exact (h F1 H1 v x z o1.fH (o1.vws r1 hx) hz).fin o1 p1
  · exact p1.elim
theorem de_cb {x : Str} {p : Pos} {id : String} {r : List V → Hp → VK → Prop} {op : List D → Option D} {fa : Ev (List Opd)} (hc : CallR X (.builtin id) r) (h : OpA (Cx.g X) r op) (hm : X.mg x = none) (ha : DA X B W (e :: es) fa)
    (hg : Gl X x := by rfl) (hv : bootBuiltins x = some (.builtin id) := by decide +kernel) (hn : x ≠ "__name__" := by decide) (hdb : (x == ("__debug__" : Str)) = false := by decide)
    (he : starEach (e :: es) X.env = (false, eval e X.env) :: starEach es X.env := by rfl) (hpl : (backTo pos (starEach es X.env)).any (·.1) = false := by rfl) : DE X B W (.Call (.Name x p) (e :: es) [] pos) (oAE op fa) :=
  pe_imp (pe_callB hc hg hm hv ha hn hdb he hpl) fun _ _ _ q => opA_lift h q
theorem de_ct {x : Str} {p : Pos} {T : String} {r : List V → Hp → VK → Prop} {op : List D → Option D} {fa : Ev (List Opd)} (hc : CallR X (.type T) r) (h : OpA (Cx.g X) r op) (hm : X.mg x = none) (ha : DA X B W (e :: es) fa)
    (hg : Gl X x := by rfl) (hv : bootBuiltins x = some (.type T) := by decide +kernel) (hn : x ≠ "__name__" := by decide) (hdb : (x == ("__debug__" : Str)) = false := by decide)
    (he : starEach (e :: es) X.env = (false, eval e X.env) :: starEach es X.env := by rfl) (hpl : (backTo pos (starEach es X.env)).any (·.1) = false := by rfl) : DE X B W (.Call (.Name x p) (e :: es) [] pos) (oAE op fa) :=
  pe_imp (pe_callTy hc hg hm hv ha hn hdb he hpl) fun _ _ _ q => opA_lift h q
/-- the receiver's type, by its datum -/
def tyD (T : String) : D → Bool
  | .str _ => T == "str"
  | .int _ => T == "int"
  | .lst _ => T == "list"
  | .scr _ => T == "list"
  | .dic _ => T == "dict"
  | _ => false
theorem Vw.ty {G : Gx} {F H : Hp} {v : V} {d : D} {T : String} (h : Vw G F H v d) (f : Same F H) (t : tyD T d = true) : tyV G.K T v H := by
  rcases h with h | ⟨p, u, w, rfl, hp, ow, rfl⟩
  · cases h with
    | str s _ => exact beq_iff_eq.mp t
    | int i => exact beq_iff_eq.mp t
    | lst e r => exact .inl ⟨beq_iff_eq.mp t, _, .inl (.inl (f _ _ e))⟩
    | scr e => exact .inl ⟨beq_iff_eq.mp t, _, f.seq e⟩
    | dicK e r => exact .inr (.inr (.inl ⟨beq_iff_eq.mp t, .inl ⟨_, f _ _ e⟩⟩))
    | dicT e r => exact .inr (.inr (.inl ⟨beq_iff_eq.mp t, .inr ⟨_, f _ _ e⟩⟩))
    | _ => cases t
  · cases ow with
    | l r => exact .inl ⟨beq_iff_eq.mp t, _, .inl (.inl hp)⟩
    | kK r => exact .inr (.inr (.inl ⟨beq_iff_eq.mp t, .inl ⟨_, hp⟩⟩))
    | kT r => exact .inr (.inr (.inl ⟨beq_iff_eq.mp t, .inr ⟨_, hp⟩⟩))
/-- the type is looked at ahead of the arguments -/
def mE (T : String) (op : D → List D → Option D) (fo : Ev Opd) (fa : Ev (List Opd)) : Ev D := fun S st => (fo S st).bind fun o S st =>
  match vw S o with
  | some y => if tyD T y = true then (fa S st).bind fun a S st =>
      match vw S o, vws S a with
      | some y, some x => got (op y x) S st
      | _, _ => .stuck
    else .stuck
  | _ => .stuck
theorem de_m {T id : String} {name : Str} {apos : Pos} {r : V → List V → Hp → VK → Prop} {op : D → List D → Option D} {fo : Ev Opd} {fa : Ev (List Opd)} (pa : PlainAttrs T) (slot : Slot T name id) (hty : typeOf (.builtin id) = pure (.type "method_descriptor")) (hm : MtR X id r) (h : OpM (Cx.g X) r op)
    (ho : DO X B W a fo) (ha : DA X B W (e :: es) fa)
    (hbase : attributeBase a name X.env (eval a X.env) = eval a X.env := by rfl)
    (hfew : ((backTo pos (starEach (e :: es) X.env)).all (fun x => !x.1) && (backToKw pos (keywordEach [] X.env)).all (fun x => x.1.isSome)
      && decide ((e :: es).length + ([] : List Keyword).length + (if ([] : List Keyword).isEmpty then 0 else 1) < 30)) = true := by rfl)
    (hline : (apos.endLine == pos.line) = true := by rfl) (hs : starEach (e :: es) X.env = (false, eval e X.env) :: starEach es X.env := by rfl) (hplain : (backTo pos (starEach es X.env)).any (·.1) = false := by rfl) :
    DE X B W (.Call (.Attribute a name apos) (e :: es) [] pos) (mE T op fo fa) :=
  pe_imp (pe_bm pa slot hty hm ho ha hbase hfew hline hs hplain) fun σ H Q ⟨F, S, st, o, q⟩ => ⟨F, S, st, o, (Post.bind (R := RO (Cx.g X) σ) q).mono fun v H1 ⟨F1, d, S1, st1, g1, o1, r1, p1⟩ => by
    split at p1
    · rename_i y hy
      split at p1
      · rename_i ht
        refine ⟨(o1.vw r1 hy).ty o1.fH ht, F1, S1, st1, o1, (Post.bind (R := RpO (Cx.g X) σ) p1).mono fun vs H2 ⟨F2, ds, S2, st2, g2, o2, r2, p2⟩ => ?_⟩
        split at p2
        · rename_i y' x hy' hx
          obtain ⟨z, hz, p2⟩ := got_ok p2
          exact (h F2 H2 v vs y' x z o2.fH (o2.vw (r1.mono g2.1) hy') (o2.vws r2 hx) hz).fin o2 p2
        · exact p2.elim
      · exact p1.elim
    · exact p1.elim⟩
def m0E (T : String) (op : D → Option D) (fo : Ev Opd) : Ev D := fun S st => (fo S st).bind fun o S st =>
  match vw S o with
  | some y => if tyD T y = true then got (op y) S st else .stuck
  | _ => .stuck
theorem de_m0 {T id : String} {name : Str} {apos : Pos} {r : V → List V → Hp → VK → Prop} {op : D → Option D} {fo : Ev Opd} (pa : PlainAttrs T) (slot : Slot T name id) (hty : typeOf (.builtin id) = pure (.type "method_descriptor")) (hm : MtR X id r) (h : Op1 (Cx.g X) (fun v => r v []) op)
    (ho : DO X B W a fo) (hbase : attributeBase a name X.env (eval a X.env) = eval a X.env := by rfl) (hline : (apos.endLine == pos.line) = true := by rfl) :
    DE X B W (.Call (.Attribute a name apos) [] [] pos) (m0E T op fo) :=
  pe_imp (pe_bm0 pa slot hty hm ho hbase hline) fun σ H Q ⟨F, S, st, o, q⟩ => ⟨F, S, st, o, (Post.bind (R := RO (Cx.g X) σ) q).mono fun v H1 ⟨F1, d, S1, st1, g1, o1, r1, p1⟩ => by
    split at p1
    · rename_i y hy
      split at p1
      · rename_i ht
        obtain ⟨z, hz, p1⟩ := got_ok p1
        exact ⟨(o1.vw r1 hy).ty o1.fH ht, (h F1 H1 v y z o1.fH (o1.vw r1 hy) hz).fin o1 p1⟩
      · exact p1.elim
    · exact p1.elim⟩
end
end DL

namespace DL
open PySem PySem.Spec PyProof.Rows L2

/-- no exception leaves -/
def Res.calm {α : Type} : Res α → Res α
  | .exc _ _ _ => .stuck
  | r => r
@[simp] theorem Res.calm_ok {α : Type} (a : α) (S : Sls) (st : Store) : (Res.ok a S st).calm = .ok a S st := rfl
abbrev W0 : WX := fun _ _ _ _ => False
theorem Post.calm {G : Gx} {B : Hp} {W : WX} {α β : Type} {R : Hp → β → α → Prop} {σ : L2.St} {F : Hp} {Q : β → Hp → Prop} {r : Res α} (h : Post G B W R σ F Q r.calm) : Post G B W0 R σ F Q r := by
  cases r with
  | ok d S st => exact h
  | exc x S st => exact h.elim
  | stuck => exact h
section
variable {X : Cx} {B : Hp} {W : WX} {e a b c : Expr} {es : List Expr} {s : Stmt} {ss : List Stmt} {pos : Pos}

/-! ### tests -/
def tru : D → Option Bool
  | .non => some false
  | .bl b => some b
  | .int i => some (i != 0)
  | .str s => if s.length ≤ 16777216 then some (!s.isEmpty) else none
  | .lst ds => some (!ds.isEmpty)
  | .tup ds => some (!ds.isEmpty)
  | .scr ns => some (!ns.isEmpty)
  | _ => none
theorem isEmpty_all {G : Gx} {F : Hp} {xs : List V} {ds : List D} (r : RpAll G F xs ds) : xs.isEmpty = ds.isEmpty := by cases r <;> rfl
theorem Vw.tru {G : Gx} {F H : Hp} {v : V} {d : D} {k : Bool} (h : Vw G F H v d) (f : Same F H) (e : tru d = some k) : TruV G.K v H k := by
  rcases h with h | ⟨p, u, w, rfl, hp, ow, rfl⟩
  · cases h with
    | non => exact (Option.some.inj (show some _ = some k from e)).symm
    | bl => exact (Option.some.inj (show some _ = some k from e)).symm
    | int => exact (Option.some.inj (show some _ = some k from e)).symm
    | str s _ =>
      simp only [DL.tru] at e
      split at e
      · cases e
        refine ⟨by rw [tx_len, sizeLine_eq]; assumption, ?_⟩
        rw [tx_len]
        cases s with
        | nil => rfl
        | cons x r =>
          simp only [List.isEmpty_cons, Bool.not_false]
          have : (((x :: r).length : Nat) : Int) ≠ 0 := by simp only [List.length_cons]; omega
          exact (bne_iff_ne.mpr this).symm
      · cases e
    | lst e' r => have e := Option.some.inj (show some _ = some k from e); subst e; exact .inl ⟨_, .inl (.inl (f _ _ e')), by rw [isEmpty_all r]⟩
    | tup e' r => have e := Option.some.inj (show some _ = some k from e); subst e; exact .inr (.inl ⟨_, same_seqT f e', by rw [isEmpty_all r]⟩)
    | scr e' => have e := Option.some.inj (show some _ = some k from e); subst e; exact .inl ⟨_, f.seq e', by cases ‹List Int› <;> rfl⟩
    | _ => cases e
  · cases ow with
    | l r => have e := Option.some.inj (show some _ = some k from e); subst e; exact .inl ⟨_, .inl (.inl hp), by rw [isEmpty_all r]⟩
    | _ => cases e
def tT (f : Ev Opd) : Ev Bool := fun S st => (f S st).bind fun o S st => match vw S o with
  | some d => got (tru d) S st
  | none => .stuck
theorem dt_t {f : Ev Opd} (h : DO X B W a f) (he : ∀ whole, isTrue a X.env whole = (do let v ← whole; standAt a.pos; holding [v] (truthy v)) := by exact fun _ => rfl) : DT X B W a (tT f) :=
  pt_imp (pt_truth h he) fun σ H Q ⟨F, S, st, o, q⟩ => ⟨F, S, st, o, (Post.bind (R := RO (Cx.g X) σ) q).mono fun v H1 ⟨F1, d, S1, st1, g1, o1, r1, p1⟩ => by
    split at p1
    · rename_i x hx
      obtain ⟨k, hk, p1⟩ := got_ok p1
      exact ⟨k, (o1.vw r1 hx).tru o1.fH hk, p1 k H1 F1 .refl o1 rfl⟩
    · exact p1.elim⟩
def tN (f : Ev Bool) : Ev Bool := fun S st => (f S st).bind fun b S st => .ok (!b) S st
theorem dt_n {f : Ev Bool} (h : DT X B W a f) : DT X B W (.UnaryOp .Not a pos) (tN f) :=
  pt_imp (pt_not h) fun σ H Q ⟨F, S, st, o, q⟩ => ⟨F, S, st, o, (Post.bind (R := RB σ) q).mono fun v H1 ⟨F1, d, S1, st1, g1, o1, r1, p1⟩ => by
    cases r1
    exact p1 _ H1 F1 .refl o1 rfl⟩
def tA (f g : Ev Bool) : Ev Bool := fun S st => (f S st).bind fun b S st => if b = true then g S st else .ok false S st
def tO (f g : Ev Bool) : Ev Bool := fun S st => (f S st).bind fun b S st => if b = true then .ok true S st else g S st
theorem dw_1a {f : Ev Bool} (h : DT X B W a f) : DW X B W (.BoolOp .And [a] pos) f := pw_and1 h
theorem dw_1o {f : Ev Bool} (h : DT X B W a f) : DW X B W (.BoolOp .Or [a] pos) f := pw_or1 h
theorem dw_a {rest : List Expr} {f g : Ev Bool} (h : DT X B W a f) (t : DW X B W (.BoolOp .And (b :: rest) pos) g) : DW X B W (.BoolOp .And (a :: b :: rest) pos) (tA f g) :=
  pw_imp (pw_and h t) fun σ H Q ⟨F, S, st, o, q⟩ => ⟨F, S, st, o, (Post.bind (R := RB σ) q).mono fun v H1 ⟨F1, d, S1, st1, g1, o1, r1, p1⟩ => by
    cases r1
    cases v with
    | true => exact ⟨F1, S1, st1, o1, p1⟩
    | false => exact p1 _ H1 F1 .refl o1 rfl⟩
theorem dw_o {rest : List Expr} {f g : Ev Bool} (h : DT X B W a f) (t : DW X B W (.BoolOp .Or (b :: rest) pos) g) : DW X B W (.BoolOp .Or (a :: b :: rest) pos) (tO f g) :=
  pw_imp (pw_or h t) fun σ H Q ⟨F, S, st, o, q⟩ => ⟨F, S, st, o, (Post.bind (R := RB σ) q).mono fun v H1 ⟨F1, d, S1, st1, g1, o1, r1, p1⟩ => by
    cases r1
    cases v with
    | false => exact ⟨F1, S1, st1, o1, p1⟩
    | true => exact p1 _ H1 F1 .refl o1 rfl⟩
theorem dt_w {f : Ev Bool} (h : DW X B W a f) : DT X B W a f := PW.pt h
/-- as values: bools -/
def eA (f g : Ev D) : Ev D := fun S st => (f S st).bind fun d S st => match d with
  | .bl b => if b = true then g S st else .ok (.bl false) S st
  | _ => .stuck
def eO (f g : Ev D) : Ev D := fun S st => (f S st).bind fun d S st => match d with
  | .bl b => if b = true then .ok (.bl true) S st else g S st
  | _ => .stuck
def eN (f : Ev D) : Ev D := fun S st => (f S st).bind fun d S st => match d with
  | .bl b => .ok (.bl (!b)) S st
  | _ => .stuck
theorem de_1 {op} {f : Ev D} (h : DE X B W a f) : DE X B W (.BoolOp op [a] pos) f := pe_one h
theorem de_a {rest : List Expr} {f g : Ev D} (h : DE X B W a f) (t : DE X B W (.BoolOp .And (b :: rest) pos) g) : DE X B W (.BoolOp .And (a :: b :: rest) pos) (eA f g) :=
  pe_imp (pe_and h t) fun σ H Q ⟨F, S, st, o, q⟩ => ⟨F, S, st, o, (Post.bind (R := RD (Cx.g X) σ) q).mono fun v H1 ⟨F1, d, S1, st1, g1, o1, r1, p1⟩ => by
    split at p1
    · rename_i k
      cases r1
      refine ⟨_, rfl, ?_⟩
      cases k with
      | true => exact ⟨F1, S1, st1, o1, p1⟩
      | false => exact p1 _ H1 F1 .refl o1 (.bl _)
    · exact p1.elim⟩
theorem de_o {rest : List Expr} {f g : Ev D} (h : DE X B W a f) (t : DE X B W (.BoolOp .Or (b :: rest) pos) g) : DE X B W (.BoolOp .Or (a :: b :: rest) pos) (eO f g) :=
  pe_imp (pe_or h t) fun σ H Q ⟨F, S, st, o, q⟩ => ⟨F, S, st, o, (Post.bind (R := RD (Cx.g X) σ) q).mono fun v H1 ⟨F1, d, S1, st1, g1, o1, r1, p1⟩ => by
    split at p1
    · rename_i k
      cases r1
      refine ⟨_, rfl, ?_⟩
      cases k with
      | false => exact ⟨F1, S1, st1, o1, p1⟩
      | true => exact p1 _ H1 F1 .refl o1 (.bl _)
    · exact p1.elim⟩
theorem de_n {f : Ev D} (h : DE X B W a f) : DE X B W (.UnaryOp .Not a pos) (eN f) :=
  pe_imp (pe_not h) fun σ H Q ⟨F, S, st, o, q⟩ => ⟨F, S, st, o, (Post.bind (R := RD (Cx.g X) σ) q).mono fun v H1 ⟨F1, d, S1, st1, g1, o1, r1, p1⟩ => by
    split at p1
    · cases r1
      exact ⟨_, rfl, p1 _ H1 F1 .refl o1 (.bl _)⟩
    · exact p1.elim⟩
def eI (t : Ev Bool) (f g : Ev D) : Ev D := fun S st => (t S st).bind fun b S st => if b = true then f S st else g S st
theorem de_i {t : Ev Bool} {f g : Ev D} (ht : DT X B W c t) (hf : DE X B W a f) (hg : DE X B W b g) : DE X B W (.IfExp c a b pos) (eI t f g) :=
  pe_imp (pe_ifExp ht hf hg) fun σ H Q ⟨F, S, st, o, q⟩ => ⟨F, S, st, o, (Post.bind (R := RB σ) q).mono fun v H1 ⟨F1, d, S1, st1, g1, o1, r1, p1⟩ => by
    cases r1
    cases v with
    | true => exact ⟨F1, S1, st1, o1, p1⟩
    | false => exact ⟨F1, S1, st1, o1, p1⟩⟩

/-! ### objects that are new -/
def PostF (G : Gx) (B : Hp) (W : WX) (σ : L2.St) (F : Hp) (Q : VK) : Res Ow → Prop
  | .ok w S' _ => ∀ p u H' F', Gr B F F' → Ok G B F' σ H' S' → H' p = some u → F' p = none → B p = none → OwRel G F' u w → (∀ (j : Nat) (es : Ow), S'[j]? = some (.own es) → σ[j]? ≠ some (some (.ref p))) → Q (.ref p) H'
  | .exc x S' _ => ∀ cls dd H' F', Gr B F F' → Ok G B F' σ H' S' → XRel G F' x cls dd H' → W cls dd σ H'
  | .stuck => False
def liftF (G : Gx) (B : Hp) (W : WX) (f : Ev Ow) : TE := fun σ H Q => ∃ F S st, Ok G B F σ H S ∧ PostF G B W σ F Q (f S st)
def DF (X : Cx) (B : Hp) (W : WX) (e : Expr) (f : Ev Ow) : Prop := PE X e (liftF (Cx.g X) B W f)
theorem PostF.grow {G : Gx} {σ : L2.St} {F F' : Hp} {Q : VK} {r : Res Ow} (g : Gr B F F') (h : PostF G B W σ F Q r) : PostF G B W σ F' Q r := by
  cases r with
  | ok d S st => exact fun p u H' F2 g2 => h p u H' F2 (g.trans g2)
  | exc x S st => exact fun c d H' F2 g2 o r => h c d H' F2 (g.trans g2) o r
  | stuck => exact h
theorem PostF.bind {G : Gx} {α β : Type} {R : Hp → β → α → Prop} {σ : L2.St} {F : Hp} {Q : VK} {r : Res α} {k : α → Sls → Store → Res Ow} (h : PostF G B W σ F Q (r.bind k)) :
    Post G B W R σ F (fun v H1 => ∃ F1 d S1 st1, Gr B F F1 ∧ Ok G B F1 σ H1 S1 ∧ R F1 v d ∧ PostF G B W σ F1 Q (k d S1 st1)) r := by
  cases r with
  | ok d S st => exact fun v H' F' g o r => ⟨F', d, S, st, g, o, r, PostF.grow g h⟩
  | exc x S st => exact h
  | stuck => exact h
/-- .. laid just now -/
theorem PostF.new {G : Gx} {σ : L2.St} {F H : Hp} {Q : VK} {S : Sls} {st : Store} {w : Ow} (o : Ok G B F σ H S) (h : PostF G B W σ F Q (.ok w S st)) {p : Addr} {u : HO} (hp : H p = none) (r : OwRel G F u w) : Q (.ref p) (upd H p u) := by
  refine h p u _ F .refl (o.junk (same_new hp)) upd_same (o.fH.free hp) (o.kp.free hp) r fun j es e1 e2 => ?_
  obtain ⟨p', xs', e3, h1, _⟩ := o.sl j _ e1
  rw [e2] at e3; cases e3
  rw [hp] at h1; cases h1
theorem Ok.frzAt {G : Gx} {F H : Hp} {σ : L2.St} {S : Sls} (o : Ok G B F σ H S) {p : Addr} {u : HO} (h : H p = some u) (hF : F p = none) (hB : B p = none) (no : ∀ (j : Nat) (es : Ow), S[j]? = some (.own es) → σ[j]? ≠ some (some (.ref p))) :
    Gr B F (upd F p u) ∧ Ok G B (upd F p u) σ H S := by
  have sm : Same F (upd F p u) := same_new hF
  refine ⟨⟨sm, fun a q1 q2 => ?_⟩, fun b u q => ?_, o.kp, o.len, fun j s q => ?_, o.ap⟩
  · by_cases z : a = p
    · subst z; exact hB
    · rw [upd_ne z] at q2; exact absurd q1 q2
  · by_cases z : b = p
    · subst z; rw [upd_same] at q; cases q; exact h
    · rw [upd_ne z] at q; exact o.fH _ _ q
  · have w := o.sl j s q
    cases s with
    | no => trivial
    | d x =>
      obtain ⟨v, a1, a2⟩ := w
      exact ⟨v, a1, a2.mono sm⟩
    | own es' =>
      obtain ⟨p2, xs2, a1, a2, a3, a4, a5⟩ := w
      have : p2 ≠ p := fun z => no j _ q (by rw [a1, z])
      exact ⟨p2, xs2, a1, a2, by rw [upd_ne this]; exact a3, a4, a5.mono sm⟩
/-- .. kept as it is -/
def fE (f : Ev Ow) : Ev D := fun S st => (f S st).bind fun w S st => .ok w.d S st
theorem postF_fE {G : Gx} {B : Hp} {W : WX} {σ : L2.St} {F : Hp} {Q : VK} {r : Res Ow} (q : Post G B W (RD G σ) σ F Q (r.bind fun w S st => .ok w.d S st)) : PostF G B W σ F Q r := by
  cases r with
  | ok w S1 st1 =>
    intro p u H' F' g o1 hu hF hB r no
    obtain ⟨g', o'⟩ := o1.frzAt hu hF hB no
    exact q _ H' _ (g.trans g') o' ((r.mono g'.1).rp upd_same)
  | exc x S1 st1 => exact q
  | stuck => exact q
theorem de_f {f : Ev Ow} (h : DF X B W e f) : DE X B W e (fE f) :=
  pe_imp h fun σ H Q ⟨F, S, st, o, q⟩ => ⟨F, S, st, o, postF_fE q⟩
/-- r lays a new object that holds w -/
def Lays (r : VK → Prop) (G : Gx) (F H : Hp) (w : Ow) : Prop := ∀ Q : VK, (∀ p u, H p = none → OwRel G F u w → Q (.ref p) (upd H p u)) → r Q
def Op2F (G : Gx) (r : R2) (op : D → D → Option Ow) : Prop := ∀ F H v w x y d, Same F H → Vw G F H v x → Vw G F H w y → op x y = some d → Lays (r v w H) G F H d
def OpAF (G : Gx) (r : List V → Hp → VK → Prop) (op : List D → Option Ow) : Prop := ∀ F H vs xs d, Same F H → VwAll G F H vs xs → op xs = some d → Lays (r vs H) G F H d
def OpMF (G : Gx) (r : V → List V → Hp → VK → Prop) (op : D → List D → Option Ow) : Prop := ∀ F H v vs x xs d, Same F H → Vw G F H v x → VwAll G F H vs xs → op x xs = some d → Lays (r v vs H) G F H d
theorem Lays.gives {r : VK → Prop} {G : Gx} {F H : Hp} {w : Ow} (f : Same F H) (h : Lays r G F H w) : Gives r G F H w.d := fun Q k => h Q fun p u hp r =>
  k _ _ (upd F p u) (same_new hp) (same_upd2 f) (gr_new f hp) ((r.mono (gr_new f hp).1).rp upd_same)
theorem postF_got {G : Gx} {F : Hp} {σ : L2.St} {Q : VK} {x : Option Ow} {S : Sls} {st : Store} (p : PostF G B W σ F Q (got x S st)) : ∃ d, x = some d ∧ PostF G B W σ F Q (.ok d S st) := by
  cases x with
  | none => exact p.elim
  | some d => exact ⟨d, rfl, p⟩
theorem Lays.fin {r : VK → Prop} {G : Gx} {F H : Hp} {σ : L2.St} {S : Sls} {st : Store} {w : Ow} {Q : VK} (g : Lays r G F H w) (o : Ok G B F σ H S) (p : PostF G B W σ F Q (.ok w S st)) : r Q :=
  g Q fun q u hq r => p.new o hq r
def o2F (op : D → D → Option Ow) (fa fb : Ev Opd) : Ev Ow := fun S st => (fa S st).bind fun a S st => (fb S st).bind fun b S st =>
  match vw S a, vw S b with
  | some x, some y => got (op x y) S st
  | _, _ => .stuck
def oAF (op : List D → Option Ow) (fa : Ev (List Opd)) : Ev Ow := fun S st => (fa S st).bind fun a S st =>
  match vws S a with
  | some x => got (op x) S st
  | _ => .stuck
theorem df_bin {o : Operator} {r : R2} {op : D → D → Option Ow} {fa fb : Ev Opd} (ho : OpR X (binaryOp o) r) (h : Op2F (Cx.g X) r op) (ha : DO X B W a fa) (hb : DO X B W b fb) : DF X B W (.BinOp a o b pos) (o2F op fa fb) :=
  pe_imp (pe_op ho ha hb) fun σ H Q ⟨F, S, st, o, q⟩ => ⟨F, S, st, o, (PostF.bind (R := RO (Cx.g X) σ) q).mono fun v H1 ⟨F1, d, S1, st1, g1, o1, r1, p1⟩ =>
    ⟨F1, S1, st1, o1, (PostF.bind (R := RO (Cx.g X) σ) p1).mono fun w H2 ⟨F2, d2, S2, st2, g2, o2, r2, p2⟩ => by
      split at p2
      · rename_i x y hx hy
        obtain ⟨z, hz, p2⟩ := postF_got p2
        exact (h F2 H2 v w x y z o2.fH (o2.vw (r1.mono g2.1) hx) (o2.vw r2 hy) hz).fin o2 p2
      · exact p2.elim⟩⟩
theorem df_ct {x : Str} {p : Pos} {T : String} {r : List V → Hp → VK → Prop} {op : List D → Option Ow} {fa : Ev (List Opd)} (hc : CallR X (.type T) r) (h : OpAF (Cx.g X) r op) (hm : X.mg x = none) (ha : DA X B W (e :: es) fa)
    (hg : Gl X x := by rfl) (hv : bootBuiltins x = some (.type T) := by decide +kernel) (hn : x ≠ "__name__" := by decide) (hdb : (x == ("__debug__" : Str)) = false := by decide)
    (he : starEach (e :: es) X.env = (false, eval e X.env) :: starEach es X.env := by rfl) (hpl : (backTo pos (starEach es X.env)).any (·.1) = false := by rfl) : DF X B W (.Call (.Name x p) (e :: es) [] pos) (oAF op fa) :=
  pe_imp (pe_callTy hc hg hm hv ha hn hdb he hpl) fun σ H Q ⟨F, S, st, o, q⟩ => ⟨F, S, st, o, (PostF.bind (R := RpO (Cx.g X) σ) q).mono fun v H1 ⟨F1, d, S1, st1, g1, o1, r1, p1⟩ => by
    split at p1
    · rename_i x hx
      obtain ⟨z, hz, p1⟩ := postF_got p1
      exact (h F1 H1 v x z o1.fH (o1.vws r1 hx) hz).fin o1 p1
    · exact p1.elim⟩
theorem df_cb {x : Str} {p : Pos} {T : String} {r : List V → Hp → VK → Prop} {op : List D → Option Ow} {fa : Ev (List Opd)} (hc : CallR X (.builtin T) r) (h : OpAF (Cx.g X) r op) (hm : X.mg x = none) (ha : DA X B W (e :: es) fa)
    (hg : Gl X x := by rfl) (hv : bootBuiltins x = some (.builtin T) := by decide +kernel) (hn : x ≠ "__name__" := by decide) (hdb : (x == ("__debug__" : Str)) = false := by decide)
    (he : starEach (e :: es) X.env = (false, eval e X.env) :: starEach es X.env := by rfl) (hpl : (backTo pos (starEach es X.env)).any (·.1) = false := by rfl) : DF X B W (.Call (.Name x p) (e :: es) [] pos) (oAF op fa) :=
  pe_imp (pe_callB hc hg hm hv ha hn hdb he hpl) fun σ H Q ⟨F, S, st, o, q⟩ => ⟨F, S, st, o, (PostF.bind (R := RpO (Cx.g X) σ) q).mono fun v H1 ⟨F1, d, S1, st1, g1, o1, r1, p1⟩ => by
    split at p1
    · rename_i x hx
      obtain ⟨z, hz, p1⟩ := postF_got p1
      exact (h F1 H1 v x z o1.fH (o1.vws r1 hx) hz).fin o1 p1
    · exact p1.elim⟩
/-- [a, b, ..] -/
def lF (fa : Ev (List Opd)) : Ev Ow := fun S st => (fa S st).bind fun a S st => match vds S a with
  | some ds => if ds.length ≤ 16777216 then .ok (.l ds) S st else .stuck
  | none => .stuck
theorem df_l {fa : Ev (List Opd)} (ha : DA X B W es fa) : DF X B W (.List es pos) (lF fa) :=
  pe_imp (pe_lst ha) fun σ H Q ⟨F, S, st, o, q⟩ => ⟨F, S, st, o, (PostF.bind (R := RpO (Cx.g X) σ) q).mono fun v H1 ⟨F1, d, S1, st1, g1, o1, r1, p1⟩ => by
    split at p1
    · rename_i x hx
      split at p1
      · have rr := o1.vds r1 hx
        exact ⟨by rw [rr.length, sizeLine_eq]; assumption, fun p hp => p1.new o1 hp (.l rr)⟩
      · exact p1.elim
    · exact p1.elim⟩
/-- (a, b, ..) -/
def pE (fa : Ev (List Opd)) : Ev D := fun S st => (fa S st).bind fun a S st => match vds S a with
  | some ds => if ds.length ≤ 16777216 then .ok (.tup ds) S st else .stuck
  | none => .stuck
theorem de_p {fa : Ev (List Opd)} {x1} (ha : DA X B W es fa) : DE X B W (.Tuple es x1 pos) (pE fa) :=
  pe_imp (pe_tup ha) fun σ H Q ⟨F, S, st, o, q⟩ => ⟨F, S, st, o, (Post.bind (R := RpO (Cx.g X) σ) q).mono fun v H1 ⟨F1, d, S1, st1, g1, o1, r1, p1⟩ => by
    split at p1
    · rename_i x hx
      split at p1
      · have rr := o1.vds r1 hx
        exact ⟨by rw [rr.length, sizeLine_eq]; assumption, fun p hp => p1 _ _ (upd F1 p (.tup v)) (o1.grN hp) (o1.gnew hp) (.tup (.inl (.inl upd_same)) (rr.mono (o1.grN (u := .tup v) hp).1))⟩
      · exact p1.elim
    · exact p1.elim⟩

/-! ### slices -/
def RP : L2.St → Hp → Option Int → Option Int → Prop := fun _ _ v d => v = d
def DP (X : Cx) (B : Hp) (W : WX) (e : Option Expr) (f : Ev (Option Int)) : Prop := PO X e (lift (Cx.g X) B W RP f)
theorem po_imp {X : Cx} {e : Option Expr} {t t' : TO} (h : PO X e t) (i : ∀ σ H Q, t' σ H Q → t σ H Q) : PO X e t' := ⟨fun pins s σ H Q I q => h.run pins s σ H Q I (i σ H Q q)⟩
def sN : Ev (Option Int) := fun S st => .ok none S st
def sS (f : Ev D) : Ev (Option Int) := fun S st => (f S st).bind fun d S st => match d with
  | .int i => .ok (some i) S st
  | _ => .stuck
theorem dp_n : DP X B W none sN := po_imp po_none fun σ H Q ⟨F, S, st, o, q⟩ => q _ H F .refl o rfl
theorem dp_s {f : Ev D} (h : DE X B W e f) : DP X B W (some e) (sS f) := po_imp (po_some h) fun σ H Q ⟨F, S, st, o, q⟩ => ⟨F, S, st, o, (Post.bind (R := RD (Cx.g X) σ) q).mono fun v H1 ⟨F1, d, S1, st1, g1, o1, r1, p1⟩ => by
  split at p1
  · cases r1
    exact ⟨_, rfl, p1 _ H1 F1 .refl o1 rfl⟩
  · exact p1.elim⟩
def OpS (G : Gx) (r : V → Option Int → Option Int → Hp → VK → Prop) (op : D → Option Int → Option Int → Option D) : Prop := ∀ F H v x l u d, Same F H → Vw G F H v x → op x l u = some d → Gives (r v l u H) G F H d
def slE (op : D → Option Int → Option Int → Option D) (fa : Ev Opd) (fl fu : Ev (Option Int)) : Ev D := fun S st => (fa S st).bind fun a S st => (fl S st).bind fun l S st => (fu S st).bind fun u S st =>
  match vw S a with
  | some x => got (op x l u) S st
  | _ => .stuck
theorem de_sl {r : V → Option Int → Option Int → Hp → VK → Prop} {op : D → Option Int → Option Int → Option D} {lo hi : Option Expr} {p2 : Pos} {fa : Ev Opd} {fl fu : Ev (Option Int)} (hr : SlR X r) (h : OpS (Cx.g X) r op) (ha : DO X B W a fa) (hl : DP X B W lo fl) (hu : DP X B W hi fu) :
    DE X B W (.Subscript a (.Slice lo hi none p2) pos) (slE op fa fl fu) :=
  pe_imp (pe_slice hr ha hl hu) fun σ H Q ⟨F, S, st, o, q⟩ => ⟨F, S, st, o, (Post.bind (R := RO (Cx.g X) σ) q).mono fun v H1 ⟨F1, d, S1, st1, g1, o1, r1, p1⟩ =>
    ⟨F1, S1, st1, o1, (Post.bind (R := RP σ) p1).mono fun l H2 ⟨F2, l', S2, st2, g2, o2, e2, p2⟩ => ⟨F2, S2, st2, o2, (Post.bind (R := RP σ) p2).mono fun u H3 ⟨F3, u', S3, st3, g3, o3, e3, p3⟩ => by
      cases e2; cases e3
      split at p3
      · rename_i x hx
        obtain ⟨z, hz, p3⟩ := got_ok p3
        exact (h F3 H3 v x _ _ z o3.fH (o3.vw (r1.mono (g2.1.trans g3.1)) hx) hz).fin o3 p3
      · exact p3.elim⟩⟩⟩
end

/-! ### calls of defs -/
def spOf (G : Gx) (n : Nat) (c : CallT) : Sp := fun vs H Q E => vs.length = n ∧ ∃ F ds st, Same F H ∧ RpAll G F vs ds ∧ match c ds st with
  | .ok d _ _ => ∀ v H' F', Same H H' → Same F' H' → Gr H F F' → Rp G F' v d → Q v H'
  | .exc x _ _ => ∀ cls dd H' F', Same H H' → Same F' H' → Gr H F F' → XRel G F' x cls dd H' → E cls dd H'
  | .stuck => False
structure Def (P : Program) (w : World) (K : PySem.W.Frag) (mg : Str → Option Value) (base : Heap) (k : Nat) (x : Str) (n : Nat) (c : CallT) : Prop where
  ex : ∃ f fd ps, FnOk P w K mg base (L2.CX P w) k f fd ps (spOf ⟨K, mg⟩ n c) ∧ Binds K fd ps [] ∧ mg x = some (.ref f) ∧ PySem.W.keepIn K (.ref f) = true
theorem Def.mono {P : Program} {w : World} {K : PySem.W.Frag} {mg : Str → Option Value} {base : Heap} {k j : Nat} {x : Str} {n : Nat} {c : CallT} (d : Def P w K mg base k x n c) (h : k ≤ j) : Def P w K mg base j x n c := by
  obtain ⟨f, fd, ps, a, b, c, e⟩ := d.ex
  exact ⟨f, fd, ps, a.mono h, b, c, e⟩
def cE (c : CallT) (fa : Ev (List Opd)) : Ev D := fun S st => (fa S st).bind fun a S st => match vds S a with
  | some ds => match c ds st with
    | .ok d _ st => .ok d S st
    | .exc x _ st => .exc x S st
    | .stuck => .stuck
  | none => .stuck
section
variable {X : Cx} {B : Hp} {W : WX} {e : Expr} {es : List Expr} {pos p : Pos} {k : Nat} {x : Str} {n : Nat} {c : CallT}
theorem call_lift {fa : Ev (List Opd)} {σ : L2.St} {H : Hp} {Q : VK} (hn : ∀ S st r S' st', fa S st = .ok r S' st' → r.length = n) (q : lift (Cx.g X) B W (RD (Cx.g X)) (cE c fa) σ H Q) :
    tCallS (spOf (Cx.g X) n c) (WE W) (lift (Cx.g X) B W (RpO (Cx.g X)) fa) σ H Q := by
  obtain ⟨F, S, st, o, q⟩ := q
  have key : ∀ (r : Res (List Opd)) (hl : ∀ r' S' st', r = .ok r' S' st' → r'.length = n), Post (Cx.g X) B W (RD (Cx.g X) σ) σ F Q (r.bind fun a S st => match vds S a with
      | some ds => match c ds st with
        | .ok d _ st => .ok d S st
        | .exc x _ st => .exc x S st
        | .stuck => .stuck
      | none => .stuck) → Post (Cx.g X) B W (RpO (Cx.g X) σ) σ F (fun vs H1 => spOf (Cx.g X) n c vs H1 Q (WE W σ)) r := by
    intro r hl q
    cases r with
    | exc y S1 st1 => exact q
    | stuck => exact q
    | ok a S1 st1 =>
      intro vs H1 F1 g1 o1 r1
      have q : Post (Cx.g X) B W (RD (Cx.g X) σ) σ F Q (match vds S1 a with
        | some ds => match c ds st1 with
          | .ok d _ st => .ok d S1 st
          | .exc x _ st => .exc x S1 st
          | .stuck => .stuck
        | none => .stuck) := q
      split at q
      · rename_i ds hds
        have ra := o1.vds r1 hds
        refine ⟨?_, F1, ds, st1, o1.fH, ra, ?_⟩
        · have l1 := hl _ _ _ rfl
          have : ∀ {vs : List V} {as : List Opd}, RpO (Cx.g X) σ F1 vs as → vs.length = as.length := by
            intro vs as h
            induction h with
            | nil => rfl
            | cons _ _ ih => simp [ih]
          rw [this r1, l1]
        · split at q
          · exact fun v H' F' k f gr rr => q v H' F' (g1.trans (o1.gr gr)) (o1.grow gr k f) rr
          · exact fun cls dd H' F' k f gr rr => q cls dd H' F' (g1.trans (o1.gr gr)) (o1.grow gr k f) rr
          · exact q.elim
      · exact q.elim
  exact ⟨F, S, st, o, key _ (fun r' S' st' e => hn _ _ _ _ _ e) q⟩
/-- an argument list of n -/
def aLen (f : Ev (List Opd)) (n : Nat) : Prop := ∀ S st r S' st', f S st = .ok r S' st' → r.length = n
theorem aLen_n : aLen aN 0 := fun S st r S' st' h => by
  have : Res.ok [] S st = Res.ok r S' st' := h
  injection this with h1 _ _
  subst h1; rfl
theorem aLen_c {f : Ev Opd} {g : Ev (List Opd)} {n : Nat} (h : aLen g n) : aLen (aC f g) (n + 1) := fun S st r S' st' q => by
  unfold aC at q
  cases h1 : f S st with
  | ok a S1 st1 =>
    rw [h1, Res.bind_ok] at q
    cases h2 : g S1 st1 with
    | ok b S2 st2 =>
      rw [h2, Res.bind_ok] at q
      injection q with q1 _ _
      subst q1
      simp [h _ _ _ _ _ h2]
    | exc y S2 st2 => rw [h2] at q; cases q
    | stuck => rw [h2] at q; cases q
  | exc y S1 st1 => rw [h1] at q; cases q
  | stuck => rw [h1] at q; cases q
theorem de_c {fa : Ev (List Opd)} (d : Def X.prog X.w X.K X.mg X.base k x n c) (hr : Room k X.A) (tk : Takes X W) (ha : DA X B W (e :: es) fa) (hl : aLen fa n := by repeat (first | exact aLen_n | refine aLen_c ?_)) (hg : Gl X x := by rfl) (hdb : (x == ("__debug__" : Str)) = false := by decide)
    (he : starEach (e :: es) X.env = (false, eval e X.env) :: starEach es X.env := by rfl) (hpl : (backTo pos (starEach es X.env)).any (·.1) = false := by rfl) : DE X B W (.Call (.Name x p) (e :: es) [] pos) (cE c fa) := by
  obtain ⟨f, fd, ps, F, hb, hm, hk⟩ := d.ex
  exact pe_imp (pe_callS F hr hg hm hk hb (fun σ => passAt tk σ) ha hdb he hpl) fun σ H Q q => call_lift hl q
end
end DL

namespace DL
open PySem PySem.Spec PyProof.Rows L2
section
variable {X : Cx} {B : Hp} {W : WX} {e a b c : Expr} {es : List Expr} {s : Stmt} {ss : List Stmt} {pos : Pos}

/-! ### statements -/
def sNil : EvS := fun S st => .nx S st
def sSeq (f g : EvS) : EvS := fun S st => (f S st).then g
theorem PostS.then {G : Gx} {F : Hp} {D : Ends} {r : Out} {k : Sls → Store → Out} (h : PostS G B W F D (r.then k)) : PostS G B W F { D with nx := fun σ H => ∃ F1 S1 st1, Gr B F F1 ∧ Ok G B F1 σ H S1 ∧ PostS G B W F1 D (k S1 st1) } r := by
  cases r with
  | nx S st => exact fun σ' H' F' g o => ⟨F', S, st, g, o, PostS.grow g h⟩
  | _ => exact h
theorem dss_n : DSs X B W [] sNil := pss_imp pss_nil fun D σ H ⟨F, S, st, o, q⟩ => q σ H F .refl o
theorem dss_c {f g : EvS} (h : DS X B W s f) (t : DSs X B W ss g) : DSs X B W (s :: ss) (sSeq f g) :=
  pss_imp (pss_cons h t) fun D σ H ⟨F, S, st, o, q⟩ => by
    refine ⟨F, S, st, o, ?_⟩
    have q2 := PostS.then q
    generalize f S st = r at q2
    cases r with
    | nx S1 st1 =>
      intro σ' H' F' g o1
      obtain ⟨F1, S2, st2, g2, o2, p⟩ := q2 σ' H' F' g o1
      exact ⟨F1, S2, st2, o2, p⟩
    | _ => exact q2
theorem dss_1 {f : EvS} (h : DS X B W s f) : DSs X B W [s] f := pss_one h
def sBk : EvS := fun S st => .bk S st
def sCt : EvS := fun S st => .ct S st
def sStuck : EvS := fun _ _ => .stuck
theorem ds_pass : DS X B W (.Pass pos) sNil := ps_imp ps_pass fun D σ H ⟨F, S, st, o, q⟩ => q σ H F .refl o
theorem ds_bk : DS X B W (.Break pos) sBk := ps_imp ps_break fun D σ H ⟨F, S, st, o, q⟩ => q σ H F .refl o
theorem ds_ct : DS X B W (.Continue pos) sCt := ps_imp ps_continue fun D σ H ⟨F, S, st, o, q⟩ => q σ H F .refl o
/-- a statement that is never come to -/
theorem ds_never : DS X B W s sStuck := ps_imp ps_never fun D σ H ⟨F, S, st, o, q⟩ => q
def sE (f : Ev D) : EvS := fun S st => (f S st).out fun _ S st => .nx S st
theorem ds_e {f : Ev D} (h : DE X B W e f) (hs : swapsWith e none pos.line X.env = pure false := by rfl) : DS X B W (.Expr e pos) (sE f) :=
  ps_imp (ps_expr h hs) fun D σ H ⟨F, S, st, o, q⟩ => ⟨F, S, st, o, (Post.out (R := RD (Cx.g X) σ) q).mono fun v H1 ⟨F1, d, S1, st1, g1, o1, r1, p1⟩ => p1 σ H1 F1 .refl o1⟩
def sR (f : Ev D) : EvS := fun S st => (f S st).out fun d S st => .ret d S st
theorem ds_r {f : Ev D} (h : DE X B W e f) : DS X B W (.Return (some e) pos) (sR f) :=
  ps_imp (ps_ret h) fun D σ H ⟨F, S, st, o, q⟩ => ⟨F, S, st, o, (Post.out (R := RD (Cx.g X) σ) q).mono fun v H1 ⟨F1, d, S1, st1, g1, o1, r1, p1⟩ => p1 v σ H1 F1 .refl o1 r1⟩
def sRN : EvS := fun S st => .ret .non S st
theorem ds_rn : DS X B W (.Return none pos) sRN := ps_imp ps_retN fun D σ H ⟨F, S, st, o, q⟩ => q .non σ H F .refl o .non
def sI (t : Ev Bool) (f g : EvS) : EvS := fun S st => (t S st).out fun b S st => if b = true then f S st else g S st
theorem ds_i {t : Ev Bool} {f g : EvS} {tb fb : List Stmt} (ht : DT X B W c t) (hf : DSs X B W tb f) (hg : DSs X B W fb g) : DS X B W (.If c tb fb pos) (sI t f g) :=
  ps_imp (ps_if ht hf hg) fun D σ H ⟨F, S, st, o, q⟩ => ⟨F, S, st, o, (Post.out (R := RB σ) q).mono fun v H1 ⟨F1, d, S1, st1, g1, o1, r1, p1⟩ => by
    cases r1
    cases v with
    | true => exact ⟨F1, S1, st1, o1, p1⟩
    | false => exact ⟨F1, S1, st1, o1, p1⟩⟩

/-! ### stores -/
def setD (i : Nat) (d : D) (S : Sls) : Sls := S.set i (.d d)
def sV (i : Nat) (f : Ev D) : EvS := fun S st => (f S st).out fun d S st => .nx (S.set i (.d d)) st
theorem ds_v {i : Nat} {x : Str} {px : Pos} {f : Ev D} (nd : X.N.Nodup) (h : DE X B W e f) (hi : X.N[i]? = some x := by rfl) (hx : Loc X.env.scope x := by first | exact .inl rfl | exact .inr rfl) (hs : swapsWith e (some (.Name x px)) pos.line X.env = pure false := by rfl)
    (hf : X.fn x = true ∨ X.env.scope.names.lookup x = some .local := by first | exact .inl rfl | exact .inr rfl) : DS X B W (.Assign [.Name x px] e pos) (sV i f) :=
  ps_imp (ps_set (i := i) nd hi hx h hs hf) fun D σ H ⟨F, S, st, o, q⟩ => ⟨F, S, st, o, (Post.out (R := RD (Cx.g X) σ) q).mono fun v H1 ⟨F1, d, S1, st1, g1, o1, r1, p1⟩ => p1 _ H1 F1 .refl (o1.set i r1)⟩
/-- a new object, the slot's own -/
def sO (i : Nat) (f : Ev Ow) : EvS := fun S st => (f S st).out fun w S st => .nx (S.set i (.own w)) st
theorem postF_own {G : Gx} {σ : L2.St} {F : Hp} {Dn : Ends} {i : Nat} {r : Res Ow} (q : PostS G B W F Dn (r.out fun w S st => .nx (S.set i (.own w)) st)) : PostF G B W σ F (fun v H1 => Dn.nx (σ.set i (some v)) H1) r := by
  cases r with
  | ok w S1 st1 => exact fun p u H' F' g o1 hu hF hB r no => q _ H' F' g (o1.setOwnAt i hu hF hB r no)
  | exc x S1 st1 => exact fun c d H' F' g o r => q c d σ H' F' g o r
  | stuck => exact q
theorem ds_o {i : Nat} {x : Str} {px : Pos} {f : Ev Ow} (nd : X.N.Nodup) (h : DF X B W e f) (hi : X.N[i]? = some x := by rfl) (hx : Loc X.env.scope x := by first | exact .inl rfl | exact .inr rfl) (hs : swapsWith e (some (.Name x px)) pos.line X.env = pure false := by rfl)
    (hf : X.fn x = true ∨ X.env.scope.names.lookup x = some .local := by first | exact .inl rfl | exact .inr rfl) : DS X B W (.Assign [.Name x px] e pos) (sO i f) :=
  ps_imp (ps_set (i := i) nd hi hx h hs hf) fun D σ H ⟨F, S, st, o, q⟩ => ⟨F, S, st, o, postF_own q⟩
/-- targets by data -/
abbrev Tg := D → Sls → Option Sls
def liftG (G : Gx) (B : Hp) (g : Tg) : TG := fun v σ H Q => ∃ F S d S', Ok G B F σ H S ∧ Rp G F v d ∧ g d S = some S' ∧ ∀ σ' H' F', Gr B F F' → Ok G B F' σ' H' S' → Q σ' H'
def liftGs (G : Gx) (B : Hp) (g : List D → Sls → Option Sls) : TGs := fun vs σ H Q => ∃ F S ds S', Ok G B F σ H S ∧ RpAll G F vs ds ∧ g ds S = some S' ∧ ∀ σ' H' F', Gr B F F' → Ok G B F' σ' H' S' → Q σ' H'
def DG (X : Cx) (B : Hp) (e : Expr) (g : Tg) : Prop := PG X e (liftG (Cx.g X) B g)
def DGs (X : Cx) (B : Hp) (es : List Expr) (g : List D → Sls → Option Sls) : Prop := PGs X es (liftGs (Cx.g X) B g)
theorem pg_imp {X : Cx} {e : Expr} {t t' : TG} (h : PG X e t) (i : ∀ v σ H Q, t' v σ H Q → t v σ H Q) : PG X e t' := ⟨fun pins s σ H v u Q I r q => h.run pins s σ H v u Q I r (i v σ H Q q)⟩
theorem pgs_imp {X : Cx} {es : List Expr} {t t' : TGs} (h : PGs X es t) (i : ∀ v σ H Q, t' v σ H Q → t v σ H Q) : PGs X es t' := ⟨fun pins s σ H v u Q I r q => h.run pins s σ H v u Q I r (i v σ H Q q)⟩
def gV (i : Nat) : Tg := fun d S => some (S.set i (.d d))
theorem dg_v {i : Nat} {x : Str} {px : Pos} (nd : X.N.Nodup) (hi : X.N[i]? = some x := by rfl) (hx : Loc X.env.scope x := by first | exact .inl rfl | exact .inr rfl) (hf : X.fn x = true ∨ X.env.scope.names.lookup x = some .local := by first | exact .inl rfl | exact .inr rfl) : DG X B (.Name x px) (gV i) :=
  pg_imp (pg_name nd hi hx hf) fun v σ H Q ⟨F, S, d, S', o, r, e, q⟩ => by
    cases e
    exact q _ H F .refl (o.set i r)
def gN : List D → Sls → Option Sls := fun ds S => match ds with
  | [] => some S
  | _ => none
def gC (g : Tg) (gs : List D → Sls → Option Sls) : List D → Sls → Option Sls := fun ds S => match ds with
  | d :: r => match g d S with
    | some S' => gs r S'
    | none => none
  | [] => none
theorem dgs_n : DGs X B [] gN := pgs_imp pgs_nil fun vs σ H Q ⟨F, S, ds, S', o, r, e, q⟩ => by
  cases r with
  | nil => cases e; exact ⟨rfl, q σ H F .refl o⟩
  | cons _ _ => cases e
theorem dgs_c {g : Tg} {gs : List D → Sls → Option Sls} (h : DG X B e g) (t : DGs X B es gs) (hs : (assignEach (e :: es) X.env).map (·.2) = assign e X.env :: (assignEach es X.env).map (·.2) := by rfl) : DGs X B (e :: es) (gC g gs) :=
  pgs_imp (pgs_cons h t hs) fun vs σ H Q ⟨F, S, ds, S', o, r, e, q⟩ => by
    cases r with
    | nil => cases e
    | cons r1 r2 =>
      unfold gC at e
      simp only at e
      split at e
      · rename_i S1 hS1
        exact ⟨_, _, rfl, F, S, _, S1, o, r1, hS1, fun σ' H' F' g o' => ⟨F', S1, _, S', o', r2.mono g.1, e, fun σ2 H2 F2 g2 o2 => q σ2 H2 F2 (g.trans g2) o2⟩⟩
      · cases e
def gT (n : Nat) (gs : List D → Sls → Option Sls) : Tg := fun d S => match d with
  | .tup ds => if ds.length = n then gs ds S else none
  | _ => none
theorem dg_t {n : Nat} {k : Nat} {gs : List D → Sls → Option Sls} (hc : X.calm = true) (h : DGs X B es gs) (hn : (assignEach es X.env).length = n := by rfl) (hst : (assignEach es X.env).findIdx? (·.1) = none := by rfl) : DG X B (.Tuple es k pos) (gT n gs) :=
  pg_imp (pg_tup hc h hn hst) fun v σ H Q ⟨F, S, d, S', o, r, e, q⟩ => by
    unfold gT at e
    split at e
    · split at e
      · rename_i hl
        cases r with
        | tup h1 h2 =>
          exact ⟨_, _, rfl, same_seqT o.fH h1, by rw [h2.length]; exact hl, F, S, _, S', o, h2, e, q⟩
      · cases e
    · cases e
def sG (g : Tg) (f : Ev D) : EvS := fun S st => (f S st).out fun d S st => match g d S with
  | some S' => .nx S' st
  | none => .stuck
theorem ds_g {tg : Expr} {g : Tg} {f : Ev D} (h : DE X B W e f) (hg : DG X B tg g) (hs : swapsWithSole [tg] e pos.line X.env = pure false := by rfl) (hw : swappedStores [tg] e X.env = pure none := by rfl)
    (h1 : (assignEach [tg] X.env).map (·.2) = [assign tg X.env] := by rfl) : DS X B W (.Assign [tg] e pos) (sG g f) :=
  ps_imp (ps_asg h hg hs hw h1) fun D σ H ⟨F, S, st, o, q⟩ => ⟨F, S, st, o, (Post.out (R := RD (Cx.g X) σ) q).mono fun v H1 ⟨F1, d, S1, st1, g1, o1, r1, p1⟩ => by
    split at p1
    · rename_i S' hS
      exact ⟨F1, S1, d, S', o1, r1, hS, fun σ' H' F' g o' => p1 σ' H' F' g o'⟩
    · exact p1.elim⟩
/-- x op= e, ints and texts -/
def sAug (i : Nat) (op : D → D → Option D) (f : Ev Opd) : EvS := fun S st => match S[i]? with
  | some (.d x) => (f S st).out fun y S st => match vw S y with
    | some y => match op x y with
      | some z => .nx (S.set i (.d z)) st
      | none => .stuck
    | none => .stuck
  | _ => .stuck
theorem ds_aug {i : Nat} {x : Str} {px : Pos} {o : Operator} {r : R2} {op : D → D → Option D} {f : Ev Opd} (ho : PIp X o r) (hop : Op2 (Cx.g X) r op) (nd : X.N.Nodup) (h : DO X B W e f)
    (hi : X.N[i]? = some x := by rfl) (hx : Loc X.env.scope x := by first | exact .inl rfl | exact .inr rfl) (hf : X.fn x = true ∨ X.env.scope.names.lookup x = some .local := by first | exact .inl rfl | exact .inr rfl) :
    DS X B W (.AugAssign (.Name x px) o e pos) (sAug i op f) :=
  ps_imp (ps_aug nd hi hx h ho hf) fun D σ H ⟨F, S, st, o, q⟩ => by
    unfold sAug at q
    split at q
    · rename_i d hd
      obtain ⟨v, e1, rv⟩ := o.sl i _ hd
      refine ⟨v, e1, F, S, st, o, (Post.out (R := RO (Cx.g X) σ) q).mono fun y H1 ⟨F1, d1, S1, st1, g1, o1, r1, p1⟩ => ?_⟩
      split at p1
      · rename_i y' hy
        split at p1
        · rename_i z hz
          exact hop F1 H1 v y d y' z o1.fH (.inl (rv.mono g1.1)) (o1.vw r1 hy) hz _ fun v' H' F' k f gr rr => p1 _ H' F' (o1.gr gr) ((o1.grow gr k f).set i rr)
        · exact p1.elim
      · exact p1.elim
    · exact q.elim

/-! ### what is walked -/
def Walks (G : Gx) (J : It) (F : Hp) (ds : List D) : Prop := ∀ F' H', Same F F' → Same F' H' → ∀ i, (i < ds.length → J.go i H') ∧ (ds.length ≤ i → J.stop i H') ∧
  ∀ d, ds[i]? = some d → ∀ x H2, J.yld i H' x H2 → ∃ F2, Same H' H2 ∧ Same F2 H2 ∧ Gr H' F' F2 ∧ Rp G F2 x d
def RW (G : Gx) : L2.St → Hp → It → List D → Prop := fun _ F J ds => Walks G J F ds
def DI (X : Cx) (B : Hp) (W : WX) (tg iter : Expr) (f : Ev (List D)) : Prop := PI X tg iter (lift (Cx.g X) B W (RW (Cx.g X)) f)
theorem pi_imp {X : Cx} {tg iter : Expr} {t t' : TI} (h : PI X tg iter t) (i : ∀ σ H R, t' σ H R → t σ H R) : PI X tg iter t' := ⟨fun pins s σ H R I q => h.run pins s σ H R I (i σ H R q)⟩
def forL (g : Tg) (body : EvS) : List D → EvS
  | [], S, st => .nx S st
  | d :: r, S, st => match g d S with
    | some S1 => match body S1 st with
      | .nx S2 st2 => forL g body r S2 st2
      | .ct S2 st2 => forL g body r S2 st2
      | .rto w S2 st2 => .rto w S2 st2
      | .bk S2 st2 => .nx S2 st2
      | .ret v S2 st2 => .ret v S2 st2
      | .exc x S2 st2 => .exc x S2 st2
      | .stuck => .stuck
    | none => .stuck
def sF (f : Ev (List D)) (g : Tg) (body : EvS) : EvS := fun S st => (f S st).out fun ds S st => forL g body ds S st
theorem ds_f {tg iter : Expr} {body : List Stmt} {f : Ev (List D)} {g : Tg} {fb : EvS} (hp : PassesOwn (model X.prog X.w) X.A X.env X.xe) (hc : X.calm = true) (hi : DI X B W tg iter f) (hg : DG X B tg g) (hb : DSs X B W body fb)
    (hs : ∀ x, foldedSetIterable iter X.env x = pure x := by intro _; rfl) : DS X B W (.For tg iter body [] pos) (sF f g fb) :=
  ps_imp (ps_for hp hc hi hg hb hs) fun D σ H ⟨F, S, st, o, q⟩ => ⟨F, S, st, o, (Post.out (R := RW (Cx.g X) σ) q).mono fun J H1 ⟨F1, ds, S1, st1, g1, o1, r1, p1⟩ => by
    refine ⟨fun i m σ H => i ≤ ds.length ∧ m = ds.length - i ∧ ∃ F' S' st', Gr B F1 F' ∧ Ok (Cx.g X) B F' σ H S' ∧ PostS (Cx.g X) B W F' D (forL g fb (ds.drop i) S' st'), ⟨ds.length, Nat.zero_le _, by simp, F1, S1, st1, .refl, o1, by simpa using p1⟩, ?_⟩
    rintro i m σ2 H2 ⟨hi2, rfl, F2, S2, st2, g2, o2, p2⟩
    obtain ⟨wgo, wstop, wyld⟩ := r1 F2 H2 g2.1 o2.fH i
    by_cases hlt : i < ds.length
    · have hd : ds.drop i = ds[i] :: ds.drop (i + 1) := List.drop_eq_getElem_cons hlt
      rw [hd] at p2
      simp only [forL] at p2
      refine .inr ⟨wgo hlt, fun σ' H' => ∃ F' S' st', Gr B F1 F' ∧ Ok (Cx.g X) B F' σ' H' S' ∧ PostS (Cx.g X) B W F' D (forL g fb (ds.drop (i + 1)) S' st'), fun σ' H' ⟨F', S', st', a, b, c⟩ => ⟨ds.length - (i + 1), by omega, hlt, rfl, F', S', st', a, b, c⟩, fun x H' hy => ?_⟩
      obtain ⟨F3, k3, f3, gr3, rx⟩ := wyld _ (List.getElem?_eq_getElem hlt) x H' hy
      split at p2
      · rename_i S3 hS3
        refine ⟨F3, S2, ds[i], S3, o2.grow gr3 k3 f3, rx, hS3, fun σ4 H4 F4 g4 o4 => ⟨F4, S3, st2, o4, ?_⟩⟩
        have gg : Gr B F2 F4 := (o2.gr gr3).trans g4
        revert p2
        generalize fb S3 st2 = r
        intro p2
        cases r with
        | nx S5 st5 => exact fun σ5 H5 F5 g5 o5 => ⟨F5, S5, st5, g2.trans (gg.trans g5), o5, PostS.grow (gg.trans g5) p2⟩
        | ct S5 st5 => exact fun σ5 H5 F5 g5 o5 => ⟨F5, S5, st5, g2.trans (gg.trans g5), o5, PostS.grow (gg.trans g5) p2⟩
        | rto w5 S5 st5 => exact fun p5 u5 σ5 H5 F5 g5 o5 => p2 p5 u5 σ5 H5 F5 (gg.trans g5) o5
        | bk S5 st5 => exact fun σ5 H5 F5 g5 o5 => p2 σ5 H5 F5 (gg.trans g5) o5
        | ret v S5 st5 => exact fun v' σ5 H5 F5 g5 o5 r5 => p2 v' σ5 H5 F5 (gg.trans g5) o5 r5
        | exc y S5 st5 => exact fun c' d' σ5 H5 F5 g5 o5 r5 => p2 c' d' σ5 H5 F5 (gg.trans g5) o5 r5
        | stuck => exact p2
      · exact p2.elim
    · have e : i = ds.length := by omega
      subst e
      rw [List.drop_length] at p2
      exact .inl ⟨wstop (Nat.le_refl _), p2 σ2 H2 F2 .refl o2⟩⟩

/-! ### while -/
/-- n turns at most -/
def whN (c : Ev Bool) (b : EvS) : Nat → EvS
  | 0, _, _ => .stuck
  | n + 1, S, st => (c S st).out fun k S st => if k = true then
      match b S st with
      | .nx S2 st2 => whN c b n S2 st2
      | .ct S2 st2 => whN c b n S2 st2
      | .rto w S2 st2 => .rto w S2 st2
      | .bk S2 st2 => .nx S2 st2
      | .ret v S2 st2 => .ret v S2 st2
      | .exc x S2 st2 => .exc x S2 st2
      | .stuck => .stuck
    else .nx S st
open Classical in
noncomputable def sW (c : Ev Bool) (b : EvS) : EvS := fun S st => if h : ∃ n, whN c b n S st ≠ .stuck then whN c b (Classical.choose h) S st else .stuck
theorem ds_w {body : List Stmt} {t : Ev Bool} {fb : EvS} (hp : PassesOwn (model X.prog X.w) X.A X.env X.xe) (ht : DT X B W c t) (hb : DSs X B W body fb) : DS X B W (.While c body [] pos) (sW t fb) :=
  ps_imp (ps_while hp ht hb) fun D σ H ⟨F, S, st, o, q⟩ => by
    unfold sW at q
    split at q
    · rename_i hex
      revert q
      generalize Classical.choose hex = n
      intro q
      refine ⟨fun m σ H => ∃ F S st, Ok (Cx.g X) B F σ H S ∧ PostS (Cx.g X) B W F D (whN t fb m S st), ⟨n, F, S, st, o, q⟩, ?_⟩
      rintro m σ2 H2 ⟨F2, S2, st2, o2, p2⟩
      cases m with
      | zero => exact p2.elim
      | succ m =>
        refine ⟨F2, S2, st2, o2, (Post.out (R := RB σ2) p2).mono fun k H3 ⟨F3, d, S3, st3, g3, o3, r3, p3⟩ => ?_⟩
        cases r3
        cases k with
        | false => exact p3 σ2 H3 F3 .refl o3
        | true =>
          refine iteT ⟨fun σ' H' => ∃ F S st, Ok (Cx.g X) B F σ' H' S ∧ PostS (Cx.g X) B W F D (whN t fb m S st), fun σ' H' h => ⟨m, Nat.lt_succ_self _, h⟩, F3, S3, st3, o3, ?_⟩
          simp only [if_true] at p3
          revert p3
          generalize fb S3 st3 = r
          intro p2
          cases r with
          | nx S5 st5 => exact fun σ5 H5 F5 g5 o5 => ⟨F5, S5, st5, o5, PostS.grow g5 p2⟩
          | ct S5 st5 => exact fun σ5 H5 F5 g5 o5 => ⟨F5, S5, st5, o5, PostS.grow g5 p2⟩
          | rto w5 S5 st5 => exact p2
          | bk S5 st5 => exact p2
          | ret v S5 st5 => exact p2
          | exc y S5 st5 => exact p2
          | stuck => exact p2
    · exact q.elim
end
/-- more turns don't harm -/
theorem whN_mono {c : Ev Bool} {b : EvS} : ∀ {n : Nat} {S : Sls} {st : Store}, whN c b n S st ≠ .stuck → ∀ m, n ≤ m → whN c b m S st = whN c b n S st
  | 0, _, _, h, _, _ => absurd rfl h
  | n + 1, S, st, h, m, hm => by
    obtain ⟨m, rfl⟩ : ∃ k, m = k + 1 := ⟨m - 1, by omega⟩
    simp only [whN] at h ⊢
    cases hc : c S st with
    | stuck => rfl
    | exc x S1 st1 => rfl
    | ok k S1 st1 =>
      rw [hc] at h
      simp only [Res.out_ok] at h ⊢
      cases k with
      | false => rfl
      | true =>
        simp only [if_true] at h ⊢
        cases hb : b S1 st1 with
        | nx S2 st2 => rw [hb] at h; exact whN_mono h m (by omega)
        | ct S2 st2 => rw [hb] at h; exact whN_mono h m (by omega)
        | _ => rfl
theorem sW_of {c : Ev Bool} {b : EvS} {n : Nat} {S : Sls} {st : Store} {r : Out} (h : whN c b n S st = r) (hr : r ≠ .stuck) : sW c b S st = r := by
  have hx : ∃ n, whN c b n S st ≠ .stuck := ⟨n, by rw [h]; exact hr⟩
  unfold sW
  rw [dif_pos hx]
  have h1 := Classical.choose_spec hx
  have h2 : whN c b n S st ≠ .stuck := by rw [h]; exact hr
  rw [← h, ← whN_mono h1 (max (Classical.choose hx) n) (Nat.le_max_left _ _), whN_mono h2 _ (Nat.le_max_right _ _)]
/-- one turn -/
theorem sW_eq (c : Ev Bool) (b : EvS) (S : Sls) (st : Store) : sW c b S st = (c S st).out fun k S st => if k = true then
      match b S st with
      | .nx S2 st2 => sW c b S2 st2
      | .ct S2 st2 => sW c b S2 st2
      | .rto w S2 st2 => .rto w S2 st2
      | .bk S2 st2 => .nx S2 st2
      | .ret v S2 st2 => .ret v S2 st2
      | .exc x S2 st2 => .exc x S2 st2
      | .stuck => .stuck
    else .nx S st := by
  by_cases hx : ∃ n, whN c b n S st ≠ .stuck
  · obtain ⟨n, hn⟩ := hx
    rw [sW_of rfl hn]
    cases n with
    | zero => exact absurd rfl hn
    | succ n =>
      simp only [whN] at hn ⊢
      cases hc : c S st with
      | stuck => rfl
      | exc x S1 st1 => rfl
      | ok k S1 st1 =>
        rw [hc] at hn
        simp only [Res.out_ok] at hn ⊢
        cases k with
        | false => rfl
        | true =>
          simp only [if_true] at hn ⊢
          cases hb : b S1 st1 with
          | nx S2 st2 => rw [hb] at hn; exact (sW_of rfl hn).symm
          | ct S2 st2 => rw [hb] at hn; exact (sW_of rfl hn).symm
          | _ => rfl
  · have hs : sW c b S st = .stuck := by unfold sW; rw [dif_neg hx]
    rw [hs]
    have all : ∀ n, whN c b n S st = .stuck := fun n => Classical.byContradiction fun z => hx ⟨n, z⟩
    cases hc : c S st with
    | stuck => rfl
    | exc x S1 st1 => have := all 1; simp only [whN, hc] at this; cases this
    | ok k S1 st1 =>
      simp only [Res.out_ok]
      cases k with
      | false => have := all 1; simp only [whN, hc, Res.out_ok] at this; cases this
      | true =>
        simp only [if_true]
        have st' : ∀ n, (match b S1 st1 with
          | .nx S2 st2 => whN c b n S2 st2
          | .ct S2 st2 => whN c b n S2 st2
          | .rto w S2 st2 => .rto w S2 st2
          | .bk S2 st2 => .nx S2 st2
          | .ret v S2 st2 => .ret v S2 st2
          | .exc x S2 st2 => .exc x S2 st2
          | .stuck => .stuck) = Out.stuck := fun n => by have := all (n + 1); simp only [whN, hc, Res.out_ok, if_true] at this; exact this
        cases hb : b S1 st1 with
        | nx S2 st2 =>
          rw [hb] at st'
          have : ¬ ∃ n, whN c b n S2 st2 ≠ .stuck := fun ⟨n, z⟩ => z (st' n)
          show Out.stuck = sW c b S2 st2
          unfold sW; rw [dif_neg this]
        | ct S2 st2 =>
          rw [hb] at st'
          have : ¬ ∃ n, whN c b n S2 st2 ≠ .stuck := fun ⟨n, z⟩ => z (st' n)
          show Out.stuck = sW c b S2 st2
          unfold sW; rw [dif_neg this]
        | bk S2 st2 => rw [hb] at st'; have := st' 0; cases this
        | ret v S2 st2 => rw [hb] at st'; have := st' 0; cases this
        | rto w S2 st2 => rw [hb] at st'; have := st' 0; cases this
        | exc x S2 st2 => rw [hb] at st'; have := st' 0; cases this
        | stuck => rfl
end DL

namespace DL
open PySem PySem.Spec PyProof.Rows L2

/-! ### list comprehensions -/
def wipeS (S : Sls) : List Nat → Sls
  | [] => S
  | v :: vs => (wipeS S vs).set v .no
theorem wipeS_length (S : Sls) : ∀ vs : List Nat, (wipeS S vs).length = S.length
  | [] => rfl
  | v :: vs => by unfold wipeS; rw [List.length_set, wipeS_length S vs]
section
variable {G : Gx} {B F H : Hp} {σ : L2.St} {S : Sls}
theorem Ok.wipe (o : Ok G B F σ H S) : ∀ vs : List Nat, Ok G B F (L2.wipe σ vs) H (wipeS S vs)
  | [] => o
  | v :: vs => (Ok.wipe o vs).any v none
theorem wipeS_no : ∀ {vs : List Nat} {S : Sls} {i : Nat}, i ∈ vs → ∀ s, (wipeS S vs)[i]? = some s → s = .no
  | v :: vs, S, i, h, s, e => by
    unfold wipeS at e
    by_cases hv : v = i
    · have hi := set_lt e hv
      subst hv
      rw [List.getElem?_set_self hi] at e
      cases e; rfl
    · rw [List.getElem?_set_ne hv] at e
      exact wipeS_no ((List.mem_cons.mp h).resolve_left fun z => hv z.symm) s e
/-- the block's end: its slots are not told of -/
theorem Ok.unwipe {vs : List Nat} (o : Ok G B F (L2.wipe σ vs) H S) (hS : ∀ i ∈ vs, ∀ s, S[i]? = some s → s = .no) : Ok G B F σ H S := by
  have get : ∀ (i : Nat) (p : V), i ∉ vs → (σ[i]? = some (some p) ↔ (L2.wipe σ vs)[i]? = some (some p)) := fun i p h => by rw [wipe_out h]
  refine ⟨o.fH, o.kp, by rw [← o.len, wipe_length], fun i s e => ?_, fun i j ds es p e1 e2 e3 e4 => ?_⟩
  · by_cases hi : i ∈ vs
    · rw [hS i hi s e]; trivial
    · have h := o.sl i s e
      rw [wipe_out hi] at h
      exact h
  · have h1 : i ∉ vs := fun z => by have := hS i z _ e1; cases this
    have h2 : j ∉ vs := fun z => by have := hS j z _ e2; cases this
    exact o.ap i j ds es p e1 e2 (by rw [wipe_out h1]; exact e3) (by rw [wipe_out h2]; exact e4)
/-- an object beside the state is kept -/
theorem Ok.pin (o : Ok G B F σ H S) {D : Addr} {u : HO} (hD : H D = some u) (hF : F D = none) (no : ∀ (j : Nat) (es : Ow), S[j]? = some (.own es) → σ[j]? ≠ some (some (.ref D))) : Ok G (upd B D u) F σ H S := by
  refine ⟨o.fH, fun b v q => ?_, o.len, fun i s e => ?_, o.ap⟩
  · by_cases z : b = D
    · subst z; rw [upd_same] at q; cases q; exact hD
    · rw [upd_ne z] at q; exact o.kp _ _ q
  · have h := o.sl i s e
    cases s with
    | no => trivial
    | d x => exact h
    | own w =>
      obtain ⟨p, u', e1, h1, h2, h3, r⟩ := h
      have : p ≠ D := fun z => no i _ e (by rw [e1, z])
      exact ⟨p, u', e1, h1, h2, by rw [upd_ne this]; exact h3, r⟩
theorem Ok.unpin {D : Addr} {u u' : HO} (o : Ok G (upd B D u) F σ H S) (hB : B D = none) (hF : F D = none) : Ok G B F σ (upd H D u') S ∧ ∀ (j : Nat) (es : Ow), S[j]? = some (.own es) → σ[j]? ≠ some (some (.ref D)) := by
  have hD : H D = some u := o.kp D u upd_same
  have no : ∀ (j : Nat) (es : Ow), S[j]? = some (.own es) → σ[j]? ≠ some (some (.ref D)) := fun j es e z => by
    obtain ⟨p, u', e1, h1, h2, h3, r⟩ := o.sl j _ e
    rw [z] at e1; cases e1
    rw [upd_same] at h3; cases h3
  refine ⟨⟨fun b v q => ?_, fun b v q => ?_, o.len, fun i s e => ?_, o.ap⟩, no⟩
  · rw [upd_ne (ne_of_none q hF)]; exact o.fH _ _ q
  · have hb := ne_of_none q hB
    rw [upd_ne hb]; exact o.kp _ _ (by rw [upd_ne hb]; exact q)
  · have h := o.sl i s e
    cases s with
    | no => trivial
    | d x => exact h
    | own w =>
      obtain ⟨p, u', e1, h1, h2, h3, r⟩ := h
      have hp : p ≠ D := fun z => no i _ e (by rw [e1, z])
      rw [upd_ne hp] at h3
      exact ⟨p, u', e1, by rw [upd_ne hp]; exact h1, h2, h3, r⟩
theorem Gr.unpin {D : Addr} {u : HO} {F F' : Hp} (g : Gr (upd B D u) F F') (hB : B D = none) (hF : F D = none) : Gr B F F' ∧ F' D = none := by
  refine ⟨⟨g.1, fun a h h' => ?_⟩, ?_⟩
  · have := g.2 a h h'
    by_cases z : a = D
    · rw [z]; exact hB
    · rw [upd_ne z] at this; exact this
  · cases q : F' D with
    | none => rfl
    | some v =>
      have := g.2 D hF (by rw [q]; simp)
      rw [upd_same] at this; cases this
end
/-- the elements, one by one; own: the block's slots -/
def lcL (g : Tg) (own : List Nat) (t : Ev Bool) (f : Ev D) : List D → Ev (List D)
  | [], S, st => .ok [] S st
  | d :: r, S, st => match g d S with
    | some S1 => (t S1 st).calm.bind fun b S2 st2 => if b = true then
        (f S2 st2).calm.bind fun y S3 st3 => (lcL g own t f r (wipeS S3 own) st3).bind fun ys S4 st4 => .ok (y :: ys) S4 st4
      else lcL g own t f r (wipeS S2 own) st2
    | none => .stuck
def tY : Ev Bool := fun S st => .ok true S st
/-- behind the block: what stood in its slots ahead of it -/
def restS (S0 : List Sl) : List Nat → List Sl → List Sl
  | [], S => S
  | i :: r, S => match S0[i]? with
    | some (.d x) => restS S0 r (S.set i (.d x))
    | _ => restS S0 r S
theorem Ok.put {G : Gx} {B F H : Hp} {σ : L2.St} {S : List Sl} (o : Ok G B F σ H S) {i : Nat} {v : V} {x : D} (e : σ[i]? = some (some v)) (r : Rp G F v x) : Ok G B F σ H (S.set i (.d x)) := by
  have := o.set i r
  rwa [show σ.set i (some v) = σ from by
    obtain ⟨h1, h2⟩ := List.getElem?_eq_some_iff.mp e
    rw [← h2, List.set_getElem_self]] at this
theorem Ok.rest {G : Gx} {B F F' H H' : Hp} {σ : L2.St} {S0 : List Sl} (o0 : Ok G B F σ H S0) (e : Same F F') : ∀ (own : List Nat) (S : List Sl), Ok G B F' σ H' S → Ok G B F' σ H' (restS S0 own S)
  | [], S, o => o
  | i :: r, S, o => by
    unfold restS
    split
    · rename_i x hx
      obtain ⟨v, e1, rv⟩ := o0.sl i _ hx
      exact Ok.rest o0 e r _ (o.put e1 (rv.mono e))
    · exact Ok.rest o0 e r S o
theorem restS_own {S0 : List Sl} : ∀ (own : List Nat) (S : List Sl) (j : Nat) (w : Ow), (restS S0 own S)[j]? = some (.own w) → S[j]? = some (.own w)
  | [], _, _, _, h => h
  | i :: r, S, j, w, h => by
    unfold restS at h
    split at h
    · have := restS_own r _ j w h
      by_cases hj : i = j
      · have hi := set_lt this hj
        subst hj
        rw [List.getElem?_set_self hi] at this; cases this
      · rw [List.getElem?_set_ne hj] at this; exact this
    · exact restS_own r S j w h
def lcF (fi : Ev (List D)) (g : Tg) (own : List Nat) (t : Ev Bool) (f : Ev D) : Ev Ow := fun S st => (fi S st).bind fun ds S st =>
  (lcL g own t f ds (wipeS S own) st).bind fun ys S' st => if ys.length ≤ 16777216 then .ok (.l ys) (restS S own S') st else .stuck
abbrev bX (X : Cx) (s : Shared) (H : Hp) (scope : Scope) (cl : List (Str × Addr)) (C : Addr) (fp : List Addr) : Cx := X.blk s H scope (compEnvC scope cl C X.env) fp
def DTs (X : Cx) (B : Hp) (W : WX) (es : List Expr) (f : Ev Bool) : Prop := PTs X es (lift (Cx.g X) B W RB f)
theorem pts_imp {X : Cx} {es : List Expr} {t t' : TT} (h : PTs X es t) (i : ∀ σ H Q, t' σ H Q → t σ H Q) : PTs X es t' := ⟨fun pins s σ H Q I q => h.run pins s σ H Q I (i σ H Q q)⟩
theorem dts_n {X : Cx} {B : Hp} {W : WX} : DTs X B W [] tY := pts_imp pts_nil fun σ H Q ⟨F, S, st, o, q⟩ => q true H F .refl o rfl
theorem dts_1 {X : Cx} {B : Hp} {W : WX} {e : Expr} {f : Ev Bool} (h : DT X B W e f) : DTs X B W [e] f := pts_one h
theorem calm_exc {α : Type} {r : Res α} {x : Exc} {S : Sls} {st : Store} (h : r.calm = .exc x S st) : False := by
  cases r <;> cases h
theorem lcL_noexc {g : Tg} {own : List Nat} {t : Ev Bool} {f : Ev D} : ∀ {ds : List D} {S : Sls} {st : Store} {x : Exc} {S' : Sls} {st' : Store}, lcL g own t f ds S st = .exc x S' st' → False
  | [], _, _, _, _, _, h => by cases h
  | d :: r, S, st, x, S', st', h => by
    simp only [lcL] at h
    split at h
    · rename_i S1 _
      cases ht : (t S1 st).calm with
      | exc _ _ _ => exact calm_exc ht
      | stuck => rw [ht] at h; cases h
      | ok b S2 st2 =>
        rw [ht, Res.bind_ok] at h
        split at h
        · cases hf : (f S2 st2).calm with
          | exc _ _ _ => exact calm_exc hf
          | stuck => rw [hf] at h; cases h
          | ok y S3 st3 =>
            rw [hf, Res.bind_ok] at h
            cases hl : lcL g own t f r (wipeS S3 own) st3 with
            | ok ys S4 st4 => rw [hl] at h; cases h
            | stuck => rw [hl] at h; cases h
            | exc x2 S4 st4 => exact lcL_noexc hl
        · exact lcL_noexc h
    · cases h
theorem lc_lift {X : Cx} {B : Hp} {W : WX} {fi : Ev (List D)} {g : Tg} {own : List Nat} {t : Ev Bool} {f : Ev D} {gV : TG} {tt : TT} {te : TE}
    (ht : ∀ B σ H Q, lift (Cx.g X) B W0 RB t σ H Q → tt σ H Q) (he : ∀ B σ H Q, lift (Cx.g X) B W0 (RD (Cx.g X)) f σ H Q → te σ H Q)
    (hgB : ∀ B' v σ H Q, liftG (Cx.g X) B' g v σ H Q → ∀ Q', (∀ σ' H', Q σ' H' → wipe σ' own = wipe σ own → Q' σ' H') → gV v σ H Q')
    {σ : L2.St} {H : Hp} {Q : VK} (q : liftF (Cx.g X) B W (lcF fi g own t f) σ H Q) : tLc (lift (Cx.g X) B W (RW (Cx.g X)) fi) gV tt te own σ H Q := by
  obtain ⟨F, S, st, o, q⟩ := q
  refine ⟨F, S, st, o, (PostF.bind (R := RW (Cx.g X) σ) q).mono fun J H1 ⟨F1, ds, S1, st1, g1, o1, r1, p1⟩ Da hD => ?_⟩
  -- what is left to do, and what it comes to
  let Tot : List D → Res (List D) → Prop := fun acc r => PostF (Cx.g X) B W σ F1 Q (r.bind fun ys S st => if (acc ++ ys).length ≤ 16777216 then .ok (.l (acc ++ ys)) (restS S1 own S) st else .stuck)
  let Wv : Nat → Nat → Hp → Prop := fun i m H' => i ≤ ds.length ∧ m = ds.length - i ∧ ∃ acc xs F' S' st', Gr B F1 F' ∧ Ok (Cx.g X) B F' (wipe σ own) H' S' ∧ (∀ i ∈ own, ∀ s, S'[i]? = some s → s = .no) ∧
    H' Da = some (.lst xs) ∧ RpAll (Cx.g X) F' xs acc ∧ F' Da = none ∧ B Da = none ∧ (∀ (j : Nat) (es : Ow), S'[j]? = some (.own es) → (wipe σ own)[j]? ≠ some (some (.ref Da))) ∧ Tot acc (lcL g own t f (ds.drop i) S' st')
  have hF1 : F1 Da = none := o1.fH.free hD
  have hBD : B Da = none := o1.kp.free hD
  refine ⟨Wv, ⟨ds.length, Nat.zero_le _, by simp, [], [], F1, wipeS S1 own, st1, .refl, ?_, fun i hi s e => wipeS_no hi s e, upd_same, .nil, hF1, hBD, ?_, by simpa [Tot] using p1⟩, ?_⟩
  · exact (o1.wipe own).junk (same_new hD)
  · intro j es e1 e2
    obtain ⟨p', xs', e3, h1, _⟩ := (o1.wipe own).sl j _ e1
    rw [e2] at e3; cases e3
    rw [hD] at h1; cases h1
  rintro i m H2 ⟨hi2, rfl, acc, xs, F2, S2, st2, g2, o2, n2, d2, ra, f2, b2, no2, p2⟩
  obtain ⟨wgo, wstop, wyld⟩ := r1 F2 H2 g2.1 o2.fH i
  by_cases hlt : i < ds.length
  · have hd : ds.drop i = ds[i] :: ds.drop (i + 1) := List.drop_eq_getElem_cons hlt
    rw [hd] at p2
    simp only [lcL, Tot] at p2
    refine .inr ⟨wgo hlt, fun H' => Wv (i + 1) (ds.length - (i + 1)) H', fun H' h => ⟨ds.length - (i + 1), by omega, h⟩, fun x H3 hy => ?_⟩
    obtain ⟨F3, k3, f3, gr3, rx⟩ := wyld _ (List.getElem?_eq_getElem hlt) x H3 hy
    split at p2
    · rename_i S3 hS3
      have o3 := (o2.grow gr3 k3 f3).pin (k3 _ _ d2) (by
        cases z : F3 Da with
        | none => rfl
        | some v =>
          have := gr3.2 Da f2 (by rw [z]; simp)
          rw [d2] at this; cases this) no2
      have g23 : Gr B F2 F3 := o2.gr gr3
      have f3D : F3 Da = none := by
        cases z : F3 Da with
        | none => rfl
        | some v =>
          have := gr3.2 Da f2 (by rw [z]; simp)
          rw [d2] at this; cases this
      refine hgB (upd B Da (.lst xs)) x _ _ (fun σ4 H4 => ∃ F4, Gr (upd B Da (.lst xs)) F3 F4 ∧ Ok (Cx.g X) (upd B Da (.lst xs)) F4 σ4 H4 S3) ⟨F3, S2, ds[i], S3, o3, rx, hS3, fun σ' H' F' gg oo => ⟨F', gg, oo⟩⟩ _ fun σ4 H4 ⟨F4, g4, o4⟩ hw => ?_
      have hw' : wipe σ4 own = wipe σ own := by
        rw [hw]
        have : ∀ vs : List Nat, wipe (wipe σ vs) vs = wipe σ vs := fun vs => by
          refine List.ext_getElem? fun j => ?_
          by_cases hj : j ∈ vs
          · have e1 : ∀ τ : L2.St, (wipe τ vs)[j]? = (τ[j]?).map fun _ => none := fun τ => by
              cases q1 : (wipe τ vs)[j]? with
              | none =>
                have : τ[j]? = none := by
                  rw [List.getElem?_eq_none_iff] at q1 ⊢
                  rwa [wipe_length] at q1
                rw [this]; rfl
              | some y =>
                have hl : j < τ.length := by
                  have := (List.getElem?_eq_some_iff.mp q1).1
                  rwa [wipe_length] at this
                rw [List.getElem?_eq_getElem hl]
                cases y with
                | none => rfl
                | some y => exact absurd hj (wipe_some q1).2
            rw [e1, e1]
            cases σ[j]? <;> rfl
          · rw [wipe_out hj]
        exact this own
      refine ⟨hw', ?_⟩
      -- the test
      refine ht (upd B Da (.lst xs)) σ4 H4 _ ⟨F4, S3, st2, o4, ?_⟩
      revert p2
      generalize t S3 st2 = r
      intro p2
      cases r with
      | stuck => exact p2
      | exc y S5 st5 => exact p2.elim
      | ok bb S5 st5 =>
        simp only [Res.calm_ok, Res.bind_ok] at p2
        intro b H5 F5 g5 o5 e5
        cases e5
        obtain ⟨g4', f4⟩ := g4.unpin hBD f3D
        obtain ⟨g5', f5⟩ := g5.unpin hBD f4
        have gAll : Gr B F2 F5 := g23.trans (g4'.trans g5')
        cases bb with
        | false =>
          refine (if_neg Bool.false_ne_true).mpr ?_
          simp only [Bool.false_eq_true, if_false] at p2
          have h5D : H5 Da = some (.lst xs) := o5.kp Da _ upd_same
          obtain ⟨o6, no6⟩ := Ok.unpin (u' := .lst xs) o5 hBD f5
          have e6 : upd H5 Da (.lst xs) = H5 := by
            funext b; by_cases z : b = Da
            · subst z; rw [upd_same, h5D]
            · rw [upd_ne z]
          rw [e6] at o6
          have o7 := o6.wipe own
          rw [hw'] at o7
          refine ⟨hlt, rfl, acc, xs, F5, wipeS S5 own, st5, g2.trans gAll, o7, fun i hi s e => wipeS_no hi s e, h5D, ra.mono gAll.1, f5, hBD, fun j es e1 e2 => ?_, p2⟩
          obtain ⟨p', u', e3, h1, _, h3, _⟩ := (o5.wipe own).sl j _ e1
          rw [hw', e2] at e3; cases e3
          rw [upd_same] at h3; cases h3
        | true =>
          refine (if_pos rfl).mpr ?_
          simp only [if_true] at p2
          refine he (upd B Da (.lst xs)) σ4 H5 _ ⟨F5, S5, st5, o5, ?_⟩
          revert p2
          generalize f S5 st5 = r2
          intro p2
          cases r2 with
          | stuck => exact p2
          | exc y S6 st6 => exact p2.elim
          | ok yy S6 st6 =>
            simp only [Res.calm_ok, Res.bind_ok] at p2
            intro y H6 F6 g6 o6 ry
            obtain ⟨g6', f6⟩ := g6.unpin hBD f5
            have gA : Gr B F2 F6 := gAll.trans g6'
            have h6D : H6 Da = some (.lst xs) := o6.kp Da _ upd_same
            obtain ⟨o7, no7⟩ := Ok.unpin (u' := .lst (xs ++ [y])) o6 hBD f6
            have o8 := o7.wipe own
            rw [hw'] at o8
            have p3 : Tot (acc ++ [yy]) (lcL g own t f (ds.drop (i + 1)) (wipeS S6 own) st6) := by
              show PostF _ _ _ _ _ _ _
              revert p2
              generalize lcL g own t f (ds.drop (i + 1)) (wipeS S6 own) st6 = r3
              intro p2
              cases r3 with
              | ok ys S7 st7 => simpa using p2
              | exc _ _ _ => exact p2
              | stuck => exact p2
            have hlen : acc.length < 16777216 := by
              have p4 := p3
              simp only [Tot] at p4
              revert p4
              generalize h3 : lcL g own t f (ds.drop (i + 1)) (wipeS S6 own) st6 = r3
              intro p4
              cases r3 with
              | ok ys S7 st7 =>
                simp only [Res.bind_ok] at p4
                split at p4
                · rename_i hh
                  simp at hh; omega
                · exact p4.elim
              | exc x' S' st' =>
                exfalso
                exact lcL_noexc h3
              | stuck => exact p4.elim
            refine ⟨xs, h6D, by rw [ra.length, sizeLine_eq]; exact hlen, hlt, rfl, acc ++ [yy], xs ++ [y], F6, wipeS S6 own, st6, g2.trans gA, o8, fun i hi s e => wipeS_no hi s e, upd_same, (ra.mono gA.1).append (.one ry), f6, hBD, fun j es e1 e2 => ?_, p3⟩
            obtain ⟨p', u', e3, h1, _, h3, _⟩ := (o6.wipe own).sl j _ e1
            rw [hw', e2] at e3; cases e3
            rw [upd_same] at h3; cases h3
    · exact p2.elim
  · have e : i = ds.length := by omega
    subst e
    rw [List.drop_length] at p2
    simp only [lcL, Tot, Res.bind_ok, List.append_nil] at p2
    refine .inl ⟨wstop (Nat.le_refl _), ?_⟩
    split at p2
    · have oo := o2.unwipe n2
      refine p2 Da (.lst xs) H2 F2 g2 (o1.rest g2.1 own S2 oo) d2 f2 hBD (.l ra) fun j es e1 e2 => ?_
      replace e1 := restS_own own S2 j es e1
      have hj : j ∉ own := fun z => by have := n2 j z _ e1; cases this
      exact no2 j es e1 (by rw [wipe_out hj]; exact e2)
    · exact p2.elim
end DL

namespace DL
open PySem PySem.Spec PyProof.Rows L2

/-! ### a block's targets -/
def TgB (G : Gx) (own : List Nat) (g : Tg) (gv : TG) : Prop := ∀ B v σ H Q, liftG G B g v σ H Q → ∀ Q', (∀ σ' H', Q σ' H' → wipe σ' own = wipe σ own → Q' σ' H') → gv v σ H Q'
def TgsB (G : Gx) (own : List Nat) (g : List D → Sls → Option Sls) (gv : TGs) : Prop := ∀ B v σ H Q, liftGs G B g v σ H Q → ∀ Q', (∀ σ' H', Q σ' H' → wipe σ' own = wipe σ own → Q' σ' H') → gv v σ H Q'
theorem wipe_set {i : Nat} {x : Option V} : ∀ {own : List Nat} {σ : L2.St}, i ∈ own → wipe (σ.set i x) own = wipe σ own
  | v :: vs, σ, h => by
    unfold wipe
    by_cases hv : i ∈ vs
    · rw [wipe_set hv]
    · have e : i = v := (List.mem_cons.mp h).resolve_right hv
      subst e
      have : ∀ {vs : List Nat} {σ : L2.St}, i ∉ vs → wipe (σ.set i x) vs = (wipe σ vs).set i x := by
        intro vs
        induction vs with
        | nil => intro σ _; rfl
        | cons w ws ih =>
          intro σ h
          have h1 : i ≠ w := fun z => h (by rw [z]; exact List.mem_cons_self ..)
          have h2 : i ∉ ws := fun z => h (List.mem_cons_of_mem _ z)
          unfold wipe
          rw [ih h2, List.set_comm _ _ h1]
      rw [this hv, List.set_set]
theorem tgB_v {G : Gx} {own : List Nat} {i : Nat} (h : i ∈ own) : TgB G own (gV i) (gName i) := fun B v σ H Q ⟨F, S, d, S', o, r, e, q⟩ Q' k => by
  cases e
  exact k _ H (q _ H F .refl (o.set i r)) (wipe_set h)
theorem tgsB_n {G : Gx} {own : List Nat} : TgsB G own gN gNil := fun B v σ H Q ⟨F, S, ds, S', o, r, e, q⟩ Q' k => by
  cases r with
  | nil => cases e; exact ⟨rfl, k _ H (q σ H F .refl o) rfl⟩
  | cons _ _ => cases e
theorem tgsB_c {G : Gx} {own : List Nat} {g : Tg} {gv : TG} {gs : List D → Sls → Option Sls} {gvs : TGs} (h : TgB G own g gv) (t : TgsB G own gs gvs) : TgsB G own (gC g gs) (gCons gv gvs) := fun B vs σ H Q ⟨F, S, ds, S', o, r, e, q⟩ Q' k => by
  cases r with
  | nil => cases e
  | cons r1 r2 =>
    unfold gC at e
    simp only at e
    split at e
    · rename_i S1 hS1
      refine ⟨_, _, rfl, h B _ σ H (fun σ' H' => ∃ F', Gr B F F' ∧ Ok G B F' σ' H' S1) ⟨F, S, _, S1, o, r1, hS1, fun σ' H' F' g o' => ⟨F', g, o'⟩⟩ _ fun σ1 H1 ⟨F1, g1, o1⟩ w1 => ?_⟩
      refine t B _ σ1 H1 Q ⟨F1, S1, _, S', o1, r2.mono g1.1, e, fun σ2 H2 F2 g2 o2 => q σ2 H2 F2 (g1.trans g2) o2⟩ _ fun σ2 H2 q2 w2 => k σ2 H2 q2 (w2.trans w1)
    · cases e
theorem tgB_t {G : Gx} {own : List Nat} {n : Nat} {gs : List D → Sls → Option Sls} {gvs : TGs} (h : TgsB G own gs gvs) : TgB G own (gT n gs) (gTup G.K n gvs) := fun B v σ H Q ⟨F, S, d, S', o, r, e, q⟩ Q' k => by
  unfold gT at e
  split at e
  · split at e
    · rename_i hl
      cases r with
      | tup h1 h2 =>
        exact ⟨_, _, rfl, same_seqT o.fH h1, by rw [h2.length]; exact hl, h B _ σ H Q ⟨F, S, _, S', o, h2, e, q⟩ Q' k⟩
    · cases e
  · cases e
section
variable {X : Cx} {B : Hp} {W : WX} {e a b c : Expr} {es : List Expr} {s : Stmt} {ss : List Stmt} {pos : Pos}
theorem lc_parts {elt : Expr} {ifs : List Expr} {scope : Scope} {t : Ev Bool} {f : Ev D}
    (ht : ∀ (B : Hp) (s : Shared) (H : Hp) (cl : List (Str × Addr)) (C : Addr) (fp : List Addr), DTs (bX X s H scope cl C fp) B W0 ifs t) (he : ∀ (B : Hp) (s : Shared) (H : Hp) (cl : List (Str × Addr)) (C : Addr) (fp : List Addr), DE (bX X s H scope cl C fp) B W0 elt f) :
    (∀ (s : Shared) (H : Hp) (C : Addr) (cl : List (Str × Addr)) (fp : List Addr), PTs (X.blk s H scope (compEnvC scope cl C X.env) fp) ifs (fun σ H Q => ∃ B, lift (Cx.g X) B W0 RB t σ H Q)) ∧
    (∀ (s : Shared) (H : Hp) (C : Addr) (cl : List (Str × Addr)) (fp : List Addr), PE (X.blk s H scope (compEnvC scope cl C X.env) fp) elt (fun σ H Q => ∃ B, lift (Cx.g X) B W0 (RD (Cx.g X)) f σ H Q)) :=
  ⟨fun s H C cl fp => ⟨fun pins s' σ H' Q I ⟨B, q⟩ => (ht B s H cl C fp).run pins s' σ H' Q I q⟩, fun s H C cl fp => ⟨fun pins s' σ H' Q I ⟨B, q⟩ => (he B s H cl C fp).run pins s' σ H' Q I q⟩⟩
theorem df_lc {elt tg iter : Expr} {ifs : List Expr} {scope : Scope} (own : List (Str × Nat)) {fi : Ev (List D)} {g : Tg} {gv : TG} {t : Ev Bool} {f : Ev D} (hc : X.calm = true) (nd : X.N.Nodup) (ok : BlkOk X.N X.env.scope scope own) (hi : DI X B W tg iter fi) (hgv : TgB (Cx.g X) (own.map (·.2)) g gv)
    (hg : ∀ (s : Shared) (H : Hp) (C : Addr) (cl : List (Str × Addr)) (fp : List Addr), PG (X.blk s H scope (compEnvC scope cl C X.env) fp) tg gv)
    (ht : ∀ (B : Hp) (s : Shared) (H : Hp) (cl : List (Str × Addr)) (C : Addr) (fp : List Addr), DTs (bX X s H scope cl C fp) B W0 ifs t) (he : ∀ (B : Hp) (s : Shared) (H : Hp) (cl : List (Str × Addr)) (C : Addr) (fp : List Addr), DE (bX X s H scope cl C fp) B W0 elt f)
    (hs : ∀ x, foldedSetIterable iter X.env x = pure x := by intro _; rfl) : DF X B W (.ListComp elt [⟨tg, iter, ifs, 0⟩] scope pos) (lcF fi g (own.map (·.2)) t f) :=
  pe_imp (pe_lc hc nd hi ok hg (lc_parts ht he).1 (lc_parts ht he).2 hs) fun σ H Q q => lc_lift (fun B σ H Q q => ⟨B, q⟩) (fun B σ H Q q => ⟨B, q⟩) (fun B v σ H Q q => hgv B v σ H Q q) q
/-- y = [..] on one line, y a local: kept -/
theorem ds_vlc {i : Nat} {y : Str} {py : Pos} {elt tg iter : Expr} {ifs : List Expr} {scope : Scope} {lpos : Pos} (own : List (Str × Nat)) {fi : Ev (List D)} {g : Tg} {gv : TG} {t : Ev Bool} {f : Ev D} (hc : X.calm = true) (nd : X.N.Nodup) (ok : BlkOk X.N X.env.scope scope own) (hi : DI X B W tg iter fi) (hgv : TgB (Cx.g X) (own.map (·.2)) g gv)
    (hg : ∀ (s : Shared) (H : Hp) (C : Addr) (cl : List (Str × Addr)) (fp : List Addr), PG (X.blk s H scope (compEnvC scope cl C X.env) fp) tg gv)
    (ht : ∀ (B : Hp) (s : Shared) (H : Hp) (cl : List (Str × Addr)) (C : Addr) (fp : List Addr), DTs (bX X s H scope cl C fp) B W0 ifs t) (he : ∀ (B : Hp) (s : Shared) (H : Hp) (cl : List (Str × Addr)) (C : Addr) (fp : List Addr), DE (bX X s H scope cl C fp) B W0 elt f)
    (hyl : X.env.scope.names.lookup y = some .local := by rfl) (hsw : swapsWith (.ListComp elt [⟨tg, iter, ifs, 0⟩] scope lpos) (some (.Name y py)) pos.line X.env = pure true := by exact sw_true rfl rfl rfl (by decide +kernel)) (hy : X.N[i]? = some y := by rfl)
    (hs : ∀ x, foldedSetIterable iter X.env x = pure x := by intro _; rfl) : DS X B W (.Assign [.Name y py] (.ListComp elt [⟨tg, iter, ifs, 0⟩] scope lpos) pos) (sV i (fE (lcF fi g (own.map (·.2)) t f))) :=
  ps_imp (ps_setLc hc nd hy hyl hsw hi ok hg (lc_parts ht he).1 (lc_parts ht he).2 hs) fun D σ H q => lc_lift (fun B σ H Q q => ⟨B, q⟩) (fun B σ H Q q => ⟨B, q⟩) (fun B v σ H Q q => hgv B v σ H Q q) (by
    obtain ⟨F, S, st, o, q⟩ := q
    refine ⟨F, S, st, o, postF_fE ?_⟩
    unfold sV fE at q
    generalize lcF fi g (own.map (·.2)) t f S st = r at q ⊢
    cases r with
    | ok w S1 st1 => exact fun v H' F' g o r => q _ H' F' g (o.set i r)
    | exc x S1 st1 => exact fun c d H' F' g o r => q c d σ H' F' g o r
    | stuck => exact q)
theorem ds_olc {i : Nat} {y : Str} {py : Pos} {elt tg iter : Expr} {ifs : List Expr} {scope : Scope} {lpos : Pos} (own : List (Str × Nat)) {fi : Ev (List D)} {g : Tg} {gv : TG} {t : Ev Bool} {f : Ev D} (hc : X.calm = true) (nd : X.N.Nodup) (ok : BlkOk X.N X.env.scope scope own) (hi : DI X B W tg iter fi) (hgv : TgB (Cx.g X) (own.map (·.2)) g gv)
    (hg : ∀ (s : Shared) (H : Hp) (C : Addr) (cl : List (Str × Addr)) (fp : List Addr), PG (X.blk s H scope (compEnvC scope cl C X.env) fp) tg gv)
    (ht : ∀ (B : Hp) (s : Shared) (H : Hp) (cl : List (Str × Addr)) (C : Addr) (fp : List Addr), DTs (bX X s H scope cl C fp) B W0 ifs t) (he : ∀ (B : Hp) (s : Shared) (H : Hp) (cl : List (Str × Addr)) (C : Addr) (fp : List Addr), DE (bX X s H scope cl C fp) B W0 elt f)
    (hyl : X.env.scope.names.lookup y = some .local := by rfl) (hsw : swapsWith (.ListComp elt [⟨tg, iter, ifs, 0⟩] scope lpos) (some (.Name y py)) pos.line X.env = pure true := by exact sw_true rfl rfl rfl (by decide +kernel)) (hy : X.N[i]? = some y := by rfl)
    (hs : ∀ x, foldedSetIterable iter X.env x = pure x := by intro _; rfl) : DS X B W (.Assign [.Name y py] (.ListComp elt [⟨tg, iter, ifs, 0⟩] scope lpos) pos) (sO i (lcF fi g (own.map (·.2)) t f)) :=
  ps_imp (ps_setLc hc nd hy hyl hsw hi ok hg (lc_parts ht he).1 (lc_parts ht he).2 hs) fun D σ H q => lc_lift (fun B σ H Q q => ⟨B, q⟩) (fun B σ H Q q => ⟨B, q⟩) (fun B v σ H Q q => hgv B v σ H Q q) (by
    obtain ⟨F, S, st, o, q⟩ := q
    exact ⟨F, S, st, o, postF_own q⟩)

/-! ### a, b = x, y -/
def sP (i j : Nat) (fa : Ev (List Opd)) : EvS := fun S st => (fa S st).out fun a S st => match vds S a with
  | some [x, y] => .nx ((S.set i (.d x)).set j (.d y)) st
  | _ => .stuck
theorem ds_p {i j : Nat} {x y : Str} {px py pt : Pos} {kt k2 pt2} {fa : Ev (List Opd)} (hc : X.calm = true) (nd : X.N.Nodup) (ha : DA X B W [a, b] fa) (hi : X.N[i]? = some x := by rfl) (hj : X.N[j]? = some y := by rfl) (hij : i ≠ j := by decide)
    (hx : X.env.scope.names.lookup x = some .local := by rfl) (hy : X.env.scope.names.lookup y = some .local := by rfl)
    (hw : swappedStores [.Tuple [.Name x px, .Name y py] kt pt] (.Tuple [a, b] k2 pt2) X.env = pure (some [x, y]) := by rfl)
    (hs : swapsWithSole [.Tuple [.Name x px, .Name y py] kt pt] (.Tuple [a, b] k2 pt2) pos.line X.env = pure false := by rfl) :
    DS X B W (.Assign [.Tuple [.Name x px, .Name y py] kt pt] (.Tuple [a, b] k2 pt2) pos) (sP i j fa) :=
  ps_imp (ps_par hc nd hi hj hij hx hy ha hw hs) fun D σ H ⟨F, S, st, o, q⟩ => ⟨F, S, st, o, (Post.out (R := RpO (Cx.g X) σ) q).mono fun vs H1 ⟨F1, d, S1, st1, g1, o1, r1, p1⟩ => by
    split at p1
    · rename_i x y hxy
      have ra := o1.vds r1 hxy
      cases ra with
      | cons ra rb =>
        cases rb with
        | cons rb rc =>
          cases rc
          exact ⟨_, _, rfl, p1 _ H1 F1 .refl ((o1.set i ra).set j rb)⟩
    · exact p1.elim⟩

/-! ### own lists, changed -/
/-- x.append(e) -/
def sAp (i : Nat) (f : Ev Opd) : EvS := fun S st => match S[i]? with
  | some (.own (.l _)) => (f S st).out fun o S st => match vd S o, S[i]? with
    | some d, some (.own (.l ds)) => if ds.length < 16777216 then .nx (S.set i (.own (.l (ds ++ [d])))) st else .stuck
    | _, _ => .stuck
  | _ => .stuck
theorem ds_ap {i : Nat} {f : Ev Opd} {apos pos' : Pos} (ho : PE X a (tVar i)) (h : DO X B W e f) (hs : swapsWith (.Call (.Attribute a "append" apos) [e] [] pos') none pos.line X.env = pure false := by rfl)
    (hbase : attributeBase a "append" X.env (eval a X.env) = eval a X.env := by rfl)
    (hfew : ((backTo pos' (starEach [e] X.env)).all (fun x => !x.1) && (backToKw pos' (keywordEach [] X.env)).all (fun x => x.1.isSome)
      && decide (([e] : List Expr).length + ([] : List Keyword).length + (if ([] : List Keyword).isEmpty then 0 else 1) < 30)) = true := by rfl)
    (hline : (apos.endLine == pos'.line) = true := by rfl) (hst : starEach [e] X.env = (false, eval e X.env) :: starEach [] X.env := by rfl) :
    DS X B W (.Expr (.Call (.Attribute a "append" apos) [e] [] pos') pos) (sAp i f) :=
  ps_imp (ps_expr (pe_bm PySem.F.plainAttrs_list PySem.F.slot_list_append PySem.F.type_list_append mt_append ho (pa_cons h pa_nil hst) hbase hfew hline hst) hs) fun D σ H ⟨F, S, st, o, q⟩ => by
    unfold sAp at q
    split at q
    · rename_i ds0 hS0
      obtain ⟨p, u, e1, h1, h2, h3, r⟩ := o.sl i _ hS0
      cases r with
      | l r =>
        refine ⟨_, e1, .inl ⟨rfl, _, .inl (.inl h1)⟩, F, S, st, o, (Post.out (R := RO (Cx.g X) σ) q).mono fun v H1 ⟨F1, o', S1, st1, g1, o1, r1, p1⟩ => ?_⟩
        split at p1
        · rename_i d ds hd hS1
          split at p1
          · rename_i hlen
            obtain ⟨p', u', e1', h1', h2', h3', r'⟩ := o1.sl i _ hS1
            rw [e1] at e1'; cases e1'
            cases r' with
            | l r' =>
              refine ⟨p, _, v, rfl, rfl, h1', by rw [r'.length, sizeLine_eq]; exact hlen, p1 σ _ F1 .refl (o1.chg hS1 e1 (.l (r'.append (.one (o1.vd r1 hd)))))⟩
          · exact p1.elim
        · exact p1.elim
    · exact q.elim
/-- x.extend(e), e a list that stays -/
def sEx (i : Nat) (f : Ev D) : EvS := fun S st => match S[i]? with
  | some (.own (.l _)) => (f S st).out fun d S st => match d, S[i]? with
    | .lst es, some (.own (.l ds)) => if ds.length + es.length ≤ 16777216 then .nx (S.set i (.own (.l (ds ++ es)))) st else .stuck
    | _, _ => .stuck
  | _ => .stuck
theorem ds_ex {i : Nat} {f : Ev D} {apos pos' : Pos} (ho : PE X a (tVar i)) (h : DE X B W e f) (hs : swapsWith (.Call (.Attribute a "extend" apos) [e] [] pos') none pos.line X.env = pure false := by rfl)
    (hbase : attributeBase a "extend" X.env (eval a X.env) = eval a X.env := by rfl)
    (hfew : ((backTo pos' (starEach [e] X.env)).all (fun x => !x.1) && (backToKw pos' (keywordEach [] X.env)).all (fun x => x.1.isSome)
      && decide (([e] : List Expr).length + ([] : List Keyword).length + (if ([] : List Keyword).isEmpty then 0 else 1) < 30)) = true := by rfl)
    (hline : (apos.endLine == pos'.line) = true := by rfl) (hst : starEach [e] X.env = (false, eval e X.env) :: starEach [] X.env := by rfl) :
    DS X B W (.Expr (.Call (.Attribute a "extend" apos) [e] [] pos') pos) (sEx i f) :=
  ps_imp (ps_expr (pe_bm PySem.F.plainAttrs_list PySem.F.slot_list_extend PySem.F.type_list_extend mt_extend ho (pa_cons h pa_nil hst) hbase hfew hline hst) hs) fun D σ H ⟨F, S, st, o, q⟩ => by
    unfold sEx at q
    split at q
    · rename_i ds0 hS0
      obtain ⟨p, u, e1, h1, h2, h3, r⟩ := o.sl i _ hS0
      cases r with
      | l r =>
        refine ⟨_, e1, .inl ⟨rfl, _, .inl (.inl h1)⟩, F, S, st, o, (Post.out (R := RD (Cx.g X) σ) q).mono fun v H1 ⟨F1, o', S1, st1, g1, o1, r1, p1⟩ => ?_⟩
        split at p1
        · rename_i es ds hS1
          split at p1
          · rename_i hlen
            obtain ⟨p', u', e1', h1', h2', h3', r'⟩ := o1.sl i _ hS1
            rw [e1] at e1'; cases e1'
            cases r' with
            | l r' =>
              cases r1 with
              | lst hb rb =>
                refine ⟨p, _, _, _, rfl, rfl, h1', o1.fH _ _ hb, by rw [r'.length, rb.length, sizeLine_eq]; exact hlen, p1 σ _ F1 .refl (o1.chg hS1 e1 (.l (r'.append rb)))⟩
          · exact p1.elim
        · exact p1.elim
    · exact q.elim
/-- x.pop(), as a value -/
def ePop (i : Nat) : Ev D := fun S st => match S[i]? with
  | some (.own (.l ds)) => match ds.getLast? with
    | some d => .ok d (S.set i (.own (.l ds.dropLast))) st
    | none => .stuck
  | _ => .stuck
theorem RpAll.dropLast {G : Gx} {F : Hp} {vs : List V} {ds : List D} (r : RpAll G F vs ds) : RpAll G F vs.dropLast ds.dropLast := by
  rw [List.dropLast_eq_take, List.dropLast_eq_take, r.length]
  exact r.take _
theorem de_pop {i : Nat} {apos : Pos} (ho : PE X a (tVar i)) (hbase : attributeBase a "pop" X.env (eval a X.env) = eval a X.env := by rfl) (hline : (apos.endLine == pos.line) = true := by rfl) :
    DE X B W (.Call (.Attribute a "pop" apos) [] [] pos) (ePop i) :=
  pe_imp (pe_bm0 PySem.F.plainAttrs_list PySem.F.slot_list_pop PySem.F.type_list_pop mt_pop ho hbase hline) fun σ H Q ⟨F, S, st, o, q⟩ => by
    unfold ePop at q
    split at q
    · rename_i ds0 hS0
      obtain ⟨p, u, e1, h1, h2, h3, r⟩ := o.sl i _ hS0
      cases r with
      | l r =>
        split at q
        · rename_i d hd
          rw [List.getLast?_eq_getElem?] at hd
          obtain ⟨y, hy, ry⟩ := r.get hd
          refine ⟨_, e1, .inl ⟨rfl, _, .inl (.inl h1)⟩, p, _, y, rfl, rfl, h1, by rw [r.length]; exact hy, q _ _ F .refl (o.chg hS0 e1 (.l r.dropLast)) ry⟩
        · exact q.elim
    · exact q.elim
/-- x[j] = e -/
def sSet (i : Nat) (fv : Ev D) (fj : Ev D) : EvS := fun S st => (fv S st).out fun d S st => match S[i]? with
  | some (.own (.l _)) => (fj S st).out fun j S st => match j, S[i]? with
    | .int k, some (.own (.l ds)) => match ixN ds.length k with
      | some j => .nx (S.set i (.own (.l (ds.set j d)))) st
      | none => .stuck
    | _, _ => .stuck
  | _ => .stuck
theorem ds_set {i : Nat} {fv fj : Ev D} {tpos : Pos} (ho : PE X a (tVar i)) (hj : DE X B W b fj) (hv : DE X B W e fv) (hs : swapsWithSole [.Subscript a b tpos] e pos.line X.env = pure false := by rfl) (hw : swappedStores [.Subscript a b tpos] e X.env = pure none := by rfl)
    (h1 : (assignEach [.Subscript a b tpos] X.env).map (·.2) = [assign (.Subscript a b tpos) X.env] := by rfl)
    (ha : ∀ v, assign (.Subscript a b tpos) X.env v = (do
      let ov ← holding [v] (eval a X.env)
      let iv ← holding [v, ov] (eval b X.env)
      standAt tpos
      holding [v, ov, iv] (setItem ov iv v)
      release [v, ov, iv] []) := by intro _; rfl) : DS X B W (.Assign [.Subscript a b tpos] e pos) (sSet i fv fj) :=
  ps_imp (ps_asg hv (pg_sub ho hj set_list ha) hs hw h1) fun D σ H ⟨F, S, st, o, q⟩ => ⟨F, S, st, o, (Post.out (R := RD (Cx.g X) σ) q).mono fun v H1 ⟨F1, d, S1, st1, g1, o1, r1, p1⟩ => by
    split at p1
    · rename_i ds0 hS0
      obtain ⟨p, u, e1, h1, h2, h3, r⟩ := o1.sl i _ hS0
      refine ⟨_, e1, F1, S1, st1, o1, (Post.out (R := RD (Cx.g X) σ) p1).mono fun jv H2 ⟨F2, jd, S2, st2, g2, o2, r2, p2⟩ => ?_⟩
      split at p2
      · rename_i k ds hS2
        split at p2
        · rename_i j hj
          obtain ⟨p', u', e1', h1', h2', h3', r'⟩ := o2.sl i _ hS2
          rw [e1] at e1'; cases e1'
          cases r' with
          | l r' =>
            cases r2
            refine ⟨p, _, k, j, rfl, rfl, h1', by rw [r'.length]; exact hj, p2 σ _ F2 .refl (o2.chg hS2 e1 (.l (r'.set j (r1.mono g2.1))))⟩
        · exact p2.elim
      · exact p2.elim
    · exact p1.elim⟩
end
/-! ### defs -/
def runB (N : Nat) (b : EvS) : CallT := fun ds st => match b (ds.map Sl.d ++ List.replicate (N - ds.length) .no) st with
  | .nx _ st => .ok .non [] st
  | .ret d _ st => .ok d [] st
  | .exc x _ st => .exc x [] st
  | _ => .stuck
theorem Ok.start {G : Gx} {F H : Hp} {N : List Str} {vs : List V} {ds : List D} (f : Same F H) (r : RpAll G F vs ds) (hl : vs.length ≤ N.length) : Ok G H F (start N vs) H (ds.map Sl.d ++ List.replicate (N.length - ds.length) .no) := by
  have rl := r.length
  refine ⟨f, Same.refl H, by simp [L2.start, rl], fun i s e => ?_, fun i j a b p e1 e2 e3 e4 => ?_⟩
  · by_cases hi : i < ds.length
    · rw [List.getElem?_append_left (by simpa using hi), List.getElem?_map] at e
      cases q : ds[i]? with
      | none => rw [q] at e; cases e
      | some d =>
        rw [q] at e; cases e
        obtain ⟨v, hv, rv⟩ := r.get q
        refine ⟨v, ?_, rv⟩
        unfold L2.start
        rw [List.getElem?_append_left (by simpa [rl] using hi), List.getElem?_map, hv]; rfl
    · rw [List.getElem?_append_right (by simpa using hi), List.getElem?_replicate] at e
      split at e
      · cases e; trivial
      · cases e
  · by_cases hi : i < ds.length
    · rw [List.getElem?_append_left (by simpa using hi), List.getElem?_map] at e1
      cases q : ds[i]? with
      | none => rw [q] at e1; cases e1
      | some d => rw [q] at e1; cases e1
    · rw [List.getElem?_append_right (by simpa using hi), List.getElem?_replicate] at e1
      split at e1 <;> cases e1
section
variable {P : Program} {w : World} {K : PySem.W.Frag} {mg : Str → Option Value} {base : Heap}
/-- THE RULE for a def -/
theorem fn_ok {x qual : Str} {st : Stmt} {f : Addr} {fd : FuncData} {N ps : List Str} {k : Nat} {b : EvS} (F : Fun K x qual st f fd) (S : FnScope N ps (defScope st)) 
    (body : ∀ (cdv : Value) (A : Around) (outer : List Env) (s : Shared) (H : Hp) (E : XK) (W : WX), Room k (A.deeper (envOfC qual (defScope st) s.heap.objs.size f cdv)) →
      Takes (cxOf (L2.CX P w) P w K mg base N qual (defScope st) f cdv A outer s H E) W → PassesOwn (model P w) (A.deeper (envOfC qual (defScope st) s.heap.objs.size f cdv)) (envOfC qual (defScope st) s.heap.objs.size f cdv) (cxOf (L2.CX P w) P w K mg base N qual (defScope st) f cdv A outer s H E).xe →
      DSs (cxOf (L2.CX P w) P w K mg base N qual (defScope st) f cdv A outer s H E) H W (defBody st) b) : FnOk P w K mg base (L2.CX P w) (k + 1) f fd ps (spOf ⟨K, mg⟩ ps.length (runB N.length b)) := by
  refine F.okX S (fun vs H Q E h => h.1) (fun cdv A outer s H vs Q E hr h => ?_)
  refine ⟨_, body cdv A outer s H E (fun cls d _ H' => E cls d H') hr (takes_of rfl rfl rfl rfl) (passes_of rfl), ?_⟩
  obtain ⟨hl, F0, ds, st0, f0, r, q⟩ := h
  have hN : ps.length ≤ N.length := by have := congrArg List.length S.pre; rw [List.length_take] at this; omega
  refine ⟨F0, _, st0, Ok.start f0 r (by omega), ?_⟩
  unfold runB at q
  revert q
  generalize b (ds.map Sl.d ++ List.replicate (N.length - ds.length) .no) st0 = r
  intro q
  cases r with
  | nx S1 st1 => exact fun σ' H' F' g o => q .non H' F' o.kp o.fH g .non
  | ret d S1 st1 => exact fun v σ' H' F' g o rr => q v H' F' o.kp o.fH g rr
  | exc y S1 st1 => exact fun c d σ' H' F' g o rr => q c d H' F' o.kp o.fH g rr
  | bk S1 st1 => exact q.elim
  | ct S1 st1 => exact q.elim
  | rto w1 S1 st1 => exact q.elim
  | stuck => exact q.elim
theorem def_ok {x qual : Str} {st : Stmt} {f : Addr} {fd : FuncData} {N ps : List Str} {k : Nat} {b : EvS} (F : Fun K x qual st f fd) (S : FnScope N ps (defScope st)) (hb : Binds K fd ps []) (hm : mg x = some (.ref f))
    (body : ∀ (cdv : Value) (A : Around) (outer : List Env) (s : Shared) (H : Hp) (E : XK) (W : WX), Room k (A.deeper (envOfC qual (defScope st) s.heap.objs.size f cdv)) →
      Takes (cxOf (L2.CX P w) P w K mg base N qual (defScope st) f cdv A outer s H E) W → PassesOwn (model P w) (A.deeper (envOfC qual (defScope st) s.heap.objs.size f cdv)) (envOfC qual (defScope st) s.heap.objs.size f cdv) (cxOf (L2.CX P w) P w K mg base N qual (defScope st) f cdv A outer s H E).xe →
      DSs (cxOf (L2.CX P w) P w K mg base N qual (defScope st) f cdv A outer s H E) H W (defBody st) b) : Def P w K mg base (k + 1) x ps.length (runB N.length b) := ⟨f, fd, ps, fn_ok F S body, hb, hm, F.kp⟩
/-- nothing is promised -/
def cStuck : CallT := fun _ _ => .stuck
theorem def_stuck {x qual : Str} {st : Stmt} {f : Addr} {fd : FuncData} {N ps : List Str} {k : Nat} (F : Fun K x qual st f fd) (S : FnScope N ps (defScope st)) (hb : Binds K fd ps []) (hm : mg x = some (.ref f)) : Def P w K mg base (k + 1) x ps.length cStuck := by
  refine ⟨f, fd, ps, F.okX S (fun vs H Q E h => h.1) (fun cdv A outer s H vs Q E hr h => ?_), hb, hm, F.kp⟩
  obtain ⟨_, _, _, _, _, _, q⟩ := h
  exact q.elim
end
end DL

namespace DL
open PySem PySem.Spec PyProof.Rows L2

theorem OpR.or {X : Cx} {f : Value → Value → Sem Value} {r r' : R2} (h : OpR X f r) (h' : OpR X f r') : OpR X f (fun x y H Q => r x y H Q ∨ r' x y H Q) := by
  intro pins s σ H x y v u Q I rx ry q
  rcases q with q | q
  · exact h pins s σ H x y v u Q I rx ry q
  · exact h' pins s σ H x y v u Q I rx ry q
theorem CallR.or {X : Cx} {f : Value} {r r' : List V → Hp → VK → Prop} (h : CallR X f r) (h' : CallR X f r') : CallR X f (fun x H Q => r x H Q ∨ r' x H Q) := by
  intro pins s σ H xs us Q I rs q
  rcases q with q | q
  · exact h pins s σ H xs us Q I rs q
  · exact h' pins s σ H xs us Q I rs q

/-! ### data, seen -/
section
variable {G : Gx} {F H : Hp} {v : V} {d : D}
theorem Vw.int_eq {i : Int} (h : Vw G F H v (.int i)) : v = .int i := by
  rcases h with h | ⟨_, _, w, _, _, _, e⟩
  · cases h; rfl
  · cases w <;> cases e
theorem Vw.bl_eq {i : Bool} (h : Vw G F H v (.bl i)) : v = .bl i := by
  rcases h with h | ⟨_, _, w, _, _, _, e⟩
  · cases h; rfl
  · cases w <;> cases e
theorem Vw.non_eq (h : Vw G F H v .non) : v = .non := by
  rcases h with h | ⟨_, _, w, _, _, _, e⟩
  · cases h; rfl
  · cases w <;> cases e
theorem Vw.ty_eq {n : String} (h : Vw G F H v (.ty n)) : v = .ty n := by
  rcases h with h | ⟨_, _, w, _, _, _, e⟩
  · cases h; rfl
  · cases w <;> cases e
theorem Vw.str_eq {s : List Nat} (h : Vw G F H v (.str s)) : v = .str (tx s) ∧ okS s = true := by
  rcases h with h | ⟨_, _, w, _, _, _, e⟩
  · cases h with | str _ o => exact ⟨rfl, o⟩
  · cases w <;> cases e
def asL : D → Option (List D)
  | .lst ds => some ds
  | .scr ns => some (ns.map .int)
  | _ => none
theorem Vw.seqL {ds : List D} (h : Vw G F H v d) (f : Same F H) (e : asL d = some ds) : ∃ p xs, v = .ref p ∧ SqL G.K H p xs ∧ RpAll G F xs ds := by
  rcases h with h | ⟨p, u, w, rfl, hp, ow, rfl⟩
  · cases h with
    | lst h1 h2 => cases e; exact ⟨_, _, rfl, .inl (.inl (f _ _ h1)), h2⟩
    | scr h1 => cases e; exact ⟨_, _, rfl, f.seq h1, rp_ints G F _⟩
    | _ => cases e
  · cases ow with
    | l r => cases e; exact ⟨_, _, rfl, .inl (.inl hp), r⟩
    | _ => cases e
theorem Vw.lst {ds : List D} (h : Vw G F H v (.lst ds)) (f : Same F H) : ∃ p xs, v = .ref p ∧ H p = some (.lst xs) ∧ RpAll G F xs ds := by
  rcases h with h | ⟨p, u, w, rfl, hp, ow, e⟩
  · cases h with
    | lst h1 h2 => exact ⟨_, _, rfl, f _ _ h1, h2⟩
  · cases ow with
    | l r => cases e; exact ⟨_, _, rfl, hp, r⟩
    | _ => cases e
theorem Vw.tup {ds : List D} (h : Vw G F H v (.tup ds)) (f : Same F H) : ∃ p xs, v = .ref p ∧ SqT G.K H p xs ∧ RpAll G F xs ds := by
  rcases h with h | ⟨p, u, w, rfl, hp, ow, e⟩
  · cases h with
    | tup h1 h2 => exact ⟨_, _, rfl, same_seqT f h1, h2⟩
  · cases w <;> cases e
theorem Vw.tup' {ds : List D} (h : Vw G F H v (.tup ds)) : Rp G F v (.tup ds) := by
  rcases h with h | ⟨p, u, w, rfl, hp, ow, e⟩
  · exact h
  · cases w <;> cases e
theorem gives_v {r : VK → Prop} (rp : Rp G F v d) (f : Same F H) (h : ∀ Q : VK, Q v H → r Q) : Gives r G F H d := fun Q k => h Q (k v H F (Same.refl H) f .refl rp)
theorem gives_tup {r : VK → Prop} {xs : List V} {ds : List D} (rp : RpAll G F xs ds) (f : Same F H) (h : ∀ Q : VK, (∀ p, H p = none → Q (.ref p) (upd H p (.tup xs))) → r Q) : Gives r G F H (.tup ds) := fun Q k => h Q fun p hp =>
  k _ _ (upd F p (.tup xs)) (same_new hp) (same_upd2 f) (gr_new f hp) (.tup (.inl (.inl upd_same)) (rp.mono (gr_new (o := .tup xs) f hp).1))
theorem lays_l {r : VK → Prop} {xs : List V} {ds : List D} (rp : RpAll G F xs ds) (h : ∀ Q : VK, (∀ p, H p = none → Q (.ref p) (upd H p (.lst xs))) → r Q) : Lays r G F H (.l ds) := fun Q k => h Q fun p hp => k p _ hp (.l rp)
theorem gives_lst {r : VK → Prop} {xs : List V} {ds : List D} (rp : RpAll G F xs ds) (f : Same F H) (h : ∀ Q : VK, (∀ p, H p = none → Q (.ref p) (upd H p (.lst xs))) → r Q) : Gives r G F H (.lst ds) := (lays_l rp h).gives f
end
section
variable {G : Gx} {X : Cx}

/-! ### numbers -/
def dI2 (c : Int → Int → Bool) (g : Int → Int → Int) : D → D → Option D
  | .int i, .int j => if c i j = true then some (.int (g i j)) else none
  | _, _ => none
theorem op2_I {C : Int → Int → Prop} {c : Int → Int → Bool} {g : Int → Int → Int} (hc : ∀ i j, c i j = true → C i j) : Op2 G (rI C fun i j => .int (g i j)) (dI2 c g) := fun F H v w x y d f hv hw e => by
  unfold dI2 at e
  split at e
  · split at e
    · rename_i i j h
      cases e
      cases hv.int_eq; cases hw.int_eq
      exact gives_v (.int _) f fun Q q => ⟨i, j, rfl, rfl, hc i j h, q⟩
    · cases e
  · cases e
def dI0 (g : Int → Int → Int) : D → D → Option D
  | .int i, .int j => some (.int (g i j))
  | _, _ => none
theorem op2_I0 {g : Int → Int → Int} : Op2 G (rI0 fun i j => .int (g i j)) (dI0 g) := fun F H v w x y d f hv hw e => by
  unfold dI0 at e
  split at e
  · cases e
    cases hv.int_eq; cases hw.int_eq
    exact gives_v (.int _) f fun Q q => ⟨_, _, rfl, rfl, q⟩
  · cases e
def dSub := dI0 fun i j => i - j
theorem op_dSub : Op2 G (rI0 fun i j => .int (i - j)) dSub := op2_I0
/-- a bound for a product -/
def mulC (i j : Int) : Bool := decide (i.natAbs.log2 + j.natAbs.log2 < 100000000)
theorem mulC_ok {i j : Int} (h : mulC i j = true) : CMulX i j := by
  have h := of_decide_eq_true h
  have b : ∀ x : Int, Builtin.Int.intBits x ≤ x.natAbs.log2 + 1 := fun x => by
    unfold Builtin.Int.intBits
    split <;> omega
  have h1 := b i
  have h2 := b j
  unfold CMulX
  omega
def dFdiv := dI2 (fun _ j => decide (0 < j) && decide (j.natAbs.log2 < 9000)) fun i j => i / j
theorem op_dFdiv : Op2 G (rI CDivW fun i j => .int (i / j)) dFdiv := op2_I fun i j h => by
  rw [Bool.and_eq_true] at h
  exact ⟨of_decide_eq_true h.1, of_decide_eq_true h.2⟩
def dMod := dI2 (fun _ j => decide (0 < j)) fun i j => i % j
theorem op_dMod : Op2 G (rI (fun _ j => 0 < j) fun i j => .int (i % j)) dMod := op2_I fun i j h => of_decide_eq_true h
def dPow := dI2 (fun i j => decide (0 ≤ j) && decide (j ≤ 1000000) && decide (i.natAbs < 18446744073709551616)) fun i j => i ^ j.toNat
theorem op_dPow : Op2 G (rI CPow fun i j => .int (i ^ j.toNat)) dPow := op2_I fun i j h => by
  rw [Bool.and_eq_true, Bool.and_eq_true] at h
  exact ⟨of_decide_eq_true h.1.1, of_decide_eq_true h.1.2, of_decide_eq_true h.2⟩
def dShr := dI2 (fun _ j => decide (0 ≤ j)) fun i j => i / 2 ^ j.toNat
theorem op_dShr : Op2 G (rI (fun _ j => 0 ≤ j) fun i j => .int (i / 2 ^ j.toNat)) dShr := op2_I fun i j h => of_decide_eq_true h
def dShl := dI2 (fun i j => decide (0 ≤ j) && decide (i.natAbs.log2 + j < 100000000)) fun i j => i * 2 ^ j.toNat
theorem op_dShl : Op2 G (rI CShl fun i j => .int (i * 2 ^ j.toNat)) dShl := op2_I fun i j h => by
  rw [Bool.and_eq_true] at h
  have h1 := of_decide_eq_true h.1
  have h2 := of_decide_eq_true h.2
  have b : Builtin.Int.intBits i ≤ i.natAbs.log2 + 1 := by
    unfold Builtin.Int.intBits
    split <;> omega
  exact ⟨h1, by omega⟩
def dAnd := dI0 Builtin.bitAnd
theorem op_dAnd : Op2 G (rI0 fun i j => .int (Builtin.bitAnd i j)) dAnd := op2_I0
def dOr := dI0 Builtin.bitOr
theorem op_dOr : Op2 G (rI0 fun i j => .int (Builtin.bitOr i j)) dOr := op2_I0
def dXor := dI0 Builtin.bitXor
theorem op_dXor : Op2 G (rI0 fun i j => .int (Builtin.bitXor i j)) dXor := op2_I0
def dNeg : D → Option D
  | .int i => some (.int (-i))
  | _ => none
theorem op_dNeg : Op1 G (rU fun i => .int (-i)) dNeg := fun F H v x d f hv e => by
  unfold dNeg at e
  split at e
  · cases e; cases hv.int_eq
    exact gives_v (.int _) f fun Q q => ⟨_, rfl, q⟩
  · cases e

/-! ### +, * of several kinds -/
def rAddS : R2 := fun x y H Q => ∃ i j, x = .str i ∧ y = .str j ∧ i.length + j.length ≤ sizeLine ∧ Q (.str (i ++ j)) H
def rAddD (K : PySem.W.Frag) : R2 := fun x y H Q => rI0 (fun i j => .int (i + j)) x y H Q ∨ rAddS x y H Q ∨ rCat x y H Q ∨ rCatA K x y H Q
theorem opR_add : OpR X (binaryOp .Add) (rAddD X.K) := OpR.or op_add (OpR.or op_add_str (OpR.or op_cat op_catA))
def dAdd : D → D → Option D
  | .int i, .int j => some (.int (i + j))
  | .str s, .str t => if s.length + t.length ≤ 16777216 then some (.str (s ++ t)) else none
  | .lst s, .lst t => if s.length + t.length ≤ 16777216 then some (.lst (s ++ t)) else none
  | .tup s, .tup t => if s.length + t.length ≤ 16777216 then some (.tup (s ++ t)) else none
  | _, _ => none
theorem op_dAdd : Op2 G (rAddD G.K) dAdd := fun F H v w x y d f hv hw e => by
  unfold dAdd at e
  split at e
  · cases e
    cases hv.int_eq; cases hw.int_eq
    exact gives_v (.int _) f fun Q q => .inl ⟨_, _, rfl, rfl, q⟩
  · split at e
    · rename_i h
      cases e
      obtain ⟨rfl, o1⟩ := hv.str_eq
      obtain ⟨rfl, o2⟩ := hw.str_eq
      exact gives_v (.str _ (okS_app o1 o2)) f fun Q q => .inr (.inl ⟨_, _, rfl, rfl, by rw [tx_len, tx_len, sizeLine_eq]; exact h, by rw [tx_app]; exact q⟩)
    · cases e
  · split at e
    · rename_i h
      cases e
      obtain ⟨p, xs, rfl, h1, r1⟩ := hv.lst f
      obtain ⟨q, ys, rfl, h2, r2⟩ := hw.lst f
      exact gives_lst (r1.append r2) f fun Q q => .inr (.inr (.inl ⟨_, _, _, _, rfl, rfl, h1, h2, by rw [r1.length, r2.length, sizeLine_eq]; exact h, q⟩))
    · cases e
  · split at e
    · rename_i h
      cases e
      obtain ⟨p, xs, rfl, h1, r1⟩ := hv.tup f
      obtain ⟨q, ys, rfl, h2, r2⟩ := hw.tup f
      have l1 := r1.length
      have l2 := r2.length
      intro Q k
      refine .inr (.inr (.inr ⟨_, _, _, _, rfl, rfl, h1, h2, by rw [l1, l2, sizeLine_eq]; exact h, fun e => ?_, fun e1 e2 => ?_, fun _ _ => ?_⟩))
      · subst e
        cases r1
        exact k _ _ F (Same.refl H) f .refl hw.tup'
      · subst e2
        cases r2
        rw [List.append_nil] at k
        exact k _ _ F (Same.refl H) f .refl hv.tup'
      · exact fun p hp => gives_tup (r := fun Q => ∀ p, H p = none → Q (.ref p) (upd H p (.tup (xs ++ ys)))) (r1.append r2) f (fun Q q => q) Q k p hp
    · cases e
  · cases e
/-- .. as a new list -/
def dAddF : D → D → Option Ow
  | .lst s, .lst t => if s.length + t.length ≤ 16777216 then some (.l (s ++ t)) else none
  | _, _ => none
theorem op_dAddF : Op2F G (rAddD G.K) dAddF := fun F H v w x y d f hv hw e => by
  unfold dAddF at e
  split at e
  · split at e
    · rename_i h
      cases e
      obtain ⟨p, xs, rfl, h1, r1⟩ := hv.lst f
      obtain ⟨q, ys, rfl, h2, r2⟩ := hw.lst f
      exact lays_l (r1.append r2) fun Q q => .inr (.inr (.inl ⟨_, _, _, _, rfl, rfl, h1, h2, by rw [r1.length, r2.length, sizeLine_eq]; exact h, q⟩))
    · cases e
  · cases e
/-- n copies, one behind the other -/
def reps {α : Type} (s : List α) (n : Nat) : List α := (List.replicate n s).flatten
def rMulS : R2 := fun x y H Q => ∃ s k, x = .str s ∧ y = .int k ∧ MulOk s k ∧ Q (.str (Txt.mul s k)) H
theorem op_mulS : OpR X (binaryOp .Mult) rMulS := by
  intro pins s σ H x y v u Q I rx ry h
  obtain ⟨z, k, rfl, rfl, hk, q⟩ := h
  obtain ⟨t, rfl⟩ := rx
  obtain ⟨t', rfl⟩ := ry
  exact SB.mul hk fun t2 k2 => ⟨.str _, H, I.tok _, ⟨_, rfl⟩, q⟩
def rMulD : R2 := fun x y H Q => rI CMulX (fun i j => .int (i * j)) x y H Q ∨ rMulS x y H Q ∨ rRep x y H Q
theorem opR_mul : OpR X (binaryOp .Mult) rMulD := OpR.or op_mulX (OpR.or op_mulS op_rep)
theorem foldl_app (x : Array Nat) : ∀ (n : Nat) (a : Array Nat), ((List.replicate n x).foldl (· ++ ·) a).toList = a.toList ++ reps x.toList n
  | 0, a => by simp [reps]
  | n + 1, a => by
    rw [List.replicate_succ, List.foldl_cons, foldl_app x n]
    simp [reps, List.replicate_succ]
theorem mul_reps (s : List Nat) (n : Int) : Txt.mul (tx s) n = tx (reps s n.toNat) := by
  unfold Txt.mul
  split
  · rename_i h
    have : n.toNat = 0 := by omega
    rw [this]; rfl
  · split
    · rename_i h1 h2
      rw [Bool.or_eq_true] at h2
      rcases h2 with h2 | h2
      · have : n = 1 := by simpa using h2
        subst this
        simp [reps, tx]
      · have : s = [] := by
          rw [tx_len] at h2
          exact List.eq_nil_of_length_eq_zero (by simpa using h2)
        subst this
        simp [reps, tx]
    · have e : ((List.replicate n.toNat (tx s).cps).foldl (· ++ ·) #[]).toList = reps s n.toNat := by
        rw [foldl_app]; simp [tx]
      rw [← e]
      simp [tx]
theorem okS_reps {s : List Nat} (h : okS s = true) (n : Nat) : okS (reps s n) = true := okS_sub h fun c m => by
  unfold reps at m
  obtain ⟨l, h1, h2⟩ := List.mem_flatten.mp m
  rw [(List.mem_replicate.mp h1).2] at h2
  exact h2
theorem RpAll.reps {G : Gx} {F : Hp} {xs : List V} {ds : List D} (r : RpAll G F xs ds) : ∀ n : Nat, RpAll G F (List.replicate n xs).flatten (DL.reps ds n)
  | 0 => .nil
  | n + 1 => by
    rw [List.replicate_succ, List.flatten_cons]
    unfold DL.reps
    rw [List.replicate_succ, List.flatten_cons]
    exact r.append (RpAll.reps r n)
def dMul : D → D → Option D
  | .int i, .int j => if mulC i j = true then some (.int (i * j)) else none
  | .str s, .int k => if decide (0 ≤ k) && decide (k ≤ 1000000) && decide (s.length * k.toNat ≤ 1000000) then some (.str (reps s k.toNat)) else none
  | .lst s, .int k => if decide (0 ≤ k) && decide (k ≤ 1000000) && decide (s.length * k.toNat ≤ 1000000) then some (.lst (reps s k.toNat)) else none
  | _, _ => none
theorem mulOk_of {s : List Nat} {k : Int} (h0 : 0 ≤ k) (h1 : k ≤ 1000000) (h2 : s.length * k.toNat ≤ 1000000) : MulOk (tx s) k := by
  refine ⟨?_, fun a b => ?_, fun a b => ?_⟩
  · rw [decide_eq_false (by omega), decide_eq_false (by omega)]; rfl
  · rw [tx_len]
    have hk : 0 < k.toNat := by omega
    have hs : s.length ≤ 1000000 := Nat.le_trans (Nat.le_mul_of_pos_right _ hk) h2
    have : (1000000 : Int) ≤ (2 ^ 63 - 1) / k := by
      refine (Int.le_ediv_iff_mul_le (by omega)).mpr ?_
      have : (1000000 : Int) * k ≤ 1000000 * 1000000 := Int.mul_le_mul_of_nonneg_left h1 (by decide)
      omega
    omega
  · rw [tx_len]
    unfold Builtin.Str.tooLong
    have := sizeLine_eq
    simp
    omega
theorem op_dMul : Op2 G rMulD dMul := fun F H v w x y d f hv hw e => by
  unfold dMul at e
  split at e
  · split at e
    · rename_i h
      cases e
      cases hv.int_eq; cases hw.int_eq
      exact gives_v (.int _) f fun Q q => .inl ⟨_, _, rfl, rfl, mulC_ok h, q⟩
    · cases e
  · split at e
    · rename_i h
      cases e
      obtain ⟨rfl, o1⟩ := hv.str_eq
      cases hw.int_eq
      rw [Bool.and_eq_true, Bool.and_eq_true, decide_eq_true_eq, decide_eq_true_eq, decide_eq_true_eq] at h
      exact gives_v (.str _ (okS_reps o1 _)) f fun Q q => .inr (.inl ⟨_, _, rfl, rfl, mulOk_of h.1.1 h.1.2 h.2, by rw [mul_reps]; exact q⟩)
    · cases e
  · split at e
    · rename_i h
      cases e
      obtain ⟨p, xs, rfl, h1, r1⟩ := hv.lst f
      cases hw.int_eq
      rw [Bool.and_eq_true, Bool.and_eq_true, decide_eq_true_eq, decide_eq_true_eq, decide_eq_true_eq] at h
      have l1 := r1.length
      exact gives_lst (r1.reps _) f fun Q q => .inr (.inr ⟨_, _, _, rfl, rfl, h1, by omega, by omega, by rw [l1, sizeLine_eq]; omega, q⟩)
    · cases e
  · cases e
end
end DL

namespace DL
open PySem PySem.Spec PyProof.Rows L2

/-! ### == -/
mutual
def toPy : D → PyData
  | .non => .none
  | .bl b => .bool b
  | .int i => .int i
  | .str s => .str (tx s)
  | .lst ds => .list (toPys ds)
  | .tup ds => .tuple (toPys ds)
  | .scr ns => .list (ns.map .int)
  | .dic _ => .dict []
  | .obj _ _ => .dict []
  | .ty _ => .dict []
def toPys : List D → List PyData
  | [] => []
  | d :: r => toPy d :: toPys r
end
mutual
/-- None, truths, numbers, texts, lists and tuples of them -/
def pureD : D → Bool
  | .lst ds => pureDs ds
  | .tup ds => pureDs ds
  | .dic _ => false
  | .obj _ _ => false
  | .ty _ => false
  | _ => true
def pureDs : List D → Bool
  | [] => true
  | d :: r => pureD d && pureDs r
end
mutual
def depD : D → Nat
  | .lst ds => depDs ds + 1
  | .tup ds => depDs ds + 1
  | .scr _ => 1
  | _ => 0
def depDs : List D → Nat
  | [] => 0
  | d :: r => max (depD d) (depDs r)
end
def deq (a b : D) : Bool := PyData.eqv (toPy a) (toPy b)
def deqs (a b : List D) : Bool := PyData.eqvAll (toPys a) (toPys b)
section
variable {G : Gx} {F H : Hp}
theorem lay_ints : ∀ ns : List Int, PyData.canLayAll0 (ns.map .int) = true
  | [] => rfl
  | n :: r => by simp [PyData.canLayAll0, PyData.canLay0, lay_ints r]
theorem dep_ints : ∀ ns : List Int, PyData.depthAll (ns.map .int) = 0
  | [] => rfl
  | n :: r => by simp [PyData.depthAll, PyData.depth, dep_ints r]
theorem strOk_of {s : List Nat} (h : okS s = true) : PyData.strOk (tx s) = true := by
  unfold PyData.strOk tx okS at *
  simpa using h
mutual
theorem depth_toPy : ∀ d : D, PyData.depth (toPy d) ≤ depD d ∨ pureD d = false
  | .non => .inl (by simp [toPy, PyData.depth])
  | .bl b => .inl (by simp [toPy, PyData.depth])
  | .int i => .inl (by simp [toPy, PyData.depth])
  | .str s => .inl (by simp [toPy, PyData.depth])
  | .lst ds => by
    rcases depth_toPys ds with h | h
    · exact .inl (by simp [toPy, PyData.depth, depD]; exact h)
    · exact .inr (by simp [pureD, h])
  | .tup ds => by
    rcases depth_toPys ds with h | h
    · exact .inl (by simp [toPy, PyData.depth, depD]; exact h)
    · exact .inr (by simp [pureD, h])
  | .scr ns => .inl (by simp [toPy, PyData.depth, depD, dep_ints])
  | .dic _ => .inr (by simp [pureD])
  | .obj _ _ => .inr (by simp [pureD])
  | .ty _ => .inr (by simp [pureD])
theorem depth_toPys : ∀ ds : List D, PyData.depthAll (toPys ds) ≤ depDs ds ∨ pureDs ds = false
  | [] => .inl (by simp [toPys, PyData.depthAll])
  | d :: r => by
    rcases depth_toPy d with h | h
    · rcases depth_toPys r with h' | h'
      · exact .inl (by simp [toPys, PyData.depthAll, depDs]; omega)
      · exact .inr (by simp [pureDs, h'])
    · exact .inr (by simp [pureDs, h])
end
mutual
theorem Rp.dp (e : Same F H) : ∀ {v : V} {d : D}, Rp G F v d → pureD d = true → Dp G.K H v (toPy d) ∧ PyData.canLay0 (toPy d) = true
  | _, _, .non, _ => ⟨by simp [toPy]; exact .non, by simp [toPy, PyData.canLay0]⟩
  | _, _, .bl b, _ => ⟨by simp [toPy]; exact .bl b, by simp [toPy, PyData.canLay0]⟩
  | _, _, .int i, _ => ⟨by simp [toPy]; exact .int i, by simp [toPy, PyData.canLay0]⟩
  | _, _, .str x h, _ => ⟨by simp [toPy]; exact .str _, by simp [toPy, PyData.canLay0, strOk_of h]⟩
  | _, _, .lst h t, p => by
    obtain ⟨h1, h2⟩ := RpAll.dp e t (by simpa [pureD] using p)
    exact ⟨by simp [toPy]; exact .lst (.inl (.inl (e _ _ h))) h1, by simp [toPy, PyData.canLay0, h2]⟩
  | _, _, .tup h t, p => by
    obtain ⟨h1, h2⟩ := RpAll.dp e t (by simpa [pureD] using p)
    exact ⟨by simp [toPy]; exact .tup (same_seqT e h) h1, by simp [toPy, PyData.canLay0, h2]⟩
  | _, _, .scr (ns := ns) h, p => by
    have : ∀ ns : List Int, DpAll G.K H (ns.map V.int) (ns.map PyData.int) := fun ns => by
      induction ns with
      | nil => exact .nil
      | cons n r ih => exact .cons (.int n) ih
    exact ⟨by simp only [toPy]; exact .lst (e.seq h) (this ns), by simp [toPy, PyData.canLay0, lay_ints]⟩
  | _, _, .dicK _ _, p => by simp [pureD] at p
  | _, _, .dicT _ _, p => by simp [pureD] at p
  | _, _, .obj _ _ _ _, p => by simp [pureD] at p
  | _, _, .ty _, p => by simp [pureD] at p
theorem RpAll.dp (e : Same F H) : ∀ {vs : List V} {ds : List D}, RpAll G F vs ds → pureDs ds = true → DpAll G.K H vs (toPys ds) ∧ PyData.canLayAll0 (toPys ds) = true
  | _, _, .nil, _ => ⟨by simp [toPys]; exact .nil, by simp [toPys, PyData.canLayAll0]⟩
  | _, _, .cons h t, p => by
    simp [pureDs] at p
    obtain ⟨h1, h2⟩ := Rp.dp e h p.1
    obtain ⟨h3, h4⟩ := RpAll.dp e t p.2
    exact ⟨by simp [toPys]; exact .cons h1 h3, by simp [toPys, PyData.canLayAll0, h2, h4]⟩
end
def eqOk (d : D) : Bool := pureD d && decide (depD d ≤ 60)
theorem Vw.dp {v : V} {d : D} (h : Vw G F H v d) (e : Same F H) (p : eqOk d = true) : Dp G.K H v (toPy d) ∧ SeqAt.shaped (toPy d) = true := by
  unfold eqOk at p
  rw [Bool.and_eq_true, decide_eq_true_eq] at p
  have dp : PyData.depth (toPy d) ≤ depD d := (depth_toPy d).resolve_right (by rw [p.1]; simp)
  have fin : PyData.canLay0 (toPy d) = true → SeqAt.shaped (toPy d) = true := fun h => by
    unfold SeqAt.shaped
    rw [h, decide_eq_true (by omega)]; rfl
  rcases h with h | ⟨q, u, w, rfl, hp, ow, rfl⟩
  · obtain ⟨a, b⟩ := h.dp e p.1
    exact ⟨a, fin b⟩
  · cases ow with
    | l r =>
      obtain ⟨h1, h2⟩ := r.dp e (by simpa [Ow.d, pureD] using p.1)
      exact ⟨by simp [Ow.d, toPy]; exact .lst (.inl (.inl hp)) h1, fin (by simp [Ow.d, toPy, PyData.canLay0, h2])⟩
    | _ => simp [Ow.d, pureD] at p
end
def dEq (a b : D) : Option D := if eqOk a = true ∧ eqOk b = true then some (.bl (deq a b)) else none
def dNe (a b : D) : Option D := if eqOk a = true ∧ eqOk b = true then some (.bl (!deq a b)) else none
section
variable {G : Gx} {X : Cx}
theorem op_dEq : Op2 G (rEqD G.K) dEq := fun F H v w x y d f hv hw e => by
  unfold dEq at e
  split at e
  · rename_i h
    cases e
    obtain ⟨a, b⟩ := hv.dp f h.1
    obtain ⟨a', b'⟩ := hw.dp f h.2
    exact gives_v (.bl _) f fun Q q => ⟨_, _, a, a', b, b', q⟩
  · cases e
theorem op_dNe : Op2 G (rNeD G.K) dNe := fun F H v w x y d f hv hw e => by
  unfold dNe at e
  split at e
  · rename_i h
    cases e
    obtain ⟨a, b⟩ := hv.dp f h.1
    obtain ⟨a', b'⟩ := hw.dp f h.2
    exact gives_v (.bl _) f fun Q q => ⟨_, _, a, a', b, b', q⟩
  · cases e

/-! ### order -/
def dCmp (p : Int → Int → Bool) (q : List Nat → List Nat → Bool) : D → D → Option D
  | .int i, .int j => some (.bl (p i j))
  | .str s, .str t => some (.bl (q s t))
  | _, _ => none
def rCmp (p : Int → Int → Bool) (q : List Nat → List Nat → Bool) : R2 := fun x y H Q => rI0 (fun i j => .bl (p i j)) x y H Q ∨ (∃ i j : Str, x = .str i ∧ y = .str j ∧ Q (.bl (q i.cps.toList j.cps.toList)) H)
theorem op_dCmp {p : Int → Int → Bool} {q : List Nat → List Nat → Bool} : Op2 G (rCmp p q) (dCmp p q) := fun F H v w x y d f hv hw e => by
  unfold dCmp at e
  split at e
  · cases e
    cases hv.int_eq; cases hw.int_eq
    exact gives_v (.bl _) f fun Q q => .inl ⟨_, _, rfl, rfl, q⟩
  · cases e
    obtain ⟨rfl, o1⟩ := hv.str_eq
    obtain ⟨rfl, o2⟩ := hw.str_eq
    exact gives_v (.bl _) f fun Q q => .inr ⟨_, _, rfl, rfl, q⟩
  · cases e
def dLt := dCmp (fun i j => decide (i < j)) fun s t => decide (s < t)
def dLe := dCmp (fun i j => decide (i ≤ j)) fun s t => !decide (t < s)
def dGt := dCmp (fun i j => decide (j < i)) fun s t => decide (t < s)
def dGe := dCmp (fun i j => decide (j ≤ i)) fun s t => !decide (s < t)
theorem opR_lt : OpR X (compareOp .Lt) (rCmp (fun i j => decide (i < j)) fun s t => decide (s < t)) := OpR.or op_lt op_lt_str
theorem opR_le : OpR X (compareOp .LtE) (rCmp (fun i j => decide (i ≤ j)) fun s t => !decide (t < s)) := OpR.or op_le op_le_str
theorem opR_gt : OpR X (compareOp .Gt) (rCmp (fun i j => decide (j < i)) fun s t => decide (t < s)) := OpR.or op_gt op_gt_str
theorem opR_ge : OpR X (compareOp .GtE) (rCmp (fun i j => decide (j ≤ i)) fun s t => !decide (s < t)) := OpR.or op_ge op_ge_str
/-- is None, is a truth -/
def isN : D → Bool
  | .non => true
  | _ => false
def dIs : D → D → Option D
  | x, .non => some (.bl (isN x))
  | .bl a, .bl b => some (.bl (decide (a = b)))
  | _, _ => none
def dIsNot : D → D → Option D
  | x, .non => some (.bl (!isN x))
  | .bl a, .bl b => some (.bl (!decide (a = b)))
  | _, _ => none
def rIsN : R2 := fun x y H Q => y = .non ∧ Q (.bl (decide (x = .non))) H
def rNotN : R2 := fun x y H Q => y = .non ∧ Q (.bl (!decide (x = .non))) H
def rIsD : R2 := fun x y H Q => rIsN x y H Q ∨ rIsB x y H Q
def rIsNotD : R2 := fun x y H Q => rNotN x y H Q ∨ rNotB x y H Q
theorem opR_is : OpR X (compareOp .Is) rIsD := OpR.or op_isN op_isBl
theorem opR_isNot : OpR X (compareOp .IsNot) rIsNotD := OpR.or op_notN op_notBl
theorem Vw.isN {F H : Hp} {v : V} {x : D} (h : Vw G F H v x) : decide (v = .non) = isN x := by
  rcases h with h | ⟨p, u, w, rfl, _, _, rfl⟩
  · cases h <;> rfl
  · cases w <;> rfl
theorem op_dIs : Op2 G rIsD dIs := fun F H v w x y d f hv hw e => by
  unfold dIs at e
  split at e
  · cases e
    cases hw.non_eq
    exact gives_v (.bl _) f fun Q q => .inl ⟨rfl, by rw [hv.isN]; exact q⟩
  · cases e
    cases hv.bl_eq; cases hw.bl_eq
    exact gives_v (.bl _) f fun Q q => .inr ⟨_, _, rfl, rfl, q⟩
  · cases e
theorem op_dIsNot : Op2 G rIsNotD dIsNot := fun F H v w x y d f hv hw e => by
  unfold dIsNot at e
  split at e
  · cases e
    cases hw.non_eq
    exact gives_v (.bl _) f fun Q q => .inl ⟨rfl, by rw [hv.isN]; exact q⟩
  · cases e
    cases hv.bl_eq; cases hw.bl_eq
    exact gives_v (.bl _) f fun Q q => .inr ⟨_, _, rfl, rfl, q⟩
  · cases e

/-! ### in -/
def flatD : D → Bool
  | .non => true
  | .bl _ => true
  | .int _ => true
  | .str _ => true
  | _ => false
theorem flat_v {F : Hp} {v : V} {d : D} (h : Rp G F v d) (e : flatD d = true) : flatV v = true := by cases h <;> first | rfl | cases e
theorem eqV_deq {F : Hp} {v w : V} {d e : D} (h : Rp G F v d) (h' : Rp G F w e) (f : flatD d = true) (f' : flatD e = true) : eqV v w = deq d e := by
  cases h <;> cases h' <;> simp_all [eqV, deq, toPy, PyData.eqv, flatD]
theorem flat_all {F : Hp} : ∀ {xs : List V} {ds : List D}, RpAll G F xs ds → ds.all flatD = true → xs.all flatV = true
  | _, _, .nil, _ => rfl
  | _, _, .cons h t, e => by
    rw [List.all_cons, Bool.and_eq_true] at e ⊢
    exact ⟨flat_v h e.1, flat_all t e.2⟩
theorem inV_any {F : Hp} {v : V} {d : D} (h : Rp G F v d) (f : flatD d = true) : ∀ {xs : List V} {ds : List D}, RpAll G F xs ds → ds.all flatD = true → inV v xs = ds.any fun z => deq z d
  | _, _, .nil, _ => rfl
  | _, _, .cons h' t, e => by
    rw [List.all_cons, Bool.and_eq_true] at e
    have ih := inV_any h f t e.2
    unfold inV at ih ⊢
    rw [List.any_cons, List.any_cons, ih, eqV_deq h' h e.1 f]
theorem toPys_any (d : D) : ∀ ds : List D, ((toPys ds).any fun z => PyData.eqv z (toPy d)) = ds.any fun z => deq z d
  | [] => rfl
  | x :: r => by rw [toPys, List.any_cons, List.any_cons, toPys_any d r]; rfl
/-- x in y -/
def inD (x : D) : D → Option Bool
  | .str t => match x with
    | .str [c] => some (decide (c ∈ t))
    | _ => none
  | .lst ds => if eqOk x = true ∧ eqOk (.lst ds) = true then some (ds.any fun z => deq z x) else none
  | .tup ds => if flatD x = true ∧ ds.all flatD = true then some (ds.any fun z => deq z x) else none
  | _ => none
def rInSg : R2 := fun x y H Q => ∃ (c : Nat) (z : Str), x = .str ⟨#[c]⟩ ∧ y = .str z ∧ Q (.bl (decide (c ∈ z.cps.toList))) H
def rNotInSg : R2 := fun x y H Q => ∃ (c : Nat) (z : Str), x = .str ⟨#[c]⟩ ∧ y = .str z ∧ Q (.bl (!decide (c ∈ z.cps.toList))) H
def rInAll (K : PySem.W.Frag) : R2 := fun x y H Q => rInSg x y H Q ∨ rInD K x y H Q ∨ rIn K false x y H Q
def rNotInAll (K : PySem.W.Frag) : R2 := fun x y H Q => rNotInSg x y H Q ∨ rNotInD K x y H Q ∨ rIn K true x y H Q
theorem opR_in (hu : X.A.units + 65 < cLine) : OpR X (compareOp .In) (rInAll X.K) := OpR.or op_in_sign (OpR.or (op_inD hu) op_in_seq)
theorem opR_notIn (hu : X.A.units + 65 < cLine) : OpR X (compareOp .NotIn) (rNotInAll X.K) := OpR.or op_notIn_sign (OpR.or (op_notInD hu) op_notIn_seq)
def dIn (x y : D) : Option D := (inD x y).map .bl
def dNotIn (x y : D) : Option D := (inD x y).map fun b => .bl (!b)
theorem Vw.rp_flat {F H : Hp} {v : V} {d : D} (h : Vw G F H v d) (e : flatD d = true) : Rp G F v d := by
  rcases h with h | ⟨p, u, w, rfl, _, _, rfl⟩
  · exact h
  · cases w <;> cases e
theorem in_cases {F H : Hp} {v w : V} {x y : D} {b : Bool} (f : Same F H) (hv : Vw G F H v x) (hw : Vw G F H w y) (e : inD x y = some b) :
    (∃ c z, v = .str ⟨#[c]⟩ ∧ w = .str z ∧ b = decide (c ∈ z.cps.toList)) ∨ (∃ d ds, Dp G.K H v d ∧ Dp G.K H w (.list ds) ∧ SeqAt.shaped d = true ∧ SeqAt.shaped (.list ds) = true ∧ b = ds.any fun z => PyData.eqv z d) ∨
    (∃ p xs, w = .ref p ∧ (SqL G.K H p xs ∨ SqT G.K H p xs) ∧ flatV v = true ∧ xs.all flatV = true ∧ b = inV v xs) := by
  unfold inD at e
  split at e
  · split at e
    · cases e
      obtain ⟨rfl, _⟩ := hv.str_eq
      obtain ⟨rfl, _⟩ := hw.str_eq
      exact .inl ⟨_, _, rfl, rfl, rfl⟩
    · cases e
  · split at e
    · rename_i h
      cases e
      obtain ⟨a, b⟩ := hv.dp f h.1
      obtain ⟨a', b'⟩ := hw.dp f h.2
      exact .inr (.inl ⟨_, _, a, a', b, b', (toPys_any _ _).symm⟩)
    · cases e
  · split at e
    · rename_i h
      cases e
      obtain ⟨p, xs, rfl, h1, h2⟩ := hw.tup f
      have rv := hv.rp_flat h.1
      exact .inr (.inr ⟨p, xs, rfl, .inr h1, flat_v rv h.1, flat_all h2 h.2, (inV_any rv h.1 h2 h.2).symm⟩)
    · cases e
  · cases e
theorem op_dIn : Op2 G (rInAll G.K) dIn := fun F H v w x y d f hv hw e => by
  unfold dIn at e
  cases h : inD x y with
  | none => rw [h] at e; cases e
  | some b =>
    rw [h] at e; cases e
    refine gives_v (.bl _) f fun Q q => ?_
    rcases in_cases f hv hw h with ⟨c, z, h1, h2, h3⟩ | ⟨d, ds, h1, h2, h3, h4, h5⟩ | ⟨p, xs, h1, h2, h3, h4, h5⟩
    · exact .inl ⟨c, z, h1, h2, by rw [← h3]; exact q⟩
    · exact .inr (.inl ⟨d, ds, h1, h2, h3, h4, by rw [← h5]; exact q⟩)
    · exact .inr (.inr ⟨p, xs, h1, h2, h3, h4, by rw [h5] at q; exact q⟩)
theorem op_dNotIn : Op2 G (rNotInAll G.K) dNotIn := fun F H v w x y d f hv hw e => by
  unfold dNotIn at e
  cases h : inD x y with
  | none => rw [h] at e; cases e
  | some b =>
    rw [h] at e; cases e
    refine gives_v (.bl _) f fun Q q => ?_
    rcases in_cases f hv hw h with ⟨c, z, h1, h2, h3⟩ | ⟨d, ds, h1, h2, h3, h4, h5⟩ | ⟨p, xs, h1, h2, h3, h4, h5⟩
    · exact .inl ⟨c, z, h1, h2, by rw [← h3]; exact q⟩
    · exact .inr (.inl ⟨d, ds, h1, h2, h3, h4, by rw [← h5]; exact q⟩)
    · exact .inr (.inr ⟨p, xs, h1, h2, h3, h4, by rw [h5] at q; exact q⟩)

/-! ### subscripts, slices -/
def dIx : D → D → Option D
  | .str s, .int i => if s.length ≤ 16777216 then (atI s i).map fun c => .str [c] else none
  | .lst ds, .int i => atI ds i
  | .tup ds, .int i => atI ds i
  | .scr ns, .int i => (atI ns i).map .int
  | _, _ => none
theorem RpAll.atI {F : Hp} {xs : List V} {ds : List D} {i : Int} {d : D} (r : RpAll G F xs ds) (e : L2.atI ds i = some d) : ∃ v, L2.atI xs i = some v ∧ Rp G F v d := by
  unfold L2.atI at e ⊢
  rw [r.length]
  cases h : ixN ds.length i with
  | none => rw [h] at e; cases e
  | some j =>
    rw [h] at e
    exact r.get e
theorem op_dIx : Op2 G (rIx G.K) dIx := fun F H v w x y d f hv hw e => by
  unfold dIx at e
  split at e
  · split at e
    · rename_i s i hs
      cases hw.int_eq
      obtain ⟨rfl, o⟩ := hv.str_eq
      cases h : atI s i with
      | none => rw [h] at e; cases e
      | some c =>
        rw [h] at e; cases e
        refine gives_v (v := .str (tx [c])) (.str [c] (okS_sub o fun c' m => ?_)) f fun Q q => .inr (.inr ⟨_, _, c, rfl, rfl, by rw [tx_len, sizeLine_eq]; exact hs, h, q⟩)
        rw [List.mem_singleton] at m
        subst m
        unfold atI at h
        cases h2 : ixN s.length i with
        | none => rw [h2] at h; cases h
        | some j => rw [h2] at h; exact List.mem_of_getElem? h
    · cases e
  · cases hw.int_eq
    obtain ⟨p, xs, rfl, h1, h2⟩ := hv.seqL f rfl
    obtain ⟨z, hz, rz⟩ := h2.atI e
    exact gives_v rz f fun Q q => .inl ⟨_, _, _, _, rfl, rfl, h1, hz, q⟩
  · cases hw.int_eq
    obtain ⟨p, xs, rfl, h1, h2⟩ := hv.tup f
    obtain ⟨z, hz, rz⟩ := h2.atI e
    exact gives_v rz f fun Q q => .inr (.inl ⟨_, _, _, _, rfl, rfl, h1, hz, q⟩)
  · rename_i ns i
    cases hw.int_eq
    obtain ⟨p, xs, rfl, h1, h2⟩ := hv.seqL f rfl
    have e2 : L2.atI (ns.map D.int) i = some d := by
      unfold L2.atI at e ⊢
      rw [List.length_map]
      cases h : ixN ns.length i with
      | none => rw [h] at e; cases e
      | some j =>
        rw [h] at e
        simp only [Option.bind_some] at e ⊢
        rw [List.getElem?_map]
        exact e
    obtain ⟨z, hz, rz⟩ := h2.atI e2
    exact gives_v rz f fun Q q => .inl ⟨_, _, _, _, rfl, rfl, h1, hz, q⟩
  · cases e
/-- xs[lo:hi] -/
def cut {α : Type} (xs : List α) (lo hi : Option Int) : List α := (xs.drop (HT.sIx xs.length 0 lo)).take (HT.sIx xs.length xs.length hi - HT.sIx xs.length 0 lo)
def dSl : D → Option Int → Option Int → Option D
  | .str s, l, u => if s.length ≤ 16777216 then some (.str (cut s l u)) else none
  | .lst ds, l, u => some (.lst (cut ds l u))
  | .scr ns, l, u => some (.lst (cut (ns.map .int) l u))
  | .tup ds, l, u => some (.tup (cut ds l u))
  | _, _, _ => none
theorem SlR.or' {r r' : V → Option Int → Option Int → Hp → VK → Prop} (h : SlR X r) (h' : SlR X r') : SlR X (fun x lo hi H Q => r x lo hi H Q ∨ r' x lo hi H Q) := SlR.or h h'
def rSlAll (K : PySem.W.Frag) : V → Option Int → Option Int → Hp → VK → Prop := fun x l u H Q => rSlS x l u H Q ∨ rSlL K x l u H Q ∨ rSlA K x l u H Q
theorem sl_all : SlR X (rSlAll X.K) := SlR.or sl_str (SlR.or sl_list sl_tupA)
theorem RpAll.cut {F : Hp} {xs : List V} {ds : List D} (r : RpAll G F xs ds) (l u : Option Int) : RpAll G F (cutV xs l u) (DL.cut ds l u) := by
  unfold cutV DL.cut
  rw [r.length]
  exact (r.drop _).take _
theorem cut_whole {α : Type} {xs : List α} {l u : Option Int} (h : HT.sIx xs.length 0 l = 0 ∧ HT.sIx xs.length xs.length u = xs.length) : cut xs l u = xs := by
  unfold cut
  rw [h.1, h.2]
  simp
theorem op_dSl : OpS G (rSlAll G.K) dSl := fun F H v x l u d f hv e => by
  unfold dSl at e
  split at e
  · split at e
    · rename_i s hs
      cases e
      obtain ⟨rfl, o⟩ := hv.str_eq
      have ec : cutS (tx s) l u = tx (cut s l u) := by unfold cutS cut; rw [cps_tx, tx_len]; rfl
      exact gives_v (v := .str (tx (cut s l u))) (.str _ (okS_sub o fun c m => by
        unfold cut at m
        exact List.mem_of_mem_drop (List.mem_of_mem_take m))) f fun Q q => .inl ⟨_, rfl, by rw [tx_len, sizeLine_eq]; exact hs, by rw [ec]; exact q⟩
    · cases e
  · cases e
    obtain ⟨p, xs, rfl, h1, h2⟩ := hv.seqL f rfl
    exact gives_lst (h2.cut l u) f fun Q q => .inr (.inl ⟨_, _, rfl, h1, q⟩)
  · cases e
    obtain ⟨p, xs, rfl, h1, h2⟩ := hv.seqL f rfl
    exact gives_lst (h2.cut l u) f fun Q q => .inr (.inl ⟨_, _, rfl, h1, q⟩)
  · cases e
    obtain ⟨p, xs, rfl, h1, h2⟩ := hv.tup f
    have hl := h2.length
    intro Q k
    refine .inr (.inr ⟨_, _, rfl, h1, fun h => ?_, fun h => ?_⟩)
    · rw [hl] at h
      rw [cut_whole h] at k
      exact k _ _ F (Same.refl H) f .refl hv.tup'
    · exact gives_tup (r := fun Q => ∀ p, H p = none → Q (.ref p) (upd H p (.tup (cutV xs l u)))) (h2.cut l u) f (fun Q q => q) Q k
  · cases e
end
end DL

namespace DL
open PySem PySem.Spec PyProof.Rows L2
section
variable {G : Gx} {X : Cx}

/-! ### built-ins -/
def dLen : List D → Option D
  | [.str s] => if s.length ≤ 16777216 then some (.int s.length) else none
  | [.lst ds] => some (.int ds.length)
  | [.tup ds] => some (.int ds.length)
  | [.scr ns] => some (.int ns.length)
  | _ => none
def rLen (K : PySem.W.Frag) : List V → Hp → VK → Prop := fun xs H Q => ∃ x n, xs = [x] ∧ LenV K x H n ∧ Q (.int n) H
theorem op_dLen : OpA G (rLen G.K) dLen := fun F H vs xs d f hv e => by
  unfold dLen at e
  split at e
  · split at e
    · rename_i hs
      cases e
      cases hv with | cons h t => cases t; obtain ⟨rfl, _⟩ := h.str_eq; exact gives_v (.int _) f fun Q q => ⟨_, _, rfl, ⟨by rw [tx_len, sizeLine_eq]; exact hs, (tx_len _).symm⟩, q⟩
    · cases e
  · cases e
    cases hv with | cons h t => cases t; obtain ⟨p, xs, rfl, h1, h2⟩ := h.seqL f rfl; exact gives_v (.int _) f fun Q q => ⟨_, _, rfl, .inl ⟨_, h1, h2.length.symm⟩, q⟩
  · cases e
    cases hv with | cons h t => cases t; obtain ⟨p, xs, rfl, h1, h2⟩ := h.tup f; exact gives_v (.int _) f fun Q q => ⟨_, _, rfl, .inr ⟨_, h1, h2.length.symm⟩, q⟩
  · cases e
    cases hv with | cons h t => cases t; obtain ⟨p, xs, rfl, h1, h2⟩ := h.seqL f rfl; exact gives_v (.int _) f fun Q q => ⟨_, _, rfl, .inl ⟨_, h1, by rw [h2.length, List.length_map]⟩, q⟩
  · cases e
/-- a kind's name -/
def tyn : D → Option String
  | .non => some "NoneType"
  | .bl _ => some "bool"
  | .int _ => some "int"
  | .str _ => some "str"
  | .lst _ => some "list"
  | .tup _ => some "tuple"
  | .scr _ => some "list"
  | .dic _ => some "dict"
  | _ => none
def isT (a n : String) : Bool := a == n || (a == "bool" && n == "int")
def dIsI : List D → Option D
  | [x, .ty n] => match tyn x with
    | some a => if n == "int" || n == "bool" || n == "str" || n == "list" || n == "tuple" || n == "dict" then some (.bl (isT a n)) else none
    | none => none
  | _ => none
theorem kit_all : ∀ a ∈ ["NoneType", "bool", "int", "str", "list", "tuple", "dict"], ∀ n ∈ ["int", "bool", "str", "list", "tuple", "dict"], kitB a n = some (isT a n) := by decide +kernel
theorem tyn_mem {x : D} {a : String} (h : tyn x = some a) : a ∈ ["NoneType", "bool", "int", "str", "list", "tuple", "dict"] := by
  cases x <;> simp [tyn] at h <;> subst h <;> simp
theorem Vw.tyX {F H : Hp} {v : V} {x : D} {a : String} (h : Vw G F H v x) (f : Same F H) (e : tyn x = some a) : TyX G.K H v (.type a) := by
  rcases h with h | ⟨p, u, w, rfl, hp, ow, rfl⟩
  · cases h with
    | non => cases e; exact .base .non
    | bl b => cases e; exact .base (.bl b)
    | int i => cases e; exact .base (.int i)
    | str s _ => cases e; exact .base (.str _)
    | lst h1 _ => cases e; exact .base (.lst (f _ _ h1))
    | tup h1 _ =>
      cases e
      rcases same_seqT f h1 with (h | ⟨o, h⟩) | ⟨o, its, n, h, hc, _⟩
      · exact .base (.tup h)
      · exact .fTuple h
      · exact .kTuple h hc
    | scr h1 =>
      cases e
      rcases f.seq h1 with (h | ⟨o, h⟩) | ⟨o, its, n, h, hc, _⟩
      · exact .base (.lst h)
      · exact .base (.frz h)
      · exact .kList h hc
    | dicK h1 _ => cases e; exact .base (.dK (f _ _ h1))
    | dicT h1 _ => cases e; exact .base (.dT (f _ _ h1))
    | obj _ _ _ _ => cases e
    | ty _ => cases e
  · cases ow with
    | l r => cases e; exact .base (.lst hp)
    | kK r => cases e; exact .base (.dK hp)
    | kT r => cases e; exact .base (.dT hp)
theorem op_dIsI : OpA G (rIsi G.K) dIsI := fun F H vs xs d f hv e => by
  unfold dIsI at e
  split at e
  · split at e
    · rename_i x n _ a ha
      split at e
      · rename_i hn
        cases e
        cases hv with
        | cons h t =>
          cases t with
          | cons h2 t =>
            cases t
            cases h2.ty_eq
            have hm : n ∈ ["int", "bool", "str", "list", "tuple", "dict"] := by
              simp only [Bool.or_eq_true, beq_iff_eq] at hn
              simp only [List.mem_cons, List.not_mem_nil, or_false]
              rcases hn with ((((h | h) | h) | h) | h) | h <;> simp [h]
            exact gives_v (.bl _) f fun Q q => ⟨_, _, _, _, _, rfl, .ty n, h.tyX f ha, kit_ty (kit_all a (tyn_mem ha) n hm), q⟩
      · cases e
    · cases e
  · cases e
theorem VwAll.len {F H : Hp} {vs : List V} {ds : List D} (h : VwAll G F H vs ds) : vs.length = ds.length := by
  induction h with
  | nil => rfl
  | cons _ _ ih => simp [ih]
def boolsD : List D → Option (List Bool)
  | [] => some []
  | .bl b :: r => (boolsD r).map (b :: ·)
  | _ :: _ => none
theorem bools_eq : ∀ {ds : List D} {bs : List Bool}, boolsD ds = some bs → ds = bs.map D.bl
  | [], bs, h => by cases h; rfl
  | .bl b :: r, bs, h => by
    simp only [boolsD] at h
    cases hr : boolsD r with
    | none => rw [hr] at h; cases h
    | some cs => rw [hr] at h; cases h; rw [bools_eq hr]; rfl
def intsD : List D → Option (List Int)
  | [] => some []
  | .int b :: r => (intsD r).map (b :: ·)
  | _ :: _ => none
theorem ints_eq : ∀ {ds : List D} {bs : List Int}, intsD ds = some bs → ds = bs.map D.int
  | [], bs, h => by cases h; rfl
  | .int b :: r, bs, h => by
    simp only [intsD] at h
    cases hr : intsD r with
    | none => rw [hr] at h; cases h
    | some cs => rw [hr] at h; cases h; rw [ints_eq hr]; rfl
def strsD : List D → Option (List (List Nat))
  | [] => some []
  | .str b :: r => (strsD r).map (b :: ·)
  | _ :: _ => none
theorem strs_eq : ∀ {ds : List D} {bs : List (List Nat)}, strsD ds = some bs → ds = bs.map D.str
  | [], bs, h => by cases h; rfl
  | .str b :: r, bs, h => by
    simp only [strsD] at h
    cases hr : strsD r with
    | none => rw [hr] at h; cases h
    | some cs => rw [hr] at h; cases h; rw [strs_eq hr]; rfl
@[simp] theorem bools_map (bs : List Bool) : boolsD (bs.map D.bl) = some bs := by
  induction bs with
  | nil => rfl
  | cons b r ih => simp [boolsD, ih]
@[simp] theorem ints_map (bs : List Int) : intsD (bs.map D.int) = some bs := by
  induction bs with
  | nil => rfl
  | cons b r ih => simp [intsD, ih]
@[simp] theorem strs_map (bs : List (List Nat)) : strsD (bs.map D.str) = some bs := by
  induction bs with
  | nil => rfl
  | cons b r ih => simp [strsD, ih]
def dAll : List D → Option D
  | [.lst ds] => (boolsD ds).map fun bs => .bl (bs.all id)
  | _ => none
def dAny : List D → Option D
  | [.lst ds] => (boolsD ds).map fun bs => .bl (bs.any id)
  | _ => none
theorem op_dAll : OpA G (rAll G.K) dAll := fun F H vs xs d f hv e => by
  unfold dAll at e
  split at e
  · rename_i ds
    cases hb : boolsD ds with
    | none => rw [hb] at e; cases e
    | some bs =>
      rw [hb] at e; cases e
      cases bools_eq hb
      cases hv with
      | cons h t =>
        cases t
        obtain ⟨p, xs, rfl, h1, h2⟩ := h.seqL f rfl
        cases rp_bools_inv h2
        exact gives_v (.bl _) f fun Q q => ⟨_, _, rfl, h1, q⟩
  · cases e
theorem op_dAny : OpA G (rAny G.K) dAny := fun F H vs xs d f hv e => by
  unfold dAny at e
  split at e
  · rename_i ds
    cases hb : boolsD ds with
    | none => rw [hb] at e; cases e
    | some bs =>
      rw [hb] at e; cases e
      cases bools_eq hb
      cases hv with
      | cons h t =>
        cases t
        obtain ⟨p, xs, rfl, h1, h2⟩ := h.seqL f rfl
        cases rp_bools_inv h2
        exact gives_v (.bl _) f fun Q q => ⟨_, _, rfl, h1, q⟩
  · cases e
def dSum : List D → Option D
  | [.lst ds] => (intsD ds).map fun bs => .int bs.sum
  | _ => none
theorem op_dSum : OpA G (rSum G.K) dSum := fun F H vs xs d f hv e => by
  unfold dSum at e
  split at e
  · rename_i ds
    cases hb : intsD ds with
    | none => rw [hb] at e; cases e
    | some bs =>
      rw [hb] at e; cases e
      cases ints_eq hb
      cases hv with
      | cons h t =>
        cases t
        obtain ⟨p, xs, rfl, h1, h2⟩ := h.seqL f rfl
        cases rp_ints_inv h2
        exact gives_v (.int _) f fun Q q => ⟨_, _, rfl, h1, q⟩
  · cases e
def dAbs : List D → Option D
  | [.int i] => some (.int (if i < 0 then -i else i))
  | _ => none
def rAbs : List V → Hp → VK → Prop := fun xs H Q => ∃ i, xs = [.int i] ∧ Q (.int (if i < 0 then -i else i)) H
theorem op_dAbs : OpA G rAbs dAbs := fun F H vs xs d f hv e => by
  unfold dAbs at e
  split at e
  · cases e
    cases hv with | cons h t => cases t; cases h.int_eq; exact gives_v (.int _) f fun Q q => ⟨_, rfl, q⟩
  · cases e
def dMax : List D → Option D
  | [.int i, .int j] => some (.int (if j > i then j else i))
  | _ => none
def rMax2 : List V → Hp → VK → Prop := fun xs H Q => ∃ i j, xs = [.int i, .int j] ∧ Q (.int (if j > i then j else i)) H
theorem op_dMax : OpA G rMax2 dMax := fun F H vs xs d f hv e => by
  unfold dMax at e
  split at e
  · cases e
    cases hv with | cons h t => cases t with | cons h2 t => cases t; cases h.int_eq; cases h2.int_eq; exact gives_v (.int _) f fun Q q => ⟨_, _, rfl, q⟩
  · cases e
def dMin : List D → Option D
  | [.int i, .int j] => some (.int (if j < i then j else i))
  | _ => none
def rMin2 : List V → Hp → VK → Prop := fun xs H Q => ∃ i j, xs = [.int i, .int j] ∧ Q (.int (if j < i then j else i)) H
theorem op_dMin : OpA G rMin2 dMin := fun F H vs xs d f hv e => by
  unfold dMin at e
  split at e
  · cases e
    cases hv with | cons h t => cases t with | cons h2 t => cases t; cases h.int_eq; cases h2.int_eq; exact gives_v (.int _) f fun Q q => ⟨_, _, rfl, q⟩
  · cases e
def dOrd : List D → Option D
  | [.str [c]] => some (.int c)
  | _ => none
def rOrd : List V → Hp → VK → Prop := fun xs H Q => ∃ x : Str, xs = [.str x] ∧ x.length = 1 ∧ Q (.int (x.cps.getD 0 0 : Nat)) H
theorem op_dOrd : OpA G rOrd dOrd := fun F H vs xs d f hv e => by
  unfold dOrd at e
  split at e
  · cases e
    cases hv with | cons h t => cases t; obtain ⟨rfl, _⟩ := h.str_eq; exact gives_v (.int _) f fun Q q => ⟨_, rfl, rfl, q⟩
  · cases e
/-- list(x), tuple(x) -/
def seqD : D → Option (List D)
  | .lst ds => some ds
  | .tup ds => some ds
  | .scr ns => some (ns.map .int)
  | _ => none
theorem Vw.seq {F H : Hp} {v : V} {d : D} {ds : List D} (h : Vw G F H v d) (f : Same F H) (e : seqD d = some ds) : ∃ p xs, v = .ref p ∧ (SqL G.K H p xs ∨ SqT G.K H p xs) ∧ RpAll G F xs ds := by
  unfold seqD at e
  split at e
  · cases e; obtain ⟨p, xs, a, b, c⟩ := h.seqL f rfl; exact ⟨p, xs, a, .inl b, c⟩
  · cases e; obtain ⟨p, xs, a, b, c⟩ := h.tup f; exact ⟨p, xs, a, .inr b, c⟩
  · cases e; obtain ⟨p, xs, a, b, c⟩ := h.seqL f rfl; exact ⟨p, xs, a, .inl b, c⟩
  · cases e
def dListF : List D → Option Ow
  | [d] => (seqD d).map .l
  | _ => none
def rList (K : PySem.W.Frag) : List V → Hp → VK → Prop := fun xs H Q => ∃ p ys, xs = [.ref p] ∧ (SqL K H p ys ∨ SqT K H p ys) ∧ ∀ l, H l = none → Q (.ref l) (upd H l (.lst ys))
theorem op_dListF : OpAF G (rList G.K) dListF := fun F H vs xs d f hv e => by
  unfold dListF at e
  split at e
  · rename_i x
    cases hs : seqD x with
    | none => rw [hs] at e; cases e
    | some ds =>
      rw [hs] at e; cases e
      cases hv with | cons h t => cases t; obtain ⟨p, ys, rfl, h1, h2⟩ := h.seq f hs; exact lays_l h2 fun Q q => ⟨_, _, rfl, h1, q⟩
  · cases e
def dTuple : List D → Option D
  | [.lst ds] => some (.tup ds)
  | [.scr ns] => some (.tup (ns.map .int))
  | [.tup ds] => some (.tup ds)
  | _ => none
def rTuple (K : PySem.W.Frag) : List V → Hp → VK → Prop := fun xs H Q => ∃ p ys, xs = [.ref p] ∧ ((SqL K H p ys ∧ ∀ l, H l = none → Q (.ref l) (upd H l (.tup ys))) ∨ (SqT K H p ys ∧ Q (.ref p) H))
theorem op_dTuple : OpA G (rTuple G.K) dTuple := fun F H vs xs d f hv e => by
  unfold dTuple at e
  split at e
  · cases e
    cases hv with | cons h t => cases t; obtain ⟨p, ys, rfl, h1, h2⟩ := h.seqL f rfl; exact gives_tup h2 f fun Q q => ⟨_, _, rfl, .inl ⟨h1, q⟩⟩
  · cases e
    cases hv with | cons h t => cases t; obtain ⟨p, ys, rfl, h1, h2⟩ := h.seqL f rfl; exact gives_tup h2 f fun Q q => ⟨_, _, rfl, .inl ⟨h1, q⟩⟩
  · cases e
    cases hv with | cons h t => cases t; obtain ⟨p, ys, rfl, h1, h2⟩ := h.tup f; exact gives_v h.tup' f fun Q q => ⟨_, _, rfl, .inr ⟨h1, q⟩⟩
  · cases e
/-- a class as a value -/
theorem de_ty {B : Hp} {W : WX} {x : Str} {pos : Pos} {n : String} (hm : X.mg x = none) (hv : bootBuiltins x = some (.type n) := by decide +kernel) (hg : Gl X x := by rfl) (hn : x ≠ "__name__" := by decide) (hd : (x == ("__debug__" : Str)) = false := by decide) : DE X B W (.Name x pos) (kE (.ty n)) :=
  de_k (pe_bltn (v := .ty n) hg hm hv rfl hn hd) fun _ => .ty n
/-- a module's text or number -/
theorem de_gs {B : Hp} {W : WX} {x : Str} {pos : Pos} {s : List Nat} {t : Tok} (hm : X.mg x = some (.str (tx s) t)) (o : okS s = true := by decide) (hg : Gl X x := by rfl) (hd : (x == ("__debug__" : Str)) = false := by decide) : DE X B W (.Name x pos) (kE (.str s)) :=
  de_k (pe_glob (v := .str (tx s)) hg hm ⟨t, rfl⟩ hd) fun _ => .str s o
theorem de_gi {B : Hp} {W : WX} {x : Str} {pos : Pos} {i : Int} {t : Tok} (hm : X.mg x = some (.int i t)) (hg : Gl X x := by rfl) (hd : (x == ("__debug__" : Str)) = false := by decide) : DE X B W (.Name x pos) (kE (.int i)) :=
  de_k (pe_glob (v := .int i) hg hm ⟨t, rfl⟩ hd) fun _ => .int i

/-! ### what is walked -/
variable {B : Hp} {W : WX} {tg e : Expr} {es : List Expr} {pos : Pos}
theorem PI.or {wi wi' : TI} (h : PI X tg e wi) (h' : PI X tg e wi') : PI X tg e (fun σ H R => wi σ H R ∨ wi' σ H R) := ⟨fun pins s σ H R I q => q.elim (h.run pins s σ H R I) (h'.run pins s σ H R I)⟩
theorem walks_l {F : Hp} {K : PySem.W.Frag} {a : Addr} {xs : List V} {ds : List D} {mg} (h : SqL K F a xs) (r : RpAll ⟨K, mg⟩ F xs ds) : Walks ⟨K, mg⟩ (Itl K a) F ds := fun F' H' f f' i => by
  have hs := f'.seq (f.seq h)
  refine ⟨fun hi => ?_, fun hi => ⟨xs, hs, by rw [r.length]; exact hi⟩, fun d hd x H2 ⟨e, y⟩ => ?_⟩
  · obtain ⟨v, hv, _⟩ := r.get (List.getElem?_eq_getElem hi)
    exact ⟨xs, v, hs, hv⟩
  · subst e
    obtain ⟨v, hv, rv⟩ := r.get hd
    have := y xs hs
    rw [hv] at this; cases this
    exact ⟨F', Same.refl _, f', .refl, rv.mono f⟩
theorem walks_t {F : Hp} {K : PySem.W.Frag} {a : Addr} {xs : List V} {ds : List D} {mg} (h : SqT K F a xs) (r : RpAll ⟨K, mg⟩ F xs ds) : Walks ⟨K, mg⟩ (Itt K a) F ds := fun F' H' f f' i => by
  have hs := same_seqT f' (same_seqT f h)
  refine ⟨fun hi => ?_, fun hi => ⟨xs, hs, by rw [r.length]; exact hi⟩, fun d hd x H2 ⟨e, y⟩ => ?_⟩
  · obtain ⟨v, hv, _⟩ := r.get (List.getElem?_eq_getElem hi)
    exact ⟨xs, v, hs, hv⟩
  · subst e
    obtain ⟨v, hv, rv⟩ := r.get hd
    have := y xs hs
    rw [hv] at this; cases this
    exact ⟨F', Same.refl _, f', .refl, rv.mono f⟩
def sgs (s : List Nat) : List D := s.map fun c => .str [c]
theorem walks_s {F : Hp} {s : List Nat} (o : okS s = true) : Walks G (Its (tx s)) F (sgs s) := fun F' H' f f' i => by
  have sz : (tx s).cps.size = s.length := by simp [tx]
  refine ⟨fun hi => ?_, fun hi => ?_, fun d hd x H2 ⟨e, c, hc, hx⟩ => ?_⟩
  · show i < (tx s).cps.size
    rw [sz]; simpa [sgs] using hi
  · show (tx s).cps.size ≤ i
    rw [sz]; simpa [sgs] using hi
  · subst e; subst hx
    have hc' : s[i]? = some c := by simpa [tx] using hc
    unfold sgs at hd
    rw [List.getElem?_map, hc'] at hd
    cases hd
    exact ⟨F', Same.refl _, f', .refl, .str [c] (okS_sub o fun c' m => by rw [List.mem_singleton] at m; subst m; exact List.mem_of_getElem? hc')⟩
/-- a list, a tuple, a text -/
def itD : D → Option (List D)
  | .lst ds => some ds
  | .tup ds => some ds
  | .scr ns => some (ns.map .int)
  | .str s => some (sgs s)
  | _ => none
def iE (f : Ev D) : Ev (List D) := fun S st => (f S st).bind fun d S st => got (itD d) S st
theorem di_e {f : Ev D} (h : DE X B W e f) : DI X B W tg e (iE f) :=
  pi_imp (PI.or (pi_list h) (PI.or (pi_tup h) (pi_str h))) fun σ H R ⟨F, S, st, o, q⟩ => by
    unfold iE at q
    have q2 := Post.bind (R := RD (Cx.g X) σ) q
    revert q q2
    generalize hr : f S st = r
    intro q q2
    have mk : ∀ {Q : VK}, Post (Cx.g X) B W (RD (Cx.g X) σ) σ F Q r → lift (Cx.g X) B W (RD (Cx.g X)) f σ H Q := fun {Q} q => ⟨F, S, st, o, by rw [hr]; exact q⟩
    cases r with
    | stuck => exact q2.elim
    | exc x S1 st1 => exact .inl (mk q)
    | ok d S1 st1 =>
      have key : ∀ {ds : List D}, itD d = some ds → ∀ F1 H1, Gr B F F1 → Ok (Cx.g X) B F1 σ H1 S1 → ∀ J, Walks (Cx.g X) J F1 ds → R J H1 := fun {ds} hd F1 H1 g1 o1 J w => by
        have q3 : Post (Cx.g X) B W (RW (Cx.g X) σ) σ F R (got (itD d) S1 st1) := q
        rw [hd] at q3
        exact q3 J H1 F1 g1 o1 w
      cases d with
      | lst ds => exact .inl (mk fun v H1 F1 g1 o1 r1 => by cases r1 with | lst h1 h2 => exact ⟨_, rfl, ⟨_, o1.fH.seq (.inl (.inl h1))⟩, key rfl F1 H1 g1 o1 _ (walks_l (.inl (.inl h1)) h2)⟩)
      | scr ns => exact .inl (mk fun v H1 F1 g1 o1 r1 => by cases r1 with | scr h1 => exact ⟨_, rfl, ⟨_, o1.fH.seq h1⟩, key rfl F1 H1 g1 o1 _ (walks_l h1 (rp_ints (Cx.g X) F1 ns))⟩)
      | tup ds => exact .inr (.inl (mk fun v H1 F1 g1 o1 r1 => by cases r1 with | tup h1 h2 => exact ⟨_, rfl, ⟨_, same_seqT o1.fH h1⟩, key rfl F1 H1 g1 o1 _ (walks_t h1 h2)⟩))
      | str s => exact .inr (.inr (mk fun v H1 F1 g1 o1 r1 => by cases r1 with | str _ h1 => exact ⟨_, rfl, key rfl F1 H1 g1 o1 _ (walks_s h1)⟩))
      | _ =>
        exfalso
        exact (show Post (Cx.g X) B W (RW (Cx.g X) σ) σ F R .stuck from q)
/-- range(n) -/
def rng (n : Nat) (lo : Int) : List D := (List.range n).map fun (i : Nat) => D.int (lo + (i : Int))
theorem walks_r {F : Hp} {lo : Int} {n : Nat} : Walks G (Itr lo n) F (rng n lo) := fun F' H' f f' i => by
  refine ⟨fun hi => by show i < n; simpa [rng] using hi, fun hi => by show n ≤ i; simpa [rng] using hi, fun d hd x H2 ⟨e, hx⟩ => ?_⟩
  subst e; subst hx
  unfold rng at hd
  rw [List.getElem?_map] at hd
  cases hl : (List.range n)[i]? with
  | none => rw [hl] at hd; cases hd
  | some j =>
    rw [hl] at hd; cases hd
    have : j = i := by
      have := List.getElem?_eq_some_iff.mp hl
      obtain ⟨h1, h2⟩ := this
      simpa using h2.symm
    subst this
    exact ⟨F', Same.refl _, f', .refl, .int _⟩
def iR1 (f : Ev (List Opd)) : Ev (List D) := fun S st => (f S st).bind fun a S st => match vws S a with
  | some [.int n] => if -1000000 ≤ n ∧ n ≤ 1000000 then .ok (rng n.toNat 0) S st else .stuck
  | _ => .stuck
def iR2 (f : Ev (List Opd)) : Ev (List D) := fun S st => (f S st).bind fun a S st => match vws S a with
  | some [.int a, .int n] => if (-1000000 ≤ a ∧ a ≤ 1000000) ∧ -1000000 ≤ n ∧ n ≤ 1000000 then .ok (rng (n - a).toNat a) S st else .stuck
  | _ => .stuck
theorem di_r1 {f : Ev (List Opd)} {p : Pos} (hm : X.mg "range" = none) (h : DA X B W [e] f) (hg : Gl X "range" := by rfl) (hs : starEach [e] X.env = [(false, eval e X.env)] := by rfl) : DI X B W tg (.Call (.Name "range" p) [e] [] pos) (iR1 f) :=
  pi_imp (pi_range1 hg hm h hs) fun σ H R ⟨F, S, st, o, q⟩ => ⟨F, S, st, o, (Post.bind (R := RpO (Cx.g X) σ) q).mono fun vs H1 ⟨F1, d, S1, st1, g1, o1, r1, p1⟩ => by
    split at p1
    · rename_i n hn
      split at p1
      · rename_i hle
        have ra := o1.vws r1 hn
        cases ra with
        | cons h t =>
          cases t
          cases h.int_eq
          exact ⟨_, rfl, by omega, by omega, p1 _ H1 F1 .refl o1 walks_r⟩
      · exact p1.elim
    · exact p1.elim⟩
theorem di_r2 {e2 : Expr} {f : Ev (List Opd)} {p : Pos} (hm : X.mg "range" = none) (h : DA X B W [e, e2] f) (hg : Gl X "range" := by rfl) (hs : starEach [e, e2] X.env = [(false, eval e X.env), (false, eval e2 X.env)] := by rfl) (hs2 : starEach [e2] X.env = [(false, eval e2 X.env)] := by rfl) : DI X B W tg (.Call (.Name "range" p) [e, e2] [] pos) (iR2 f) :=
  pi_imp (pi_range2 hg hm h hs hs2) fun σ H R ⟨F, S, st, o, q⟩ => ⟨F, S, st, o, (Post.bind (R := RpO (Cx.g X) σ) q).mono fun vs H1 ⟨F1, d, S1, st1, g1, o1, r1, p1⟩ => by
    split at p1
    · rename_i a n hn
      split at p1
      · rename_i hle
        have ra := o1.vws r1 hn
        cases ra with
        | cons h t =>
          cases t with
          | cons h2 t =>
            cases t
            cases h.int_eq
            cases h2.int_eq
            exact ⟨_, _, rfl, ⟨by omega, by omega, by omega, by omega⟩, p1 _ H1 F1 .refl o1 walks_r⟩
      · exact p1.elim
    · exact p1.elim⟩
/-- with the numbers ahead -/
def enumD (ds : List D) : List D := ds.zipIdx.map fun p => .tup [.int p.2, p.1]
theorem new_tup {F' H' : Hp} {T : Addr} {xs : List V} {ds : List D} (f : Same F' H') (hT : H' T = none) (r : RpAll G F' xs ds) : ∃ F2, Same H' (upd H' T (.tup xs)) ∧ Same F2 (upd H' T (.tup xs)) ∧ Gr H' F' F2 ∧ Rp G F2 (.ref T) (.tup ds) :=
  ⟨upd F' T (.tup xs), same_new hT, same_upd2 f, gr_new f hT, .tup (.inl (.inl upd_same)) (r.mono (gr_new (o := .tup xs) f hT).1)⟩
theorem walks_e {F : Hp} {K : PySem.W.Frag} {a : Addr} {xs : List V} {ds : List D} {mg} (h : SqL K F a xs) (r : RpAll ⟨K, mg⟩ F xs ds) : Walks ⟨K, mg⟩ (Ite K a) F (enumD ds) := fun F' H' f f' i => by
  have hs := f'.seq (f.seq h)
  have le : (enumD ds).length = ds.length := by simp [enumD]
  refine ⟨fun hi => ?_, fun hi => ⟨xs, hs, by rw [r.length, ← le]; exact hi⟩, fun d hd x H2 ⟨T, y, e1, hT, e2, hy⟩ => ?_⟩
  · rw [le] at hi
    obtain ⟨v, hv, _⟩ := r.get (List.getElem?_eq_getElem hi)
    exact ⟨xs, v, hs, hv⟩
  · subst e1; subst e2
    unfold enumD at hd
    rw [List.getElem?_map, List.getElem?_zipIdx] at hd
    cases hz : ds[i]? with
    | none => rw [hz] at hd; cases hd
    | some z =>
      rw [hz] at hd; cases hd
      obtain ⟨v, hv, rv⟩ := r.get hz
      have := hy xs hs
      rw [hv] at this; cases this
      have := new_tup (xs := [.int (i : Nat), _]) (ds := [.int ((i : Nat) : Int), z]) f' hT (.cons (.int _) (.one (rv.mono f)))
      simpa using this
def iEn (f : Ev (List Opd)) : Ev (List D) := fun S st => (f S st).bind fun a S st => match vds S a with
  | some [d] => match asL d with
    | some ds => .ok (enumD ds) S st
    | none => .stuck
  | _ => .stuck
theorem rp_asL {F : Hp} {v : V} {d : D} {ds : List D} (h : Rp G F v d) (e : asL d = some ds) : ∃ p xs, v = .ref p ∧ SqL G.K F p xs ∧ RpAll G F xs ds := by
  cases h with
  | lst h1 h2 => cases e; exact ⟨_, _, rfl, .inl (.inl h1), h2⟩
  | scr h1 => cases e; exact ⟨_, _, rfl, h1, rp_ints G F _⟩
  | _ => cases e
theorem di_en {elts : List Expr} {kk : Nat} {tpos : Pos} {f : Ev (List Opd)} {p : Pos} (hm : X.mg "enumerate" = none) (h : DA X B W [e] f) (hg : Gl X "enumerate" := by rfl) (hs : starEach [e] X.env = [(false, eval e X.env)] := by rfl) : DI X B W (.Tuple elts kk tpos) (.Call (.Name "enumerate" p) [e] [] pos) (iEn f) :=
  pi_imp (pi_enum hg hm h hs) fun σ H R ⟨F, S, st, o, q⟩ => ⟨F, S, st, o, (Post.bind (R := RpO (Cx.g X) σ) q).mono fun vs H1 ⟨F1, d, S1, st1, g1, o1, r1, p1⟩ => by
    split at p1
    · rename_i d hd
      split at p1
      · rename_i ds hds
        have ra := o1.vds r1 hd
        cases ra with
        | cons h t =>
          cases t
          obtain ⟨p, xs, rfl, h1, h2⟩ := rp_asL h hds
          exact ⟨p, xs, rfl, o1.fH.seq h1, p1 _ H1 F1 .refl o1 (walks_e h1 h2)⟩
      · exact p1.elim
    · exact p1.elim⟩
def zipD (ds es : List D) : List D := (ds.zip es).map fun p => .tup [p.1, p.2]
theorem walks_z {F : Hp} {K : PySem.W.Frag} {a b : Addr} {xs ys : List V} {ds es : List D} {mg} (h : SqL K F a xs) (r : RpAll ⟨K, mg⟩ F xs ds) (h' : SqL K F b ys) (r' : RpAll ⟨K, mg⟩ F ys es) : Walks ⟨K, mg⟩ (Itz K a b) F (zipD ds es) := fun F' H' f f' i => by
  have hs := f'.seq (f.seq h)
  have hs' := f'.seq (f.seq h')
  have le : (zipD ds es).length = min ds.length es.length := by simp [zipD]
  refine ⟨fun hi => ?_, fun hi => ⟨xs, ys, hs, hs', by rw [r.length, r'.length]; rw [le] at hi; omega⟩, fun d hd x H2 ⟨T, y, z, e1, hT, e2, hy, hz⟩ => ?_⟩
  · rw [le] at hi
    obtain ⟨v, hv, _⟩ := r.get (List.getElem?_eq_getElem (show i < ds.length by omega))
    obtain ⟨w, hw, _⟩ := r'.get (List.getElem?_eq_getElem (show i < es.length by omega))
    exact ⟨xs, ys, v, w, hs, hs', hv, hw⟩
  · subst e1; subst e2
    unfold zipD at hd
    rw [List.getElem?_map] at hd
    cases hq : (ds.zip es)[i]? with
    | none => rw [hq] at hd; cases hd
    | some q =>
      rw [hq] at hd; cases hd
      have hq' := List.getElem?_zip_eq_some.mp hq
      obtain ⟨v, hv, rv⟩ := r.get hq'.1
      obtain ⟨w, hw, rw'⟩ := r'.get hq'.2
      have e1 := hy xs hs
      rw [hv] at e1; cases e1
      have e2 := hz ys hs'
      rw [hw] at e2; cases e2
      exact new_tup (xs := [_, _]) (ds := [q.1, q.2]) f' hT (.cons (rv.mono f) (.one (rw'.mono f)))
def iZ (f : Ev (List Opd)) : Ev (List D) := fun S st => (f S st).bind fun a S st => match vds S a with
  | some [d, e] => match asL d, asL e with
    | some ds, some es => .ok (zipD ds es) S st
    | _, _ => .stuck
  | _ => .stuck
theorem di_z {elts : List Expr} {kk : Nat} {tpos : Pos} {e2 : Expr} {f : Ev (List Opd)} {p : Pos} (hm : X.mg "zip" = none) (h : DA X B W [e, e2] f) (hg : Gl X "zip" := by rfl) (hs : starEach [e, e2] X.env = (false, eval e X.env) :: starEach [e2] X.env := by rfl) (hpl : (backTo pos (starEach [e2] X.env)).any (·.1) = false := by rfl) : DI X B W (.Tuple elts kk tpos) (.Call (.Name "zip" p) [e, e2] [] pos) (iZ f) :=
  pi_imp (pi_zip hg hm h hs hpl) fun σ H R ⟨F, S, st, o, q⟩ => ⟨F, S, st, o, (Post.bind (R := RpO (Cx.g X) σ) q).mono fun vs H1 ⟨F1, d, S1, st1, g1, o1, r1, p1⟩ => by
    split at p1
    · rename_i d e hd
      split at p1
      · rename_i ds es hds hes
        have ra := o1.vds r1 hd
        cases ra with
        | cons h t =>
          cases t with
          | cons h' t =>
            cases t
            obtain ⟨p, xs, rfl, h1, h2⟩ := rp_asL h hds
            obtain ⟨p', ys, rfl, h1', h2'⟩ := rp_asL h' hes
            exact ⟨p, p', xs, ys, rfl, o1.fH.seq h1, o1.fH.seq h1', p1 _ H1 F1 .refl o1 (walks_z h1 h2 h1' h2')⟩
      · exact p1.elim
    · exact p1.elim⟩
theorem walks_v {F : Hp} {K : PySem.W.Frag} {a : Addr} {xs : List V} {ds : List D} {mg} (h : SqL K F a xs) (r : RpAll ⟨K, mg⟩ F xs ds) : Walks ⟨K, mg⟩ (Itv K a xs.length) F ds.reverse := fun F' H' f f' i => by
  have hs := f'.seq (f.seq h)
  have rl := r.length
  refine ⟨fun hi => ?_, fun hi => ?_, fun d hd x H2 ⟨e, y⟩ => ?_⟩
  · rw [List.length_reverse] at hi
    obtain ⟨v, hv, _⟩ := r.get (List.getElem?_eq_getElem (show xs.length - 1 - i < ds.length by omega))
    exact ⟨by omega, xs, v, hs, hv⟩
  · rw [List.length_reverse] at hi
    show xs.length ≤ i
    omega
  · subst e
    have hi : i < ds.length := by
      have := (List.getElem?_eq_some_iff.mp hd).1
      rwa [List.length_reverse] at this
    rw [List.getElem?_reverse hi] at hd
    rw [← rl] at hd
    obtain ⟨v, hv, rv⟩ := r.get hd
    have := y xs hs
    rw [hv] at this; cases this
    exact ⟨F', Same.refl _, f', .refl, rv.mono f⟩
def iV (f : Ev (List Opd)) : Ev (List D) := fun S st => (f S st).bind fun a S st => match vds S a with
  | some [d] => match asL d with
    | some ds => .ok ds.reverse S st
    | none => .stuck
  | _ => .stuck
theorem di_v {f : Ev (List Opd)} {p : Pos} (hm : X.mg "reversed" = none) (h : DA X B W [e] f) (hg : Gl X "reversed" := by rfl) (hs : starEach [e] X.env = [(false, eval e X.env)] := by rfl) : DI X B W tg (.Call (.Name "reversed" p) [e] [] pos) (iV f) :=
  pi_imp (pi_reversed hg hm h hs) fun σ H R ⟨F, S, st, o, q⟩ => ⟨F, S, st, o, (Post.bind (R := RpO (Cx.g X) σ) q).mono fun vs H1 ⟨F1, d, S1, st1, g1, o1, r1, p1⟩ => by
    split at p1
    · rename_i d hd
      split at p1
      · rename_i ds hds
        have ra := o1.vds r1 hd
        cases ra with
        | cons h t =>
          cases t
          obtain ⟨p, xs, rfl, h1, h2⟩ := rp_asL h hds
          exact ⟨p, xs, rfl, o1.fH.seq h1, p1 _ H1 F1 .refl o1 (walks_v h1 h2)⟩
      · exact p1.elim
    · exact p1.elim⟩
end
/-- the built-ins' names are the module's own nowhere -/
structure Bl (mg : Str → Option Value) : Prop where
  len : mg "len" = none
  isinstance : mg "isinstance" = none
  str : mg "str" = none
  int : mg "int" = none
  bool : mg "bool" = none
  list : mg "list" = none
  tuple : mg "tuple" = none
  dict : mg "dict" = none
  set : mg "set" = none
  range : mg "range" = none
  enumerate : mg "enumerate" = none
  zip : mg "zip" = none
  reversed : mg "reversed" = none
  sorted : mg "sorted" = none
  sum : mg "sum" = none
  all : mg "all" = none
  any : mg "any" = none
  abs : mg "abs" = none
  max : mg "max" = none
  min : mg "min" = none
  ord : mg "ord" = none
  divmod : mg "divmod" = none
  repr : mg "repr" = none
end DL

namespace DL
open PySem PySem.Spec PyProof.Rows L2
section
variable {G : Gx} {X : Cx}
/-! ### texts: join, parts -/
def joinN (a : List Nat) : List (List Nat) → List Nat
  | [] => []
  | [x] => x
  | x :: y :: r => x ++ a ++ joinN a (y :: r)
theorem join_tx (a : List Nat) : ∀ ss : List (List Nat), Txt.join (tx a) (ss.map tx) = tx (joinN a ss) := fun ss => by
  show Builtin.Str.glued (tx a) (ss.map tx) = _
  rw [StrLaws.glued_eq_join]
  induction ss with
  | nil => rfl
  | cons x r ih =>
    cases r with
    | nil => rfl
    | cons y r =>
      show tx x ++ tx a ++ Str.join (tx a) ((y :: r).map tx) = _
      rw [ih, tx_app, tx_app]; rfl
theorem okS_join {a : List Nat} (h : okS a = true) : ∀ {ss : List (List Nat)}, (∀ s ∈ ss, okS s = true) → okS (joinN a ss) = true
  | [], _ => rfl
  | [x], k => k x (List.mem_cons_self ..)
  | x :: y :: r, k => okS_app (okS_app (k x (List.mem_cons_self ..)) h) (okS_join h fun s m => k s (List.mem_cons_of_mem _ m))
theorem strs_ok {F : Hp} : ∀ {xs : List V} {ss : List (List Nat)}, RpAll G F xs (ss.map D.str) → ∀ s ∈ ss, okS s = true
  | _, [], _, s, m => by cases m
  | _ :: _, x :: r, .cons h t, s, m => by
    cases h with
    | str _ o =>
      rcases List.mem_cons.mp m with e | m
      · rw [e]; exact o
      · exact strs_ok t s m
def dJoin : D → List D → Option D
  | .str a, [d] => match seqD d with
    | some ds => match strsD ds with
      | some ss => if (ss.map (·.length)).sum + ss.length * a.length ≤ 16777216 then some (.str (joinN a ss)) else none
      | none => none
    | none => none
  | _, _ => none
theorem op_dJoin : OpM G (fun x xs H Q => ∃ a p, ∃ ys : List Str, x = .str a ∧ xs = [.ref p] ∧ (SqL G.K H p (ys.map V.str) ∨ SqT G.K H p (ys.map V.str)) ∧ (ys.map (·.length)).sum + ys.length * a.length ≤ 16777216 ∧ Q (.str (Txt.join a ys)) H) dJoin := fun F H v vs x xs d f hv hvs e => by
  unfold dJoin at e
  split at e
  · rename_i a d1
    split at e
    · rename_i ds hds
      split at e
      · rename_i ss hss
        split at e
        · rename_i hle
          cases e
          obtain ⟨rfl, o⟩ := hv.str_eq
          cases hvs with
          | cons h t =>
            cases t
            obtain ⟨p, ys, rfl, h1, h2⟩ := h.seq f hds
            cases strs_eq hss
            cases rp_strs_inv h2
            have o2 := strs_ok h2
            refine gives_v (.str _ (okS_join o o2)) f fun Q q => ⟨_, _, _, rfl, rfl, h1, ?_, by rw [join_tx]; exact q⟩
            have e1 : ((ss.map tx).map (·.length)) = ss.map (·.length) := by
              rw [List.map_map]; exact List.map_congr_left fun s _ => tx_len s
            rw [e1, List.length_map, tx_len]; exact hle
        · cases e
      · cases e
    · cases e
  · cases e
/-- new lists of texts -/
theorem gives_strs {F H : Hp} {r : VK → Prop} {ss : List (List Nat)} (o : ∀ s ∈ ss, okS s = true) (f : Same F H) (h : ∀ Q : VK, rNewStrs (ss.map tx) H Q → r Q) : Gives r G F H (.lst (ss.map .str)) := by
  have rp : RpAll G F ((ss.map tx).map V.str) (ss.map D.str) := by rw [List.map_map]; exact rp_strs G F ss o
  exact gives_lst rp f fun Q q => h Q q
def cpsL (ys : List Str) : List (List Nat) := ys.map fun y => y.cps.toList
theorem map_tx_cps (ys : List Str) : (cpsL ys).map tx = ys := by
  unfold cpsL; rw [List.map_map]
  exact (List.map_congr_left fun y _ => tx_cps y).trans (List.map_id _)
def dSplit : D → List D → Option D
  | .str a, [.str b] => if 0 < b.length ∧ a.length + 2 ≤ 16777216 ∧ (∀ s ∈ cpsL (Txt.split (tx a) (tx b)), okS s = true) then some (.lst ((cpsL (Txt.split (tx a) (tx b))).map .str)) else none
  | _, _ => none
theorem op_dSplit : OpM G (fun x xs H Q => ∃ a b, x = .str a ∧ xs = [.str b] ∧ (b.length == 0) = false ∧ a.length + 2 ≤ sizeLine ∧ rNewStrs (Txt.split a b) H Q) dSplit := fun F H v vs x xs d f hv hvs e => by
  unfold dSplit at e
  split at e
  · split at e
    · rename_i h
      cases e
      obtain ⟨rfl, o⟩ := hv.str_eq
      cases hvs with
      | cons h1 t =>
        cases t
        obtain ⟨rfl, o1⟩ := h1.str_eq
        exact gives_strs h.2.2 f fun Q q => ⟨_, _, rfl, rfl, by rw [tx_len]; exact beq_false_of_ne (by omega), by rw [tx_len, sizeLine_eq]; exact h.2.1, by rw [map_tx_cps] at q; exact q⟩
    · cases e
  · cases e
def dWords : D → Option D
  | .str a => if a.length + 2 ≤ 16777216 ∧ (∀ s ∈ cpsL (Txt.words (tx a)), okS s = true) then some (.lst ((cpsL (Txt.words (tx a))).map .str)) else none
  | _ => none
theorem op_dWords : Op1 G (fun x H Q => ∃ a, x = .str a ∧ ([] : List V) = [] ∧ a.length + 2 ≤ sizeLine ∧ rNewStrs (Txt.words a) H Q) dWords := fun F H v x d f hv e => by
  unfold dWords at e
  split at e
  · split at e
    · rename_i h
      cases e
      obtain ⟨rfl, o⟩ := hv.str_eq
      exact gives_strs h.2 f fun Q q => ⟨_, rfl, rfl, by rw [tx_len, sizeLine_eq]; exact h.1, by rw [map_tx_cps] at q; exact q⟩
    · cases e
  · cases e
def d2S (g : List Nat → List Nat → D) : D → List D → Option D
  | .str a, [.str b] => some (g a b)
  | _, _ => none
def dStarts := d2S fun a b => .bl (Txt.startswith (tx a) (tx b))
def dEnds := d2S fun a b => .bl (Txt.endswith (tx a) (tx b))
def dFind := d2S fun a b => .int (Txt.find (tx a) (tx b))
theorem op_dStarts : OpM G (fun x xs H Q => ∃ a b, x = .str a ∧ xs = [.str b] ∧ Q (.bl (Txt.startswith a b)) H) dStarts := fun F H v vs x xs d f hv hvs e => by
  unfold dStarts d2S at e
  split at e
  · cases e
    obtain ⟨rfl, o⟩ := hv.str_eq
    cases hvs with | cons h1 t => cases t; obtain ⟨rfl, o1⟩ := h1.str_eq; exact gives_v (.bl _) f fun Q q => ⟨_, _, rfl, rfl, q⟩
  · cases e
theorem op_dEnds : OpM G (fun x xs H Q => ∃ a b, x = .str a ∧ xs = [.str b] ∧ Q (.bl (Txt.endswith a b)) H) dEnds := fun F H v vs x xs d f hv hvs e => by
  unfold dEnds d2S at e
  split at e
  · cases e
    obtain ⟨rfl, o⟩ := hv.str_eq
    cases hvs with | cons h1 t => cases t; obtain ⟨rfl, o1⟩ := h1.str_eq; exact gives_v (.bl _) f fun Q q => ⟨_, _, rfl, rfl, q⟩
  · cases e
theorem op_dFind : OpM G (fun x xs H Q => ∃ a b, x = .str a ∧ xs = [.str b] ∧ Q (.int (Txt.find a b)) H) dFind := fun F H v vs x xs d f hv hvs e => by
  unfold dFind d2S at e
  split at e
  · cases e
    obtain ⟨rfl, o⟩ := hv.str_eq
    cases hvs with | cons h1 t => cases t; obtain ⟨rfl, o1⟩ := h1.str_eq; exact gives_v (.int _) f fun Q q => ⟨_, _, rfl, rfl, q⟩
  · cases e
/-! ### numbers as texts -/
def numS (i : Int) : List Nat := (Str.ofString (toString i)).cps.toList
theorem okS_str (x : String) : okS (Str.ofString x).cps.toList = true := by
  have : (Str.ofString x).cps.toList = x.toList.map Char.toNat := PyProof.Rows.signs_ofString x
  rw [this]
  unfold okS
  rw [List.all_map, List.all_eq_true]
  intro c _
  simp
  have := c.valid
  show c.val.toNat < 1114112
  rcases this with h | h
  · exact Nat.lt_trans h (by decide)
  · exact h.2
theorem okS_num (i : Int) : okS (numS i) = true := okS_str _
def dStr : List D → Option D
  | [.int i] => if i.natAbs.log2 < 1920 then some (.str (numS i)) else none
  | _ => none
theorem op_dStr : OpA G (fun xs H Q => ∃ i, xs = [.int i] ∧ i.natAbs.log2 < 1920 ∧ Q (.str (toString i)) H) dStr := fun F H vs xs d f hv e => by
  unfold dStr at e
  split at e
  · split at e
    · rename_i h
      cases e
      cases hv with | cons h1 t => cases t; cases h1.int_eq; exact gives_v (.str _ (okS_num _)) f fun Q q => ⟨_, rfl, h, q⟩
    · cases e
  · cases e
def rIntAll : List V → Hp → VK → Prop := fun xs H Q => ((∃ i, xs = [.int i] ∧ Q (.int i) H) ∨ ∃ k, xs = [.bl k] ∧ Q (.int (if k then 1 else 0)) H) ∨ (∃ a n, xs = [.str a] ∧ PySem.intText? a = some n ∧ a.length ≤ 640 ∧ Q (.int n) H)
theorem opR_int : CallR X (.type "int") rIntAll := CallR.or call_int1 call_int_str
def dInt : List D → Option D
  | [.int i] => some (.int i)
  | [.bl k] => some (.int (if k then 1 else 0))
  | [.str s] => if s.length ≤ 640 then (PySem.intText? (tx s)).map .int else none
  | _ => none
theorem op_dInt : OpA G rIntAll dInt := fun F H vs xs d f hv e => by
  unfold dInt at e
  split at e
  · cases e
    cases hv with | cons h1 t => cases t; cases h1.int_eq; exact gives_v (.int _) f fun Q q => .inl (.inl ⟨_, rfl, q⟩)
  · cases e
    cases hv with | cons h1 t => cases t; cases h1.bl_eq; exact gives_v (.int _) f fun Q q => .inl (.inr ⟨_, rfl, q⟩)
  · rename_i s
    split at e
    · rename_i h
      cases hn : PySem.intText? (tx s) with
      | none => rw [hn] at e; cases e
      | some n =>
        rw [hn] at e; cases e
        cases hv with | cons h1 t => cases t; obtain ⟨rfl, o1⟩ := h1.str_eq; exact gives_v (.int _) f fun Q q => .inr ⟨_, n, rfl, hn, by rw [tx_len]; exact h, q⟩
    · cases e
  · cases e
/-! ### x.index(y) -/
def dDivmod : List D → Option D
  | [.int i, .int j] => if 0 < j ∧ j.natAbs.log2 < 9000 then some (.tup [.int (i / j), .int (i % j)]) else none
  | _ => none
end
/-! ### a op b op c -/
section
variable {X : Cx} {B : Hp} {W : WX} {e a b c : Expr} {es : List Expr} {pos : Pos}
def o3E (op op' : D → D → Option D) (fa fb fc : Ev Opd) : Ev D := fun S st => (fa S st).bind fun a S st => (fb S st).bind fun b S st =>
  match vw S a, vw S b with
  | some x, some y => match op x y with
    | some (.bl true) => (fc S st).bind fun c S st => match vw S b, vw S c with
      | some y, some z => got (op' y z) S st
      | _, _ => .stuck
    | some (.bl false) => .ok (.bl false) S st
    | _ => .stuck
  | _, _ => .stuck
theorem op3_lift {r r' : R2} {op op' : D → D → Option D} {fa fb fc : Ev Opd} (h : Op2 (Cx.g X) r op) (h' : Op2 (Cx.g X) r' op') {σ : L2.St} {H : Hp} {Q : VK} (q : lift (Cx.g X) B W (RD (Cx.g X)) (o3E op op' fa fb fc) σ H Q) :
    tChain r r' (lift (Cx.g X) B W (RO (Cx.g X)) fa) (lift (Cx.g X) B W (RO (Cx.g X)) fb) (lift (Cx.g X) B W (RO (Cx.g X)) fc) σ H Q := by
  obtain ⟨F, S, st, o, q⟩ := q
  refine ⟨F, S, st, o, (Post.bind (R := RO (Cx.g X) σ) q).mono fun v H1 ⟨F1, d, S1, st1, g1, o1, r1, p1⟩ => ⟨F1, S1, st1, o1, (Post.bind (R := RO (Cx.g X) σ) p1).mono fun w H2 ⟨F2, d2, S2, st2, g2, o2, r2, p2⟩ => ?_⟩⟩
  split at p2
  · rename_i x y hx hy
    split at p2
    · rename_i hz
      refine h F2 H2 v w x y _ o2.fH (o2.vw (r1.mono g2.1) hx) (o2.vw r2 hy) hz _ fun v' H' F' k f gr rr => ?_
      cases rr
      refine ⟨_, rfl, ?_⟩
      simp only [if_true]
      refine ⟨F', S2, st2, o2.grow gr k f, ?_⟩
      have g' : Gr B F2 F' := o2.gr gr
      refine (Post.grow g' (Post.bind (R := RO (Cx.g X) σ) p2)).mono fun u H3 ⟨F3, d3, S3, st3, g3, o3, r3, p3⟩ => ?_
      split at p3
      · rename_i y' z hy' hz'
        obtain ⟨t, ht, p3⟩ := got_ok p3
        exact (h' F3 H3 w u y' z t o3.fH (o3.vw (r2.mono g3.1) hy') (o3.vw r3 hz') ht).fin o3 p3
      · exact p3.elim
    · rename_i hz
      refine h F2 H2 v w x y _ o2.fH (o2.vw (r1.mono g2.1) hx) (o2.vw r2 hy) hz _ fun v' H' F' k f gr rr => ?_
      cases rr
      refine ⟨_, rfl, ?_⟩
      simp only [Bool.false_eq_true, if_false]
      exact p2 _ H' F' (o2.gr gr) (o2.grow gr k f) (.bl _)
    · exact p2.elim
  · exact p2.elim
theorem de_chain {o o' : CmpOp} {r r' : R2} {op op' : D → D → Option D} {fa fb fc : Ev Opd} (ho : OpR X (compareOp o) r) (h : Op2 (Cx.g X) r op) (ho' : OpR X (compareOp o') r') (h' : Op2 (Cx.g X) r' op') (ha : DO X B W a fa) (hb : DO X B W b fb) (hc : DO X B W c fc)
    (hm : lastMarks [o, o'] [b, c] = false := by with_unfolding_all rfl) : DE X B W (.Compare a [o, o'] [b, c] pos) (o3E op op' fa fb fc) :=
  pe_imp (pe_chain ho ho' ha hb hc hm) fun _ _ _ q => op3_lift h h' q
theorem dt_chain {o o' : CmpOp} {r r' : R2} {op op' : D → D → Option D} {fa fb fc : Ev Opd} (ho : OpR X (compareOp o) r) (h : Op2 (Cx.g X) r op) (ho' : OpR X (compareOp o') r') (h' : Op2 (Cx.g X) r' op') (ha : DO X B W a fa) (hb : DO X B W b fb) (hc : DO X B W c fc)
    (hm : lastMarks [o, o'] [b, c] = false := by with_unfolding_all rfl) : DT X B W (.Compare a [o, o'] [b, c] pos) (tV (o3E op op' fa fb fc)) :=
  pt_imp (pt_chain ho ho' ha hb hc hm) fun _ _ _ q => test_lift (fun _ _ _ q => op3_lift h h' q) q
/-! ### list(reversed(x)) -/
end
end DL



namespace DL
open PySem PySem.Spec PyProof.Rows L2
/-! ### objects that stay -/
theorem RpF.look {G : Gx} {F : Hp} : ∀ {fs : List (Str × V)} {es : List (Nat × D)} {k : Nat} {d : D}, RpF G F fs es → okN k → es.lookup k = some d → ∃ v, fs.lookup (nmS k) = some v ∧ Rp G F v d
  | _, _, _, _, .nil, _, e => by cases e
  | _, _, k, d, .cons (k := k') o h t, ok, e => by
    rw [List.lookup_cons] at e ⊢
    by_cases hk : k = k'
    · subst hk
      rw [beq_self_eq_true] at e ⊢
      cases e
      exact ⟨_, rfl, h⟩
    · rw [beq_false_of_ne hk] at e
      rw [beq_false_of_ne fun z => hk (nmS_inj ok o z)]
      exact RpF.look t ok e
theorem RpF.miss {G : Gx} {F : Hp} : ∀ {fs : List (Str × V)} {es : List (Nat × D)} {k : Nat}, RpF G F fs es → okN k → es.lookup k = none → fs.lookup (nmS k) = none
  | _, _, _, .nil, _, _ => rfl
  | _, _, k, .cons (k := k') o h t, ok, e => by
    rw [List.lookup_cons] at e ⊢
    by_cases hk : k = k'
    · subst hk
      rw [beq_self_eq_true] at e
      cases e
    · rw [beq_false_of_ne hk] at e
      rw [beq_false_of_ne fun z => hk (nmS_inj ok o z)]
      exact RpF.miss t ok e
theorem RpF.zip {G : Gx} {F : Hp} : ∀ {vs : List V} {ds : List D} (ks : List Nat), (∀ k ∈ ks, okN k) → RpAll G F vs ds → RpF G F ((ks.map nmS).zip vs) (ks.zip ds)
  | _, _, [], _, _ => by simp; exact .nil
  | _, _, _ :: _, _, .nil => by simp; exact .nil
  | _, _, k :: ks, o, .cons h t => by
    simp only [List.map_cons, List.zip_cons_cons]
    exact .cons (o k (List.mem_cons_self ..)) h (RpF.zip ks (fun x m => o x (List.mem_cons_of_mem _ m)) t)
/-- o.f, of an instance of one of the classes cs -/
def dFld (cs : List Nat) (k : Nat) : D → Option D
  | .obj c es => if c ∈ cs then es.lookup k else none
  | _ => none
/-- what is known of the classes cs and a field's name -/
def ClsF (K : PySem.W.Frag) (mg : Str → Option Value) (cs : List Nat) (f : Str) : Prop := ∀ c ∈ cs, ∀ C, mg (nmS c) = some (.ref C) → Cls K C ∧ NoAttr K C f
theorem ClsF.nil {K : PySem.W.Frag} {mg : Str → Option Value} {f : Str} : ClsF K mg [] f := fun _ h => by cases h
theorem ClsF.cons {K : PySem.W.Frag} {mg : Str → Option Value} {f : Str} {c : Nat} {cs : List Nat} {C : Addr} (h : mg (nmS c) = some (.ref C)) (h1 : Cls K C) (h2 : NoAttr K C f) (t : ClsF K mg cs f) : ClsF K mg (c :: cs) f := fun x hx C' hC => by
  rcases List.mem_cons.mp hx with z | z
  · subst z
    rw [h] at hC; cases hC
    exact ⟨h1, h2⟩
  · exact t x z C' hC
section
variable {X : Cx} {B : Hp} {W : WX} {e a b c : Expr} {es : List Expr} {pos : Pos}
theorem Vw.obj {G : Gx} {F H : Hp} {v : V} {c : Nat} {es : List (Nat × D)} (h : Vw G F H v (.obj c es)) : Rp G F v (.obj c es) := by
  rcases h with h | ⟨p, u, w, rfl, hp, ow, e⟩
  · exact h
  · cases w <;> cases e
theorem de_fld {f : Str} {fa : Ev Opd} (cs : List Nat) (k : Nat) (hk : nmS k = f) (ok : okN k) (ht : ClsF X.K X.mg cs f) (ho : DO X B W a fa) (hb : attributeBase a f X.env (eval a X.env) = eval a X.env := by rfl) : DE X B W (.Attribute a f pos) (o1E (dFld cs k) fa) :=
  pe_imp (pe_fld ho hb) fun σ H Q ⟨F, S, st, o, q⟩ => ⟨F, S, st, o, (Post.bind (R := RO (Cx.g X) σ) q).mono fun v H1 ⟨F1, d, S1, st1, g1, o1, r1, p1⟩ => by
    split at p1
    · rename_i x hx
      obtain ⟨z, hz, p2⟩ := got_ok p1
      unfold dFld at hz
      split at hz
      · rename_i c es
        split at hz
        · rename_i hc
          have r := (o1.vw r1 hx).obj
          cases r with
          | obj h1 h2 h3 h4 =>
            obtain ⟨u, hu, ru⟩ := h4.look ok hz
            obtain ⟨t1, t2⟩ := ht c hc _ h3
            rw [hk] at hu
            exact ⟨_, _, _, _, _, rfl, o1.fH _ _ h1, t1, t2, hu, p2 _ H1 F1 .refl o1 ru⟩
        · cases hz
      · cases hz
    · exact p1.elim⟩
/-! ### methods, by the receiver's class -/
def tMethX (X : Cx) (m : Str) (W : WX) (ta : TE) (t : TA) : TE := fun σ H Q => ta σ H fun x H1 => ∃ (a C dx : Addr) (fs : List (Str × V)) (f : Addr) (fd : FuncData) (ps : List Str) (k : Nat) (sp : Sp), x = .ref a ∧ H1 a = some (.ins C dx fs) ∧ fs.lookup m = none ∧
  Cls X.K C ∧ Meth X.K C m f ∧ FnOk X.prog X.w X.K X.mg X.base (L2.CX X.prog X.w) k f fd ps sp ∧ Room k X.A ∧ Binds X.K fd ps [] ∧ t σ H1 fun vs H2 => sp (.ref a :: vs) H2 Q (WE W σ)
theorem pe_methX {m : Str} {apos : Pos} {ta : TE} {t : TA} {pl : Sem Bool} (tk : Takes X W) (he : PE X a ta) (ha : PA X (e :: es) t)
    (hst : starEach (e :: es) X.env = (false, eval e X.env) :: starEach es X.env := by rfl) (hpl : (backTo pos (starEach es X.env)).any (·.1) = false := by rfl)
    (ht : eval (.Call (.Attribute a m apos) (e :: es) [] pos) X.env = (do
      let ov ← eval a X.env
      standAt apos.atName
      let (f, first) ← holding [ov] (getMethod ov m pl)
      callWith pos f first (backTo pos (starEach (e :: es) X.env)) (backToKw pos (keywordEach [] X.env))) := by rfl) :
    PE X (.Call (.Attribute a m apos) (e :: es) [] pos) (tMethX X m W ta t) := by
  refine ⟨fun pins s σ H Q I h => ?_⟩
  refine PySem.W.methodCall_KW (pl := pl) (thn (he.run pins s σ H _ I h) fun u s1 ⟨x, H1, I1, rx, ad, C, dx, fs, f, fd, ps, k, sp, ex, ea, l, cl, hm, F, hr, hb, q⟩ => ?_) ht
  subst ex
  obtain rfl : u = Value.ref ad := rx
  refine getmeth_ok I1 ea cl hm l ?_
  refine PySem.W.callWith_K (first := [.ref ad]) (h₀ := X.base) I.ok.mod.kin hm.kp (thn (ha.run pos pins s1 σ H1 _ I1 q) fun us s2 ⟨vs, H2, I2, r, q2⟩ => ⟨I2.kIn, ?_⟩) hst hpl
  exact run_fnS (us := .ref ad :: us) (vs := .ref ad :: vs) (E := WE W) F hr hb (passAt tk σ) I2 (.cons rfl r) q2
theorem pe_methX0 {m : Str} {apos : Pos} {ta : TE} {pl : Sem Bool} (tk : Takes X W) (he : PE X a ta)
    (ht : eval (.Call (.Attribute a m apos) [] [] pos) X.env = (do
      let ov ← eval a X.env
      standAt apos.atName
      let (f, first) ← holding [ov] (getMethod ov m pl)
      callWith pos f first (backTo pos (starEach [] X.env)) (backToKw pos (keywordEach [] X.env))) := by rfl) :
    PE X (.Call (.Attribute a m apos) [] [] pos) (tMethX X m W ta tNil) := by
  refine ⟨fun pins s σ H Q I h => ?_⟩
  refine PySem.W.methodCall_KW (pl := pl) (thn (he.run pins s σ H _ I h) fun u s1 ⟨x, H1, I1, rx, ad, C, dx, fs, f, fd, ps, k, sp, ex, ea, l, cl, hm, F, hr, hb, q⟩ => ?_) ht
  subst ex
  obtain rfl : u = Value.ref ad := rx
  refine getmeth_ok I1 ea cl hm l ?_
  exact PySem.W.callWith_K0 (first := [.ref ad]) I1.kIn hm.kp (run_fnS (us := [.ref ad]) (vs := [.ref ad]) (E := WE W) F hr hb (passAt tk σ) I1 (.cons rfl .nil) q)
structure MDef (P : Program) (w : World) (K : PySem.W.Frag) (mg : Str → Option Value) (base : Heap) (k : Nat) (m : Str) (n : Nat) (cs : List Nat) (tab : Nat → CallT) : Prop where
  ex : ∀ c ∈ cs, ∀ C, mg (nmS c) = some (.ref C) → ∃ f fd ps, Cls K C ∧ Meth K C m f ∧ FnOk P w K mg base (L2.CX P w) k f fd ps (spOf ⟨K, mg⟩ n (tab c)) ∧ Binds K fd ps []
theorem MDef.mono {P : Program} {w : World} {K : PySem.W.Frag} {mg : Str → Option Value} {base : Heap} {k j : Nat} {m : Str} {n : Nat} {cs : List Nat} {tab : Nat → CallT} (d : MDef P w K mg base k m n cs tab) (h : k ≤ j) : MDef P w K mg base j m n cs tab :=
  ⟨fun c hc C hC => by
    obtain ⟨f, fd, ps, a1, a2, a3, a4⟩ := d.ex c hc C hC
    exact ⟨f, fd, ps, a1, a2, a3.mono h, a4⟩⟩
theorem MDef.nil {P : Program} {w : World} {K : PySem.W.Frag} {mg : Str → Option Value} {base : Heap} {k : Nat} {m : Str} {n : Nat} {tab : Nat → CallT} : MDef P w K mg base k m n [] tab := ⟨fun _ h => by cases h⟩
theorem MDef.cons {P : Program} {w : World} {K : PySem.W.Frag} {mg : Str → Option Value} {base : Heap} {k : Nat} {m : Str} {n : Nat} {tab : Nat → CallT} {c : Nat} {cs : List Nat} {C f : Addr} {fd : FuncData} {ps : List Str} (h : mg (nmS c) = some (.ref C)) (h1 : Cls K C) (h2 : Meth K C m f)
    (h3 : FnOk P w K mg base (L2.CX P w) k f fd ps (spOf ⟨K, mg⟩ n (tab c))) (h4 : Binds K fd ps []) (t : MDef P w K mg base k m n cs tab) : MDef P w K mg base k m n (c :: cs) tab := ⟨fun x hx C' hC => by
  rcases List.mem_cons.mp hx with z | z
  · subst z
    rw [h] at hC; cases hC
    exact ⟨f, fd, ps, h1, h2, h3, h4⟩
  · exact t.ex x z C' hC⟩
def mcE (cs : List Nat) (mk : Nat) (tab : Nat → CallT) (fo : Ev D) (fa : Ev (List Opd)) : Ev D := fun S st => (fo S st).bind fun o S st => match o with
  | .obj c es => if c ∈ cs ∧ es.lookup mk = none then (fa S st).bind fun a S st => match vds S a with
      | some ds => match tab c (.obj c es :: ds) st with
        | .ok d _ st => .ok d S st
        | .exc x _ st => .exc x S st
        | .stuck => .stuck
      | none => .stuck
    else .stuck
  | _ => .stuck
theorem rpO_len {G : Gx} {σ : L2.St} {F : Hp} {vs : List V} {as : List Opd} (h : RpO G σ F vs as) : vs.length = as.length := by
  induction h with
  | nil => rfl
  | cons _ _ ih => simp [ih]
theorem mc_lift {m : Str} {mk k n : Nat} {cs : List Nat} {tab : Nat → CallT} {fo : Ev D} {fa : Ev (List Opd)} (hmk : nmS mk = m) (okm : okN mk) (d : MDef X.prog X.w X.K X.mg X.base k m (n + 1) cs tab) (hr : Room k X.A) (hl : aLen fa n) {σ : L2.St} {H : Hp} {Q : VK}
    (q : lift (Cx.g X) B W (RD (Cx.g X)) (mcE cs mk tab fo fa) σ H Q) : tMethX X m W (lift (Cx.g X) B W (RD (Cx.g X)) fo) (lift (Cx.g X) B W (RpO (Cx.g X)) fa) σ H Q := by
  obtain ⟨F, S, st, o, q⟩ := q
  refine ⟨F, S, st, o, (Post.bind (R := RD (Cx.g X) σ) q).mono fun v H1 ⟨F1, d1, S1, st1, g1, o1, r1, p1⟩ => ?_⟩
  split at p1
  · rename_i c es
    split at p1
    · rename_i hc
      have r1' : Rp (Cx.g X) F1 v (.obj c es) := r1
      cases r1 with
      | @obj a dx C _ fs _ h1 h2 h3 h4 =>
        obtain ⟨f, fd, ps, t1, t2, t3, t4⟩ := d.ex c hc.1 C h3
        refine ⟨a, C, dx, fs, f, fd, ps, k, _, rfl, o1.fH _ _ h1, by rw [← hmk]; exact h4.miss okm hc.2, t1, t2, t3, hr, t4, F1, S1, st1, o1, ?_⟩
        have key : ∀ (r : Res (List Opd)) (hl : ∀ r' S' st', r = .ok r' S' st' → r'.length = n), Post (Cx.g X) B W (RD (Cx.g X) σ) σ F1 Q (r.bind fun a S st => match vds S a with
            | some ds => match tab c (.obj c es :: ds) st with
              | .ok d _ st => .ok d S st
              | .exc x _ st => .exc x S st
              | .stuck => .stuck
            | none => .stuck) → Post (Cx.g X) B W (RpO (Cx.g X) σ) σ F1 (fun vs H2 => spOf (Cx.g X) (n + 1) (tab c) (.ref a :: vs) H2 Q (WE W σ)) r := by
          intro r hl q
          cases r with
          | exc y S2 st2 => exact q
          | stuck => exact q
          | ok as S2 st2 =>
            intro vs H2 F2 g2 o2 r2
            have q : Post (Cx.g X) B W (RD (Cx.g X) σ) σ F1 Q (match vds S2 as with
              | some ds => match tab c (.obj c es :: ds) st2 with
                | .ok d _ st => .ok d S2 st
                | .exc x _ st => .exc x S2 st
                | .stuck => .stuck
              | none => .stuck) := q
            split at q
            · rename_i ds hds
              have ra := o2.vds r2 hds
              refine ⟨?_, F2, .obj c es :: ds, st2, o2.fH, .cons (r1'.mono g2.1) ra, ?_⟩
              · rw [List.length_cons, rpO_len r2, hl _ _ _ rfl]
              · revert q
                generalize tab c (.obj c es :: ds) st2 = r
                intro q
                cases r with
                | ok _ _ _ => exact fun v H' F' k f gr rr => q v H' F' (g2.trans (o2.gr gr)) (o2.grow gr k f) rr
                | exc _ _ _ => exact fun cls dd H' F' k f gr rr => q cls dd H' F' (g2.trans (o2.gr gr)) (o2.grow gr k f) rr
                | stuck => exact q.elim
            · exact q.elim
        exact key _ (fun r' S' st' e => hl _ _ _ _ _ e) p1
    · exact p1.elim
  · exact p1.elim
theorem de_mc {m : Str} {mk k n : Nat} {cs : List Nat} {tab : Nat → CallT} {apos : Pos} {fo : Ev D} {fa : Ev (List Opd)} {pl : Sem Bool} (hmk : nmS mk = m) (okm : okN mk) (d : MDef X.prog X.w X.K X.mg X.base k m (n + 1) cs tab) (hr : Room k X.A) (tk : Takes X W)
    (ho : DE X B W a fo) (ha : DA X B W (e :: es) fa) (hl : aLen fa n := by repeat (first | exact aLen_n | refine aLen_c ?_))
    (hst : starEach (e :: es) X.env = (false, eval e X.env) :: starEach es X.env := by rfl) (hpl : (backTo pos (starEach es X.env)).any (·.1) = false := by rfl)
    (ht : eval (.Call (.Attribute a m apos) (e :: es) [] pos) X.env = (do
      let ov ← eval a X.env
      standAt apos.atName
      let (f, first) ← holding [ov] (getMethod ov m pl)
      callWith pos f first (backTo pos (starEach (e :: es) X.env)) (backToKw pos (keywordEach [] X.env))) := by rfl) :
    DE X B W (.Call (.Attribute a m apos) (e :: es) [] pos) (mcE cs mk tab fo fa) :=
  pe_imp (pe_methX tk ho ha hst hpl ht) fun _ _ _ q => mc_lift hmk okm d hr hl q
theorem de_mc0 {m : Str} {mk k : Nat} {cs : List Nat} {tab : Nat → CallT} {apos : Pos} {fo : Ev D} {pl : Sem Bool} (hmk : nmS mk = m) (okm : okN mk) (d : MDef X.prog X.w X.K X.mg X.base k m 1 cs tab) (hr : Room k X.A) (tk : Takes X W)
    (ho : DE X B W a fo)
    (ht : eval (.Call (.Attribute a m apos) [] [] pos) X.env = (do
      let ov ← eval a X.env
      standAt apos.atName
      let (f, first) ← holding [ov] (getMethod ov m pl)
      callWith pos f first (backTo pos (starEach [] X.env)) (backToKw pos (keywordEach [] X.env))) := by rfl) :
    DE X B W (.Call (.Attribute a m apos) [] [] pos) (mcE cs mk tab fo aN) :=
  pe_imp (pe_methX0 tk ho ht) fun σ H Q q => by
    obtain ⟨F, S, st, o, q⟩ := mc_lift hmk okm d hr aLen_n q
    refine ⟨F, S, st, o, q.mono ?_⟩
    rintro v H1 ⟨a, C, dx, fs, f, fd, ps, k, sp, e1, e2, e3, e4, e5, e6, e7, e8, F1, S1, st1, o1, q1⟩
    exact ⟨a, C, dx, fs, f, fd, ps, k, sp, e1, e2, e3, e4, e5, e6, e7, e8, q1 [] H1 F1 .refl o1 .nil⟩
end
/-! ### instances that are made -/
def spInit (C : Addr) (ks : List Nat) : Sp := fun vs H Q _ => ∃ (p dx : Addr) (args : List V), vs = .ref p :: args ∧ args.length = ks.length ∧ H p = some (.ins C dx []) ∧ Q .non (upd H p (.ins C dx ((ks.map nmS).zip args)))
structure IDef (P : Program) (w : World) (K : PySem.W.Frag) (mg : Str → Option Value) (base : Heap) (k : Nat) (x : Str) (c : Nat) (ks : List Nat) : Prop where
  ex : ∃ C f fd ps, mg x = some (.ref C) ∧ nmS c = x ∧ Mk K C f ∧ FnOk P w K mg base (L2.CX P w) k f fd ps (spInit C ks) ∧ Binds K fd ps [] ∧ ∀ k ∈ ks, okN k
/-- self.f = a parameter, one behind the other -/
def initT (K : PySem.W.Frag) : List Str → Nat → TS
  | [], _ => tNext
  | f :: r, i => tSeq (sFld K (tVar 0) (tVar i) f) (initT K r (i + 1))
theorem putF_new {f : Str} {v : V} : ∀ {fs : List (Str × V)}, f ∉ fs.map (·.1) → putF f v fs = fs ++ [(f, v)]
  | [], _ => rfl
  | (g, u) :: r, h => by
    have h1 : ¬ g = f := fun z => h (by simp [z])
    have h2 : f ∉ r.map (·.1) := fun z => h (by simp [z])
    show (if g = f then _ else (g, u) :: putF f v r) = _
    rw [if_neg h1, putF_new h2]; rfl
theorem init_read {K : PySem.W.Frag} {C dx p : Addr} {σ : L2.St} {D : Ends} (cl : Cls K C) (hp0 : σ[0]? = some (some (.ref p))) : ∀ (fs : List Str) (i : Nat) (vs : List V) (acc : List (Str × V)) (H : Hp),
    (∀ f ∈ fs, NoAttr K C f) → vs.length = fs.length → (∀ (j : Nat) (v : V), vs[j]? = some v → σ[i + j]? = some (some v)) → (acc.map (·.1) ++ fs).Nodup → acc.length + fs.length < 1000 → H p = some (.ins C dx acc) → D.nx σ (upd H p (.ins C dx (acc ++ fs.zip vs))) → initT K fs i D σ H
  | [], i, vs, acc, H, _, hl, _, _, _, hp, q => by
    have e : upd H p (.ins C dx (acc ++ ([] : List Str).zip vs)) = H := by
      funext b
      by_cases hb : b = p
      · subst hb; rw [upd_same, hp]; simp
      · rw [upd_ne hb]
    rw [e] at q; exact q
  | f :: r, i, [], acc, H, _, hl, _, _, _, _, _ => by simp at hl
  | f :: r, i, v :: vs, acc, H, hn, hl, hv, nd, h1000, hp, q => by
    have hnd : f ∉ acc.map (·.1) := fun z => by
      rw [List.nodup_append] at nd
      exact nd.2.2 _ z f (List.mem_cons_self ..) rfl
    refine ⟨v, by have := hv 0 v rfl; simpa using this, .ref p, hp0, p, C, dx, acc, rfl, hp, cl, hn f (List.mem_cons_self ..), by simp at h1000; omega, ?_⟩
    rw [putF_new hnd]
    refine init_read cl hp0 r (i + 1) vs (acc ++ [(f, v)]) _ (fun g m => hn g (List.mem_cons_of_mem _ m)) (by simpa using hl) (fun j u e => ?_) (by simpa using nd) (by simp at h1000 ⊢; omega) upd_same ?_
    · have := hv (j + 1) u (by simpa using e)
      rw [show i + 1 + j = i + (j + 1) by omega]; exact this
    · have e : upd (upd H p (.ins C dx (acc ++ [(f, v)]))) p (.ins C dx (acc ++ [(f, v)] ++ r.zip vs)) = upd H p (.ins C dx (acc ++ (f :: r).zip (v :: vs))) := by
        funext b
        by_cases hb : b = p
        · subst hb; rw [upd_same, upd_same]; simp
        · rw [upd_ne hb, upd_ne hb, upd_ne hb]
      rw [e]; exact q
section
variable {P : Program} {w : World} {K : PySem.W.Frag} {mg : Str → Option Value} {base : Heap}
/-- an __init__ that stores its parameters -/
theorem init_ok {qual : Str} {st : Stmt} {f C : Addr} {fd : FuncData} {N : List Str} {s0 : Str} {prest : List Str} {ks : List Nat} {fs : List Str} (F : Fun K "__init__" qual st f fd) (S : FnScope N (s0 :: prest) (defScope st)) (hks : ks.map nmS = fs) (hpl : prest.length = fs.length)
    (cl : Cls K C) (hn : ∀ f ∈ fs, NoAttr K C f) (nd : fs.Nodup) (hs : fs.length < 1000) (hN : N = s0 :: prest)
    (body : ∀ (cdv : Value) (A : Around) (outer : List Env) (s : Shared) (H : Hp) (E : XK), PSs (cxOf (L2.CX P w) P w K mg base N qual (defScope st) f cdv A outer s H E) (defBody st) (initT K fs 1)) : FnOk P w K mg base (L2.CX P w) 1 f fd (s0 :: prest) (spInit C ks) := by
  refine F.okX S (fun vs H Q E h => ?_) (fun cdv A outer s H vs Q E hr h => ?_)
  · obtain ⟨p, dx, args, e1, e2, _⟩ := h
    subst e1
    have := congrArg List.length hks
    simp at this ⊢
    omega
  · refine ⟨_, body cdv A outer s H E, ?_⟩
    obtain ⟨p, dx, args, e1, e2, hp, q⟩ := h
    subst e1
    rw [hks] at q
    refine init_read cl ?_ fs 1 args [] H hn (by have := congrArg List.length hks; simp at this; omega) (fun j v e => ?_) (by simpa using nd) (by simpa using hs) hp q
    · subst hN; rfl
    · subst hN
      show ((V.ref p :: args).map some ++ _)[1 + j]? = _
      have hj : j < args.length := (List.getElem?_eq_some_iff.mp e).1
      rw [List.getElem?_append_left (by simp; omega), List.getElem?_map, Nat.add_comm, List.getElem?_cons_succ, e]; rfl
end
def newE (c : Nat) (ks : List Nat) (fa : Ev (List Opd)) : Ev D := fun S st => (fa S st).bind fun a S st => match vds S a with
  | some ds => if ds.length = ks.length then .ok (.obj c (ks.zip ds)) S st else .stuck
  | none => .stuck
section
variable {X : Cx} {B : Hp} {W : WX} {e a b c : Expr} {es : List Expr} {pos p : Pos}
theorem de_new {x : Str} {k cn : Nat} {ks : List Nat} {fa : Ev (List Opd)} (d : IDef X.prog X.w X.K X.mg X.base k x cn ks) (hr : Room (k + 1) X.A) (ha : DA X B W (e :: es) fa) (hx : Passes (L2.CX X.prog X.w) X (fun _ _ _ => False) := by exact fun _ _ _ _ _ _ _ h => by obtain ⟨_, _, _, _, _, _, _, _, _, _, _, _, z⟩ := h; exact z.elim)
    (hg : Gl X x := by rfl) (hdb : (x == ("__debug__" : Str)) = false := by decide) (he : starEach (e :: es) X.env = (false, eval e X.env) :: starEach es X.env := by rfl) (hpl : (backTo pos (starEach es X.env)).any (·.1) = false := by rfl) :
    DE X B W (.Call (.Name x p) (e :: es) [] pos) (newE cn ks fa) := by
  obtain ⟨C, f, fd, ps, hm, hc, M, F, hb, hok⟩ := d.ex
  refine pe_imp (pe_make (E := fun _ _ _ => False) M F hr hg hm hb .nil hx ha hdb he hpl) fun σ H Q ⟨F0, S, st, o, q⟩ => ⟨F0, S, st, o, (Post.bind (R := RpO (Cx.g X) σ) q).mono fun vs H1 ⟨F1, d, S1, st1, g1, o1, r1, p1⟩ => ?_⟩
  split at p1
  · rename_i ds hds
    split at p1
    · rename_i hl
      have ra := o1.vds r1 hds
      intro y dx ny ndx nyx
      refine ⟨y, dx, vs, by rw [List.append_nil], by rw [ra.length, hl], upd_same, rfl, ?_⟩
      have ny1 : (upd H1 dx (.own y)) y = none := by rw [upd_ne (Ne.symm nyx)]; exact ny
      have o2 := (o1.gnew (u := .own y) ndx).gnew (u := .ins C dx ((ks.map nmS).zip vs)) ny1
      have g2 : Gr B F1 (upd F1 dx (.own y)) := o1.grN ndx
      have g3 : Gr B (upd F1 dx (.own y)) (upd (upd F1 dx (.own y)) y (.ins C dx ((ks.map nmS).zip vs))) := (o1.gnew (u := .own y) ndx).grN ny1
      have eH : upd (upd (upd H1 dx (.own y)) y (.ins C dx [])) y (.ins C dx ((ks.map nmS).zip vs)) = upd (upd H1 dx (.own y)) y (.ins C dx ((ks.map nmS).zip vs)) := by
        funext b
        by_cases hb : b = y
        · subst hb; rw [upd_same, upd_same]
        · rw [upd_ne hb, upd_ne hb, upd_ne hb]
      rw [eH]
      refine p1 _ _ _ (g2.trans g3) o2 (.obj upd_same (by rw [upd_ne nyx]; exact upd_same) (by rw [hc]; exact hm) (RpF.zip ks hok (ra.mono (g2.trans g3).1)))
    · exact p1.elim
  · exact p1.elim
end
section
variable {S : Sls} {st : Store}
@[simp] theorem newE_a (c : Nat) (ks : List Nat) (fa : Ev (List Opd)) : newE c ks fa S st = (fa S st).bind fun a S st => match vds S a with
  | some ds => if ds.length = ks.length then .ok (.obj c (ks.zip ds)) S st else .stuck
  | none => .stuck := rfl
@[simp] theorem mcE_a (cs : List Nat) (mk : Nat) (tab : Nat → CallT) (fo : Ev D) (fa : Ev (List Opd)) : mcE cs mk tab fo fa S st = (fo S st).bind fun o S st => match o with
  | .obj c es => if c ∈ cs ∧ es.lookup mk = none then (fa S st).bind fun a S st => match vds S a with
      | some ds => match tab c (.obj c es :: ds) st with
        | .ok d _ st => .ok d S st
        | .exc x _ st => .exc x S st
        | .stuck => .stuck
      | none => .stuck
    else .stuck
  | _ => .stuck := rfl
@[simp] theorem dFld_a (cs : List Nat) (k c : Nat) (es : List (Nat × D)) : dFld cs k (.obj c es) = if c ∈ cs then es.lookup k else none := rfl
end
@[simp] theorem lk_n (k : Nat) : List.lookup k ([] : List (Nat × D)) = none := rfl
@[simp] theorem lk_c (k k' : Nat) (d : D) (r : List (Nat × D)) : List.lookup k ((k', d) :: r) = if k = k' then some d else List.lookup k r := by
  rw [List.lookup_cons]
  by_cases h : k = k'
  · subst h; simp
  · rw [beq_false_of_ne h, if_neg h]
theorem fn_stuck {P : Program} {w : World} {K : PySem.W.Frag} {mg : Str → Option Value} {base : Heap} {x qual : Str} {st : Stmt} {f : Addr} {fd : FuncData} {N ps : List Str} {k : Nat} (F : Fun K x qual st f fd) (S : FnScope N ps (defScope st)) : FnOk P w K mg base (L2.CX P w) (k + 1) f fd ps (spOf ⟨K, mg⟩ ps.length cStuck) :=
  F.okX S (fun vs H Q E h => h.1) (fun cdv A outer s H vs Q E hr h => by
    obtain ⟨_, _, _, _, _, _, q⟩ := h
    exact q.elim)
end DL

namespace DL
open PySem PySem.Spec PyProof.Rows L2
def mxD (ns : List Int) (d : Int) : Int := match ns with
  | [] => d
  | n :: r => r.foldl max n
theorem foldl_max_mem : ∀ (r : List Int) (n : Int), r.foldl max n ∈ n :: r ∧ ∀ y ∈ n :: r, y ≤ r.foldl max n
  | [], n => by simp
  | m :: r, n => by
    obtain ⟨h1, h2⟩ := foldl_max_mem r (max n m)
    rw [List.foldl_cons]
    refine ⟨?_, fun y hy => ?_⟩
    · rcases List.mem_cons.mp h1 with z | z
      · rw [z]
        by_cases h : n ≤ m
        · simp [Int.max_eq_right h]
        · simp [Int.max_eq_left (Int.le_of_not_le h)]
      · simp [z]
    · have h3 := h2 (max n m) (List.mem_cons_self ..)
      rcases List.mem_cons.mp hy with z | z
      · subst z; omega
      · rcases List.mem_cons.mp z with z | z
        · subst z; omega
        · exact h2 y (List.mem_cons_of_mem _ z)
theorem mx_uniq {ns : List Int} {m n : Int} (h1 : m ∈ ns) (h2 : ∀ y ∈ ns, y ≤ m) (h3 : n ∈ ns) (h4 : ∀ y ∈ ns, y ≤ n) : m = n := Int.le_antisymm (h4 m h1) (h2 n h3)
def rMaxDf (K : PySem.W.Frag) : List V → List V → Hp → VK → Prop := fun vs zs H Q => ∃ (a : Addr) (ns : List Int) (d : Int), vs = [.ref a] ∧ zs = [.int d] ∧ SqL K H a (ns.map V.int) ∧ Q (.int (mxD ns d)) H
section
variable {X : Cx} {B : Hp} {W : WX} {e f : Expr} {pos p kpos : Pos}
theorem cr_maxDf (hc : X.calm = true) : CallRK X (.builtin "max") [Str.ofString "default"] (rMaxDf X.K) := by
  intro pins s σ H vs zs us ws Q I r1 r2 h
  obtain ⟨a, ns, d, rfl, rfl, hs, q⟩ := h
  obtain ⟨its, rv, hl, _⟩ := I.list hs
  rw [Vals.ref1 r1]
  obtain ⟨u, rfl, hu⟩ := vals1 r2
  obtain ⟨t, rfl⟩ := hu
  have hi := rv.ints
  obtain ⟨xs, ex⟩ := hi.allInts.items
  have hn : numsOf (intItems xs).toList = ns := by rw [← ex]; exact hi.numsOf
  have hl2 : s.heap.IsList a its.toArray := hl.isList
  rw [ex] at hl2
  rw [nums_intItems] at hn
  refine call_max_walkD (PySem.W.iter_listW (A := X.A.in1) (I.ok.hd hc) hl2 fun s2 e W st hf hw hk => ⟨_, _, _, _, _, _, _, s.heap, fun i j => decide (numAt xs i > numAt xs j), rfl, W, st, hf, hw, hk, fun z t m => ?_, fun z => ⟨fun i j u v t B Z _ hu hv q => CmpOf.ints_gt (numAt xs) (fun _ _ => intItems_at) i j u v t B Z hu hv q, fun v t hv m => ?_⟩⟩)
  · obtain ⟨h', tk, rfl, old⟩ := PySem.W.moved_old e rfl m
    have : xs = #[] := Array.eq_empty_of_size_eq_zero (by simpa [intItems] using z)
    subst this
    have : ns = [] := by rw [← hn]; rfl
    subst this
    exact ⟨.int d, H, I.kept old, ⟨_, rfl⟩, q⟩
  · obtain ⟨h', tk, rfl, old⟩ := PySem.W.moved_old e rfl m
    have hsz : 0 < xs.size := by simpa [intItems] using z
    have hs2 : (intItems xs).size = xs.size := by simp [intItems]
    rw [hs2] at hv
    obtain ⟨t', rfl⟩ := intItems_at hv
    obtain ⟨h1, h2⟩ := argBest_gt (numAt xs) (xs.size - 1)
    have e1 : numAt xs (argBest (fun i j => decide (numAt xs i > numAt xs j)) (xs.size - 1)) = mxD ns d := by
      subst hn
      have hm : numAt xs (argBest (fun i j => decide (numAt xs i > numAt xs j)) (xs.size - 1)) ∈ xs.toList.map (·.1) := by
        rw [numAt_eq]; exact PySem.getD_mem (by rw [List.length_map, Array.length_toList]; omega)
      have hg : ∀ y ∈ xs.toList.map (·.1), y ≤ numAt xs (argBest (fun i j => decide (numAt xs i > numAt xs j)) (xs.size - 1)) := fun y hy => by
        obtain ⟨j, hj, rfl⟩ := mem_getD hy
        rw [List.length_map, Array.length_toList] at hj
        rw [← numAt_eq]; exact h2 j (by omega)
      cases hx : xs.toList.map (·.1) with
      | nil => rw [hx] at hm; cases hm
      | cons n r =>
        rw [hx] at hm hg
        obtain ⟨g1, g2⟩ := foldl_max_mem r n
        exact mx_uniq hm hg g1 g2
    rw [e1]
    exact ⟨.int (mxD ns d), H, I.kept old, ⟨t', rfl⟩, q⟩
def dMaxD : List D → D → Option D
  | [.lst ds], .int d => (intsD ds).map fun ns => .int (mxD ns d)
  | _, _ => none
def oKE (op : List D → D → Option D) (fa : Ev (List Opd)) (fd : Ev D) : Ev D := fun S st => (fa S st).bind fun a S st => (fd S st).bind fun d S st =>
  match vws S a with
  | some x => got (op x d) S st
  | _ => .stuck
theorem de_maxD {fa : Ev (List Opd)} {fd : Ev D} (hm : X.mg "max" = none) (ha : DA X B W [e] fa) (hd : DE X B W f fd) (hc : X.calm = true := by rfl) (hg : Gl X "max" := by rfl)
    (he : backTo pos (starEach [e] X.env) = (false, eval e X.env) :: backTo pos (starEach [] X.env) := by rfl) (hpl : (backTo pos (starEach [e] X.env)).any (·.1) = false := by rfl)
    (hall : (backToKw pos (keywordEach [⟨some "default", f, kpos⟩] X.env)).all (·.1.isSome) = true := by rfl) (hnone : (backToKw pos (keywordEach [⟨some "default", f, kpos⟩] X.env)).any (·.1.isNone) = false := by rfl) (hks : (backToKw pos (keywordEach [⟨some "default", f, kpos⟩] X.env)).filterMap (·.1) = [Str.ofString "default"] := by rfl) :
    DE X B W (.Call (.Name "max" p) [e] [⟨some "default", f, kpos⟩] pos) (oKE dMaxD fa fd) :=
  pe_imp (pe_callBK (cr_maxDf hc) hg hm (by decide +kernel) ha (pk_cons hd pk_nil) (by decide) (by decide) he hpl hall hnone hks) fun σ H Q ⟨F, S, st, o, q⟩ => ⟨F, S, st, o, (Post.bind (R := RpO (Cx.g X) σ) q).mono fun v H1 ⟨F1, d, S1, st1, g1, o1, r1, p1⟩ =>
    ⟨F1, S1, st1, o1, (Post.bind (R := RD (Cx.g X) σ) p1).mono fun u H2 ⟨F2, d2, S2, st2, g2, o2, r2, p2⟩ => by
      split at p2
      · rename_i x hx
        obtain ⟨z, hz, p3⟩ := got_ok p2
        have ra := o2.vws (r1.mono g2.1) hx
        unfold dMaxD at hz
        split at hz
        · rename_i ds n
          cases hb : intsD ds with
          | none => rw [hb] at hz; cases hz
          | some ns =>
            rw [hb] at hz; cases hz
            cases ints_eq hb
            cases ra with
            | cons h t =>
              cases t
              obtain ⟨p, xs, rfl, h1, h2⟩ := h.seqL o2.fH rfl
              cases rp_ints_inv h2
              cases r2
              exact ⟨_, _, _, rfl, rfl, h1, p3 _ H2 F2 .refl o2 (.int _)⟩
        · cases hz
      · exact p2.elim⟩⟩
@[simp] theorem oKE_a (op : List D → D → Option D) (fa : Ev (List Opd)) (fd : Ev D) (S : Sls) (st : Store) : oKE op fa fd S st = (fa S st).bind fun a S st => (fd S st).bind fun d S st =>
  match vws S a with
  | some x => got (op x d) S st
  | _ => .stuck := rfl
theorem dMaxD_a (ns : List Int) (d : Int) : dMaxD [.lst (ns.map .int)] (.int d) = some (.int (mxD ns d)) := by simp [dMaxD]
end
end DL

namespace DL
open PySem PySem.Spec PyProof.Rows L2
section
variable {X : Cx} {B : Hp} {W : WX} {e a b c : Expr} {es : List Expr} {pos p : Pos}
/-! ### lists of one's own, handed on and back -/
/-- the slot's own object, given away -/
def oZ (i : Nat) : Ev Ow := fun S st => match S[i]? with
  | some (.own w) => .ok w (S.set i .no) st
  | _ => .stuck
theorem df_z {i : Nat} (h : PE X e (tVar i)) : DF X B W e (oZ i) := pe_imp h fun σ H Q ⟨F, S, st, o, q⟩ => by
  unfold oZ at q
  split at q
  · rename_i w hw
    obtain ⟨p, u, e1, h1, h2, h3, r⟩ := o.sl i _ hw
    refine ⟨_, e1, q p u H F .refl (o.drop i) h1 h2 h3 r fun j es e2 e3 => ?_⟩
    have hi : i < S.length := (List.getElem?_eq_some_iff.mp hw).1
    by_cases hj : i = j
    · subst hj
      rw [List.getElem?_set_self hi] at e2; cases e2
    · rw [List.getElem?_set_ne hj] at e2
      exact hj (o.ap i j _ _ p hw e2 e1 e3)
  · exact q.elim
/-- return, of a new list -/
def sRO (f : Ev Ow) : EvS := fun S st => (f S st).out fun w S st => .rto w S st
theorem ds_ro {f : Ev Ow} (h : DF X B W e f) : DS X B W (.Return (some e) pos) (sRO f) := ps_imp (ps_ret h) fun D σ H ⟨F, S, st, o, q⟩ => by
  refine ⟨F, S, st, o, ?_⟩
  unfold sRO at q
  generalize f S st = r at q ⊢
  cases r with
  | ok w S1 st1 => exact fun p u H' F' g o1 hu hF hB r no => q p u σ H' F' g o1 hu hF hB r
  | exc x S1 st1 => exact fun c d H' F' g o1 r => q c d σ H' F' g o1 r
  | stuck => exact q
end
/-- what a def does that hands back a list of its caller's own -/
abbrev CallO := List Sl → Store → Res Ow
def runBO (N : Nat) (b : EvS) : CallO := fun ss st => match b (ss ++ List.replicate (N - ss.length) .no) st with
  | .rto w _ st => .ok w [] st
  | .exc x _ st => .exc x [] st
  | _ => .stuck
def spOwn (G : Gx) (n : Nat) (c : CallO) : Sp := fun vs H Q E => vs.length = n ∧ ∃ (B F : Hp) (S0 : List Sl) (st : Store), S0.length = n ∧ (∀ N : List Str, n ≤ N.length → Ok G B F (L2.start N vs) H (S0 ++ List.replicate (N.length - S0.length) .no)) ∧ match c S0 st with
  | .ok w _ _ => ∀ p u H' F', Gr B F F' → Same B H' → Same F' H' → H' p = some u → F' p = none → B p = none → OwRel G F' u w → Q (.ref p) H'
  | .exc x _ _ => ∀ cls dd H' F', Gr B F F' → Same B H' → Same F' H' → XRel G F' x cls dd H' → E cls dd H'
  | .stuck => False
structure DefO (P : Program) (w : World) (K : PySem.W.Frag) (mg : Str → Option Value) (base : Heap) (k : Nat) (x : Str) (n : Nat) (c : CallO) : Prop where
  ex : ∃ f fd ps, FnOk P w K mg base (L2.CX P w) k f fd ps (spOwn ⟨K, mg⟩ n c) ∧ Binds K fd ps [] ∧ mg x = some (.ref f) ∧ PySem.W.keepIn K (.ref f) = true
theorem DefO.mono {P : Program} {w : World} {K : PySem.W.Frag} {mg : Str → Option Value} {base : Heap} {k j : Nat} {x : Str} {n : Nat} {c : CallO} (d : DefO P w K mg base k x n c) (h : k ≤ j) : DefO P w K mg base j x n c := by
  obtain ⟨f, fd, ps, a, b, c, e⟩ := d.ex
  exact ⟨f, fd, ps, a.mono h, b, c, e⟩
section
variable {P : Program} {w : World} {K : PySem.W.Frag} {mg : Str → Option Value} {base : Heap}
theorem fno_ok {x qual : Str} {st : Stmt} {f : Addr} {fd : FuncData} {N ps : List Str} {k : Nat} {b : EvS} (F : Fun K x qual st f fd) (S : FnScope N ps (defScope st))
    (body : ∀ (B : Hp) (cdv : Value) (A : Around) (outer : List Env) (s : Shared) (H : Hp) (E : XK) (W : WX), Room k (A.deeper (envOfC qual (defScope st) s.heap.objs.size f cdv)) →
      Takes (cxOf (L2.CX P w) P w K mg base N qual (defScope st) f cdv A outer s H E) W → PassesOwn (model P w) (A.deeper (envOfC qual (defScope st) s.heap.objs.size f cdv)) (envOfC qual (defScope st) s.heap.objs.size f cdv) (cxOf (L2.CX P w) P w K mg base N qual (defScope st) f cdv A outer s H E).xe →
      DSs (cxOf (L2.CX P w) P w K mg base N qual (defScope st) f cdv A outer s H E) B W (defBody st) b) : FnOk P w K mg base (L2.CX P w) (k + 1) f fd ps (spOwn ⟨K, mg⟩ ps.length (runBO N.length b)) := by
  refine F.okX S (fun vs H Q E h => h.1) (fun cdv A outer s H vs Q E hr h => ?_)
  obtain ⟨hl, B, F0, S0, st0, hS0, ok0, q⟩ := h
  have hN : ps.length ≤ N.length := by have := congrArg List.length S.pre; rw [List.length_take] at this; omega
  refine ⟨_, body B cdv A outer s H E (fun cls d _ H' => E cls d H') hr (takes_of rfl rfl rfl rfl) (passes_of rfl), ?_⟩
  refine ⟨F0, _, st0, ok0 N hN, ?_⟩
  unfold runBO at q
  revert q
  generalize b (S0 ++ List.replicate (N.length - S0.length) .no) st0 = r
  intro q
  cases r with
  | rto w1 S1 st1 => exact fun p u σ' H' F' g o hu hF hB rr => q p u H' F' g o.kp o.fH hu hF hB rr
  | exc y S1 st1 => exact fun c d σ' H' F' g o rr => q c d H' F' g o.kp o.fH rr
  | nx S1 st1 => exact q.elim
  | ret d S1 st1 => exact q.elim
  | bk S1 st1 => exact q.elim
  | ct S1 st1 => exact q.elim
  | stuck => exact q.elim
theorem defo_ok {x qual : Str} {st : Stmt} {f : Addr} {fd : FuncData} {N ps : List Str} {k : Nat} {b : EvS} (F : Fun K x qual st f fd) (S : FnScope N ps (defScope st)) (hb : Binds K fd ps []) (hm : mg x = some (.ref f))
    (body : ∀ (B : Hp) (cdv : Value) (A : Around) (outer : List Env) (s : Shared) (H : Hp) (E : XK) (W : WX), Room k (A.deeper (envOfC qual (defScope st) s.heap.objs.size f cdv)) →
      Takes (cxOf (L2.CX P w) P w K mg base N qual (defScope st) f cdv A outer s H E) W → PassesOwn (model P w) (A.deeper (envOfC qual (defScope st) s.heap.objs.size f cdv)) (envOfC qual (defScope st) s.heap.objs.size f cdv) (cxOf (L2.CX P w) P w K mg base N qual (defScope st) f cdv A outer s H E).xe →
      DSs (cxOf (L2.CX P w) P w K mg base N qual (defScope st) f cdv A outer s H E) B W (defBody st) b) : DefO P w K mg base (k + 1) x ps.length (runBO N.length b) := ⟨f, fd, ps, fno_ok F S body, hb, hm, F.kp⟩
end
/-! ### calls -/
theorem start_ok {G : Gx} {B F H : Hp} {vs : List V} {S0 : List Sl} (fH : Same F H) (kp : Same B H) (hl : vs.length = S0.length) (sl : ∀ (i : Nat) (s : Sl), S0[i]? = some s → SlOk G B F H ((vs.map some)[i]?) s)
    (ap : ∀ (i j : Nat) (ds es : Ow) (p : Addr), S0[i]? = some (.own ds) → S0[j]? = some (.own es) → vs[i]? = some (.ref p) → vs[j]? = some (.ref p) → i = j) {N : List Str} (hN : S0.length ≤ N.length) : Ok G B F (L2.start N vs) H (S0 ++ List.replicate (N.length - S0.length) .no) := by
  have get : ∀ (i : Nat) (s : Sl), (S0 ++ List.replicate (N.length - S0.length) Sl.no)[i]? = some s → (i < S0.length ∧ S0[i]? = some s) ∨ s = .no := fun i s e => by
    by_cases hi : i < S0.length
    · rw [List.getElem?_append_left hi] at e; exact .inl ⟨hi, e⟩
    · rw [List.getElem?_append_right (by omega), List.getElem?_replicate] at e
      split at e
      · cases e; exact .inr rfl
      · cases e
  have gv : ∀ i, i < S0.length → (L2.start N vs)[i]? = (vs.map some)[i]? := fun i hi => by
    unfold L2.start
    rw [List.getElem?_append_left (by simp; omega)]
  refine ⟨fH, kp, by simp [L2.start, hl], fun i s e => ?_, fun i j ds es p e1 e2 e3 e4 => ?_⟩
  · rcases get i s e with ⟨hi, e⟩ | e
    · have := sl i s e
      rw [gv i hi]; exact this
    · subst e; trivial
  · rcases get i _ e1 with ⟨hi, e1⟩ | e1
    · rcases get j _ e2 with ⟨hj, e2⟩ | e2
      · rw [gv i hi, List.getElem?_map] at e3
        rw [gv j hj, List.getElem?_map] at e4
        refine ap i j ds es p e1 e2 ?_ ?_
        · cases h : vs[i]? with
          | none => rw [h] at e3; cases e3
          | some v => rw [h] at e3; cases e3; rfl
        · cases h : vs[j]? with
          | none => rw [h] at e4; cases e4
          | some v => rw [h] at e4; cases e4; rfl
      · cases e2
    · cases e1
theorem rpAll_sl {G : Gx} {B F H : Hp} : ∀ {vs : List V} {ds : List D}, RpAll G F vs ds → ∀ (i : Nat) (s : Sl), (ds.map Sl.d)[i]? = some s → SlOk G B F H ((vs.map some)[i]?) s
  | vs, ds, r, i, s, e => by
    rw [List.getElem?_map] at e
    cases h : ds[i]? with
    | none => rw [h] at e; cases e
    | some d =>
      rw [h] at e; cases e
      obtain ⟨v, hv, rv⟩ := r.get h
      exact ⟨v, by rw [List.getElem?_map, hv]; rfl, rv⟩
/-- f(..) with data, a new list back -/
def coE (c : CallO) (fa : Ev (List Opd)) : Ev Ow := fun S st => (fa S st).bind fun a S st => match vds S a with
  | some ds => match c (ds.map .d) st with
    | .ok w _ st => .ok w S st
    | .exc x _ st => .exc x S st
    | .stuck => .stuck
  | none => .stuck
/-- f(x, ..), x a list of one's own, given away -/
def coF (c : CallO) (j : Nat) (fa : Ev (List Opd)) : Ev Ow := fun S st => match S[j]? with
  | some (.own _) => (fa S st).bind fun a S st => match vds S a, S[j]? with
    | some ds, some (.own w) => match c (.own w :: ds.map .d) st with
      | .ok w _ st => .ok w (S.set j .no) st
      | .exc x _ st => .exc x (S.set j .no) st
      | .stuck => .stuck
    | _, _ => .stuck
  | _ => .stuck
section
variable {X : Cx} {B : Hp} {W : WX} {e y : Expr} {es : List Expr} {pos p : Pos} {k : Nat} {x : Str} {n : Nat} {c : CallO}
theorem df_co {fa : Ev (List Opd)} (d : DefO X.prog X.w X.K X.mg X.base k x n c) (hr : Room k X.A) (tk : Takes X W) (ha : DA X B W (e :: es) fa) (hl : aLen fa n := by repeat (first | exact aLen_n | refine aLen_c ?_)) (hg : Gl X x := by rfl) (hdb : (x == ("__debug__" : Str)) = false := by decide)
    (he : starEach (e :: es) X.env = (false, eval e X.env) :: starEach es X.env := by rfl) (hpl : (backTo pos (starEach es X.env)).any (·.1) = false := by rfl) : DF X B W (.Call (.Name x p) (e :: es) [] pos) (coE c fa) := by
  obtain ⟨f, fd, ps, F, hb, hm, hk⟩ := d.ex
  refine pe_imp (pe_callS F hr hg hm hk hb (fun σ => passAt tk σ) ha hdb he hpl) fun σ H Q ⟨F0, S, st, o, q⟩ => ?_
  unfold coE at q
  have hl' := hl S st
  generalize hfa : fa S st = r at q hl'
  have key : Post (Cx.g X) B W (RpO (Cx.g X) σ) σ F0 (fun vs H1 => spOwn (Cx.g X) n c vs H1 Q (WE W σ)) r := by
    cases r with
    | exc z S1 st1 => exact q
    | stuck => exact q
    | ok as S1 st1 =>
      intro vs H1 F1 g1 o1 r1
      have q : PostF (Cx.g X) B W σ F0 Q (match vds S1 as with
        | some ds => match c (ds.map .d) st1 with
          | .ok w _ st => .ok w S1 st
          | .exc x _ st => .exc x S1 st
          | .stuck => .stuck
        | none => .stuck) := q
      split at q
      · rename_i ds hds
        have ra := o1.vds r1 hds
        have hn := hl' _ _ _ rfl
        have hv := rpO_len r1
        refine ⟨by omega, H1, F1, ds.map .d, st1, by rw [List.length_map, ← ra.length]; omega, fun N hN => start_ok o1.fH (Same.refl H1) (by rw [List.length_map]; exact ra.length) (rpAll_sl ra) (fun i j a b p e1 _ _ _ => ?_) (by rw [List.length_map, ← ra.length]; omega), ?_⟩
        · rw [List.getElem?_map] at e1
          cases h : ds[i]? with
          | none => rw [h] at e1; cases e1
          | some d => rw [h] at e1; cases e1
        · revert q
          generalize c (ds.map .d) st1 = r2
          intro q
          cases r2 with
          | ok w S2 st2 =>
            intro p u H' F' g k' f hu hF hB rr
            have o2 := o1.grow g k' f
            refine q p u H' F' (g1.trans (g.under o1.kp)) o2 hu hF (o1.kp.free hB) rr fun j es e1 e2 => ?_
            obtain ⟨p', u', e3, h1, _⟩ := o1.sl j _ e1
            rw [e2] at e3; cases e3
            rw [hB] at h1; cases h1
          | exc z S2 st2 => exact fun cls dd H' F' g k' f rr => q cls dd H' F' (g1.trans (g.under o1.kp)) (o1.grow g k' f) rr
          | stuck => exact q.elim
      · exact q.elim
  exact ⟨F0, S, st, o, by rw [hfa]; exact key⟩
theorem df_cof {j : Nat} {fa : Ev (List Opd)} (d : DefO X.prog X.w X.K X.mg X.base k x (n + 1) c) (hr : Room k X.A) (tk : Takes X W) (hy : PE X y (tVar j)) (ha : DA X B W (e :: es) fa) (hl : aLen fa n := by repeat (first | exact aLen_n | refine aLen_c ?_)) (hg : Gl X x := by rfl) (hdb : (x == ("__debug__" : Str)) = false := by decide)
    (he : starEach (y :: e :: es) X.env = (false, eval y X.env) :: starEach (e :: es) X.env := by rfl) (hpl : (backTo pos (starEach (e :: es) X.env)).any (·.1) = false := by rfl) : DF X B W (.Call (.Name x p) (y :: e :: es) [] pos) (coF c j fa) := by
  obtain ⟨f, fd, ps, F, hb, hm, hk⟩ := d.ex
  refine pe_imp (pe_callS F hr hg hm hk hb (fun σ => passAt tk σ) (pa_cons hy ha he) hdb he hpl) fun σ H Q ⟨F0, S, st, o, q⟩ => ?_
  unfold coF at q
  split at q
  · rename_i w0 hw0
    obtain ⟨p, u, e1, h1, h2, h3, r0⟩ := o.sl j _ hw0
    have hl' := hl S st
    generalize hfa : fa S st = r at q hl'
    have key : Post (Cx.g X) B W (RpO (Cx.g X) σ) σ F0 (fun vs H1 => spOwn (Cx.g X) (n + 1) c (.ref p :: vs) H1 Q (WE W σ)) r := by
      cases r with
      | exc z S1 st1 => exact q
      | stuck => exact q
      | ok as S1 st1 =>
        intro vs H1 F1 g1 o1 r1
        have q : PostF (Cx.g X) B W σ F0 Q (match vds S1 as, S1[j]? with
          | some ds, some (.own w) => match c (.own w :: ds.map .d) st1 with
            | .ok w _ st => .ok w (S1.set j .no) st
            | .exc x _ st => .exc x (S1.set j .no) st
            | .stuck => .stuck
          | _, _ => .stuck) := q
        split at q
        · rename_i ds w hds hw
          have ra := o1.vds r1 hds
          have hn := hl' _ _ _ rfl
          have hv := rpO_len r1
          obtain ⟨p', u, e1', k1, k2, k3, rw'⟩ := o1.sl j _ hw
          rw [e1] at e1'; cases e1'
          -- what the callee keeps: all but the list
          have kB : Same (fun a => if a = p then none else H1 a) H1 := fun a v q => by
            by_cases z : a = p
            · simp [z] at q
            · simpa [z] using q
          refine ⟨by simp; omega, fun a => if a = p then none else H1 a, F1, .own w :: ds.map .d, st1, by simp [← ra.length]; omega, fun N hN => start_ok o1.fH kB (by simp [ra.length]) (fun i s e => ?_) (fun i j a b p e1 e2 _ _ => ?_) (by simp [← ra.length]; omega), ?_⟩
          · cases i with
            | zero =>
              simp at e; subst e
              exact ⟨p, u, by simp, k1, k2, by simp, rw'⟩
            | succ i =>
              have := rpAll_sl (B := fun a => if a = p then none else H1 a) (H := H1) ra i s (by simpa using e)
              cases s with
              | no => trivial
              | d x => exact this
              | own w => simp at e
          · have own0 : ∀ i a, (Sl.own w :: ds.map Sl.d)[i]? = some (.own a) → i = 0 := fun i a e => by
              cases i with
              | zero => rfl
              | succ i => simp at e
            rw [own0 i a e1, own0 j b e2]
          · revert q
            generalize c (.own w :: ds.map .d) st1 = r2
            intro q
            have back : ∀ {H' F' : Hp}, Gr (fun a => if a = p then none else H1 a) F1 F' → Same (fun a => if a = p then none else H1 a) H' → Same F' H' → Gr B F1 F' ∧ Ok (Cx.g X) B F' σ H' (S1.set j .no) := fun {H' F'} g kp f => by
              have hF : ∀ a, F1 a = none → F' a ≠ none → a = p ∨ H1 a = none := fun a z z' => by
                have := g.2 a z z'
                by_cases y : a = p
                · exact .inl y
                · exact .inr (by simpa [y] using this)
              refine ⟨⟨g.1, fun a z z' => ?_⟩, f, fun a v q => ?_, by rw [List.length_set]; exact o1.len, fun i s e => ?_, fun i1 j1 a1 b1 p1 q1 q2 q3 q4 => ?_⟩
              · rcases hF a z z' with y | y
                · rw [y]; exact k3
                · exact o1.kp.free y
              · have : a ≠ p := ne_of_none q k3
                exact kp a v (by simp [this]; exact o1.kp a v q)
              · by_cases hi : j = i
                · have := set_lt e hi
                  subst hi
                  rw [List.getElem?_set_self this] at e; cases e; trivial
                · rw [List.getElem?_set_ne hi] at e
                  have h := o1.sl i s e
                  cases s with
                  | no => trivial
                  | d x =>
                    obtain ⟨v, a1, a2⟩ := h
                    exact ⟨v, a1, a2.mono g.1⟩
                  | own w2 =>
                    obtain ⟨p2, u2, a1, a2, a3, a4, a5⟩ := h
                    have hp2 : p2 ≠ p := fun z => hi (o1.ap j i _ _ p hw e e1 (by rw [← z]; exact a1))
                    refine ⟨p2, u2, a1, kp p2 u2 (by simp [hp2]; exact a2), ?_, a4, a5.mono g.1⟩
                    cases z : F' p2 with
                    | none => rfl
                    | some v =>
                      rcases hF p2 a3 (by rw [z]; simp) with y | y
                      · exact absurd y hp2
                      · rw [a2] at y; cases y
              · have old : ∀ (i : Nat) (a : Ow), (S1.set j .no)[i]? = some (.own a) → S1[i]? = some (.own a) := fun i a e => by
                  by_cases hi : j = i
                  · have := set_lt e hi
                    subst hi
                    rw [List.getElem?_set_self this] at e; cases e
                  · rw [List.getElem?_set_ne hi] at e; exact e
                exact o1.ap i1 j1 a1 b1 p1 (old _ _ q1) (old _ _ q2) q3 q4
            cases r2 with
            | ok w' S2 st2 =>
              intro p2 u2 H' F' g k' f hu hF hB rr
              obtain ⟨g', o2⟩ := back g k' f
              have hB' : B p2 = none := by
                by_cases y : p2 = p
                · rw [y]; exact k3
                · exact o1.kp.free (by simpa [y] using hB)
              refine q p2 u2 H' F' (g1.trans g') o2 hu hF hB' rr fun i es e e2 => ?_
              by_cases hi : j = i
              · have := set_lt e hi
                subst hi
                rw [List.getElem?_set_self this] at e; cases e
              · rw [List.getElem?_set_ne hi] at e
                obtain ⟨p3, u3, a1, a2, _⟩ := o1.sl i _ e
                rw [e2] at a1; cases a1
                have hp2 : p2 ≠ p := fun z => hi (o1.ap j i _ _ p hw e e1 (by rw [← z]; exact e2))
                simp [hp2] at hB
                rw [a2] at hB; cases hB
            | exc z S2 st2 =>
              intro cls dd H' F' g k' f rr
              obtain ⟨g', o2⟩ := back g k' f
              exact q cls dd H' F' (g1.trans g') o2 rr
            | stuck => exact q.elim
        · exact q.elim
    exact ⟨_, e1, F0, S, st, o, by rw [hfa]; exact key⟩
  · exact q.elim
end
end DL
namespace DL
open PySem PySem.Spec PyProof.Rows L2
section
variable {S : Sls} {st : Store}
@[simp] theorem oZ_a (i : Nat) : oZ i S st = match S[i]? with | some (.own w) => .ok w (S.set i .no) st | _ => .stuck := rfl
@[simp] theorem sRO_a (f : Ev Ow) : sRO f S st = (f S st).out fun w S st => .rto w S st := rfl
@[simp] theorem coE_a (c : CallO) (fa : Ev (List Opd)) : coE c fa S st = (fa S st).bind fun a S st => match vds S a with
  | some ds => match c (ds.map .d) st with
    | .ok w _ st => .ok w S st
    | .exc x _ st => .exc x S st
    | .stuck => .stuck
  | none => .stuck := rfl
@[simp] theorem coF_a (c : CallO) (j : Nat) (fa : Ev (List Opd)) : coF c j fa S st = match S[j]? with
  | some (.own _) => (fa S st).bind fun a S st => match vds S a, S[j]? with
    | some ds, some (.own w) => match c (.own w :: ds.map .d) st with
      | .ok w _ st => .ok w (S.set j .no) st
      | .exc x _ st => .exc x (S.set j .no) st
      | .stuck => .stuck
    | _, _ => .stuck
  | _ => .stuck := rfl
theorem runBO_a (N : Nat) (b : EvS) (ss : List Sl) : runBO N b ss st = match b (ss ++ List.replicate (N - ss.length) .no) st with
  | .rto w _ st => .ok w [] st
  | .exc x _ st => .exc x [] st
  | _ => .stuck := rfl
end
end DL

namespace DL
open PySem PySem.Spec PyProof.Rows L2
/-- what a law's call is to come to -/
def LawOk (c : CallT) : Prop := ∀ ns : List Int, ns.length ≤ 63 → (∀ z ∈ ns, z.natAbs.log2 < 1048576) → ∃ st, c [.scr ns] [] = .ok (.bl true) [] st
def spLaw (K : PySem.W.Frag) : Sp := fun vs H Q _ => ∃ (a : Addr) (ns : List Int), vs = [.ref a] ∧ SqL K H a (ns.map V.int) ∧ ns.length ≤ 63 ∧ (∀ z ∈ ns, Builtin.Int.intBits z ≤ 1048576) ∧ ∀ H', Q (.bl true) H'
theorem law_imp {P : Program} {w : World} {K : PySem.W.Frag} {mg : Str → Option Value} {base : Heap} {CX : CXT} {k : Nat} {f : Addr} {fd : FuncData} {ps : List Str} {c : CallT} (h : LawOk c) (F : FnOk P w K mg base CX k f fd ps (spOf ⟨K, mg⟩ 1 c)) :
    FnOk P w K mg base CX k f fd ps (spLaw K) := F.imp fun vs H Q E ⟨a, ns, e, hS, hl, hb, q⟩ => by
  subst e
  obtain ⟨st, e⟩ := h ns hl fun z hz => by
    have := hb z hz
    by_cases h0 : z = 0
    · subst h0; decide
    · unfold Builtin.Int.intBits at this
      simp [h0] at this
      omega
  refine ⟨rfl, H, [.scr ns], [], Same.refl H, .one (.scr hS), ?_⟩
  rw [e]
  intro v H' F' _ _ _ r
  cases r
  exact q H'
end DL

namespace DL
open PySem PySem.Spec PyProof.Rows L2
/-! ### how a body computes: one row a form -/
/-- range(a, n) -/
def rgG (a n : Int) : Ev (List D) := fun S st => if (-1000000 ≤ a ∧ a ≤ 1000000) ∧ -1000000 ≤ n ∧ n ≤ 1000000 then .ok (rng (n - a).toNat a) S st else .stuck
@[simp] theorem rgG_ok (a n : Int) (S : Sls) (st : Store) (h0 : -1000000 ≤ a) (h1 : a ≤ 1000000) (h2 : -1000000 ≤ n) (h3 : n ≤ 1000000) : rgG a n S st = .ok (rng (n - a).toNat a) S st := if_pos ⟨⟨h0, h1⟩, h2, h3⟩
section
variable {S : Sls} {st : Store}
@[simp] theorem kE_a (d : D) : kE d S st = .ok d S st := rfl
@[simp] theorem vE_a (i : Nat) : vE i S st = match S[i]? with | some (.d d) => .ok d S st | _ => .stuck := rfl
@[simp] theorem zE_a (i : Nat) : zE i S st = match S[i]? with | some (.d d) => .ok d S st | some (.own w) => .ok w.d (S.set i (.d w.d)) st | _ => .stuck := rfl
@[simp] theorem oV_a (f : Ev D) : oV f S st = (f S st).bind fun d S st => .ok (.v d) S st := rfl
@[simp] theorem oS_a (i : Nat) : oS i S st = match S[i]? with | some .no => .stuck | none => .stuck | _ => .ok (.s i) S st := rfl
@[simp] theorem aN_a : aN S st = .ok [] S st := rfl
@[simp] theorem aC_a (f : Ev Opd) (g : Ev (List Opd)) : aC f g S st = (f S st).bind fun a S st => (g S st).bind fun r S st => .ok (a :: r) S st := rfl
@[simp] theorem vw_v (d : D) : vw S (.v d) = some d := rfl
@[simp] theorem vd_v (d : D) : vd S (.v d) = some d := rfl
@[simp] theorem vw_s (i : Nat) : vw S (.s i) = match S[i]? with | some (.d d) => some d | some (.own w) => some w.d | _ => none := rfl
@[simp] theorem vd_s (i : Nat) : vd S (.s i) = match S[i]? with | some (.d d) => some d | _ => none := rfl
@[simp] theorem vws_n : vws S [] = some [] := rfl
@[simp] theorem vws_c (o : Opd) (r : List Opd) : vws S (o :: r) = match vw S o, vws S r with | some d, some ds => some (d :: ds) | _, _ => none := rfl
@[simp] theorem vds_n : vds S [] = some [] := rfl
@[simp] theorem vds_c (o : Opd) (r : List Opd) : vds S (o :: r) = match vd S o, vds S r with | some d, some ds => some (d :: ds) | _, _ => none := rfl
@[simp] theorem Ow_l (ds : List D) : (Ow.l ds).d = .lst ds := rfl
@[simp] theorem Ow_k (ds : List (D × D)) : (Ow.k ds).d = .dic ds := rfl
@[simp] theorem o2E_a (op : D → D → Option D) (fa fb : Ev Opd) : o2E op fa fb S st = (fa S st).bind fun a S st => (fb S st).bind fun b S st => match vw S a, vw S b with | some x, some y => got (op x y) S st | _, _ => .stuck := rfl
@[simp] theorem o1E_a (op : D → Option D) (fa : Ev Opd) : o1E op fa S st = (fa S st).bind fun a S st => match vw S a with | some x => got (op x) S st | _ => .stuck := rfl
@[simp] theorem oAE_a (op : List D → Option D) (fa : Ev (List Opd)) : oAE op fa S st = (fa S st).bind fun a S st => match vws S a with | some x => got (op x) S st | _ => .stuck := rfl
@[simp] theorem oAF_a (op : List D → Option Ow) (fa : Ev (List Opd)) : oAF op fa S st = (fa S st).bind fun a S st => match vws S a with | some x => got (op x) S st | _ => .stuck := rfl
@[simp] theorem o2F_a (op : D → D → Option Ow) (fa fb : Ev Opd) : o2F op fa fb S st = (fa S st).bind fun a S st => (fb S st).bind fun b S st => match vw S a, vw S b with | some x, some y => got (op x y) S st | _, _ => .stuck := rfl
@[simp] theorem mE_a (T : String) (op : D → List D → Option D) (fo : Ev Opd) (fa : Ev (List Opd)) : mE T op fo fa S st = (fo S st).bind fun o S st => match vw S o with
  | some y => if tyD T y = true then (fa S st).bind fun a S st => match vw S o, vws S a with | some y, some x => got (op y x) S st | _, _ => .stuck else .stuck
  | _ => .stuck := rfl
@[simp] theorem m0E_a (T : String) (op : D → Option D) (fo : Ev Opd) : m0E T op fo S st = (fo S st).bind fun o S st => match vw S o with | some y => if tyD T y = true then got (op y) S st else .stuck | _ => .stuck := rfl
@[simp] theorem fE_a (f : Ev Ow) : fE f S st = (f S st).bind fun w S st => .ok w.d S st := rfl
@[simp] theorem lF_a (fa : Ev (List Opd)) : lF fa S st = (fa S st).bind fun a S st => match vds S a with | some ds => if ds.length ≤ 16777216 then .ok (.l ds) S st else .stuck | none => .stuck := rfl
@[simp] theorem pE_a (fa : Ev (List Opd)) : pE fa S st = (fa S st).bind fun a S st => match vds S a with | some ds => if ds.length ≤ 16777216 then .ok (.tup ds) S st else .stuck | none => .stuck := rfl
@[simp] theorem sN_a : sN S st = .ok none S st := rfl
@[simp] theorem sS_a (f : Ev D) : sS f S st = (f S st).bind fun d S st => match d with | .int i => .ok (some i) S st | _ => .stuck := rfl
@[simp] theorem slE_a (op : D → Option Int → Option Int → Option D) (fa : Ev Opd) (fl fu : Ev (Option Int)) : slE op fa fl fu S st = (fa S st).bind fun a S st => (fl S st).bind fun l S st => (fu S st).bind fun u S st => match vw S a with | some x => got (op x l u) S st | _ => .stuck := rfl
@[simp] theorem cE_a (c : CallT) (fa : Ev (List Opd)) : cE c fa S st = (fa S st).bind fun a S st => match vds S a with
  | some ds => match c ds st with | .ok d _ st => .ok d S st | .exc x _ st => .exc x S st | .stuck => .stuck
  | none => .stuck := rfl
@[simp] theorem tT_a (f : Ev Opd) : tT f S st = (f S st).bind fun o S st => match vw S o with | some d => got (tru d) S st | none => .stuck := rfl
@[simp] theorem tN_a (f : Ev Bool) : tN f S st = (f S st).bind fun b S st => .ok (!b) S st := rfl
@[simp] theorem tA_a (f g : Ev Bool) : tA f g S st = (f S st).bind fun b S st => if b = true then g S st else .ok false S st := rfl
@[simp] theorem tO_a (f g : Ev Bool) : tO f g S st = (f S st).bind fun b S st => if b = true then .ok true S st else g S st := rfl
@[simp] theorem tV_a (f : Ev D) : tV f S st = (f S st).bind fun d S st => match d with | .bl k => .ok k S st | _ => .stuck := rfl
@[simp] theorem tY_a : tY S st = .ok true S st := rfl
@[simp] theorem eA_a (f g : Ev D) : eA f g S st = (f S st).bind fun d S st => match d with | .bl b => if b = true then g S st else .ok (.bl false) S st | _ => .stuck := rfl
@[simp] theorem eO_a (f g : Ev D) : eO f g S st = (f S st).bind fun d S st => match d with | .bl b => if b = true then .ok (.bl true) S st else g S st | _ => .stuck := rfl
@[simp] theorem eN_a (f : Ev D) : eN f S st = (f S st).bind fun d S st => match d with | .bl b => .ok (.bl (!b)) S st | _ => .stuck := rfl
@[simp] theorem eI_a (t : Ev Bool) (f g : Ev D) : eI t f g S st = (t S st).bind fun b S st => if b = true then f S st else g S st := rfl
@[simp] theorem sNil_a : sNil S st = .nx S st := rfl
@[simp] theorem sSeq_a (f g : EvS) : sSeq f g S st = (f S st).then g := rfl
@[simp] theorem sBk_a : sBk S st = .bk S st := rfl
@[simp] theorem sCt_a : sCt S st = .ct S st := rfl
@[simp] theorem sE_a (f : Ev D) : sE f S st = (f S st).out fun _ S st => .nx S st := rfl
@[simp] theorem sR_a (f : Ev D) : sR f S st = (f S st).out fun d S st => .ret d S st := rfl
@[simp] theorem sRN_a : sRN S st = .ret .non S st := rfl
@[simp] theorem sI_a (t : Ev Bool) (f g : EvS) : sI t f g S st = (t S st).out fun b S st => if b = true then f S st else g S st := rfl
@[simp] theorem sV_a (i : Nat) (f : Ev D) : sV i f S st = (f S st).out fun d S st => .nx (S.set i (.d d)) st := rfl
@[simp] theorem sO_a (i : Nat) (f : Ev Ow) : sO i f S st = (f S st).out fun w S st => .nx (S.set i (.own w)) st := rfl
@[simp] theorem gV_a (i : Nat) (d : D) : gV i d S = some (S.set i (.d d)) := rfl
@[simp] theorem gN_a : gN [] S = some S := rfl
@[simp] theorem gC_a (g : Tg) (gs : List D → Sls → Option Sls) (d : D) (r : List D) : gC g gs (d :: r) S = match g d S with | some S' => gs r S' | none => none := rfl
@[simp] theorem gT_a (n : Nat) (gs : List D → Sls → Option Sls) (ds : List D) : gT n gs (.tup ds) S = if ds.length = n then gs ds S else none := rfl
@[simp] theorem sG_a (g : Tg) (f : Ev D) : sG g f S st = (f S st).out fun d S st => match g d S with | some S' => .nx S' st | none => .stuck := rfl
@[simp] theorem sAug_a (i : Nat) (op : D → D → Option D) (f : Ev Opd) : sAug i op f S st = match S[i]? with
  | some (.d x) => (f S st).out fun y S st => match vw S y with
    | some y => match op x y with
      | some z => .nx (S.set i (.d z)) st
      | none => .stuck
    | none => .stuck
  | _ => .stuck := rfl
@[simp] theorem sF_a (f : Ev (List D)) (g : Tg) (b : EvS) : sF f g b S st = (f S st).out fun ds S st => forL g b ds S st := rfl
@[simp] theorem iE_a (f : Ev D) : iE f S st = (f S st).bind fun d S st => got (itD d) S st := rfl
@[simp] theorem iR1_a (f : Ev (List Opd)) : iR1 f S st = (f S st).bind fun a S st => match vws S a with
  | some [.int n] => rgG 0 n S st
  | _ => .stuck := by
  unfold iR1 rgG
  congr 1; funext a S st
  rcases vws S a with _ | l
  · rfl
  · rcases l with _ | ⟨x, r⟩
    · rfl
    · cases x <;> cases r <;> simp
@[simp] theorem iR2_a (f : Ev (List Opd)) : iR2 f S st = (f S st).bind fun a S st => match vws S a with
  | some [.int a, .int n] => rgG a n S st
  | _ => .stuck := rfl
@[simp] theorem iEn_a (f : Ev (List Opd)) : iEn f S st = (f S st).bind fun a S st => match vds S a with
  | some [d] => match asL d with | some ds => .ok (enumD ds) S st | none => .stuck
  | _ => .stuck := rfl
@[simp] theorem iZ_a (f : Ev (List Opd)) : iZ f S st = (f S st).bind fun a S st => match vds S a with
  | some [d, e] => match asL d, asL e with | some ds, some es => .ok (zipD ds es) S st | _, _ => .stuck
  | _ => .stuck := rfl
@[simp] theorem iV_a (f : Ev (List Opd)) : iV f S st = (f S st).bind fun a S st => match vds S a with
  | some [d] => match asL d with | some ds => .ok ds.reverse S st | none => .stuck
  | _ => .stuck := rfl
@[simp] theorem lcF_a (fi : Ev (List D)) (g : Tg) (own : List Nat) (t : Ev Bool) (f : Ev D) : lcF fi g own t f S st = (fi S st).bind fun ds S st =>
  (lcL g own t f ds (wipeS S own) st).bind fun ys S' st => if ys.length ≤ 16777216 then .ok (.l ys) (restS S own S') st else .stuck := rfl
@[simp] theorem restS_n (S0 : Sls) : restS S0 [] S = S := rfl
@[simp] theorem restS_c (S0 : Sls) (i : Nat) (r : List Nat) : restS S0 (i :: r) S = match S0[i]? with | some (.d x) => restS S0 r (S.set i (.d x)) | _ => restS S0 r S := rfl
@[simp] theorem wipeS_n : wipeS S [] = S := rfl
@[simp] theorem wipeS_c (v : Nat) (vs : List Nat) : wipeS S (v :: vs) = (wipeS S vs).set v .no := rfl
@[simp] theorem sAp_a (i : Nat) (f : Ev Opd) : sAp i f S st = match S[i]? with
  | some (.own (.l _)) => (f S st).out fun o S st => match vd S o, S[i]? with
    | some d, some (.own (.l ds)) => if ds.length < 16777216 then .nx (S.set i (.own (.l (ds ++ [d])))) st else .stuck
    | _, _ => .stuck
  | _ => .stuck := rfl
@[simp] theorem sEx_a (i : Nat) (f : Ev D) : sEx i f S st = match S[i]? with
  | some (.own (.l _)) => (f S st).out fun d S st => match d, S[i]? with
    | .lst es, some (.own (.l ds)) => if ds.length + es.length ≤ 16777216 then .nx (S.set i (.own (.l (ds ++ es)))) st else .stuck
    | _, _ => .stuck
  | _ => .stuck := rfl
@[simp] theorem sP_a (i j : Nat) (fa : Ev (List Opd)) : sP i j fa S st = (fa S st).out fun a S st => match vds S a with
  | some [x, y] => .nx ((S.set i (.d x)).set j (.d y)) st
  | _ => .stuck := rfl
theorem runB_a (N : Nat) (b : EvS) (ds : List D) : runB N b ds st = match b (ds.map Sl.d ++ List.replicate (N - ds.length) .no) st with
  | .nx _ st => .ok .non [] st
  | .ret d _ st => .ok d [] st
  | .exc x _ st => .exc x [] st
  | _ => .stuck := rfl
end
@[simp] theorem dI2_a (c : Int → Int → Bool) (g : Int → Int → Int) (i j : Int) : dI2 c g (.int i) (.int j) = if c i j = true then some (.int (g i j)) else none := rfl
@[simp] theorem dI0_a (g : Int → Int → Int) (i j : Int) : dI0 g (.int i) (.int j) = some (.int (g i j)) := rfl
@[simp] theorem dSub_a (i j : Int) : dSub (.int i) (.int j) = some (.int (i - j)) := rfl
theorem log2_lit {j : Int} (h0 : 0 < j) (h1 : j ≤ 10 ^ 200) : j.natAbs.log2 < 9000 := by
  have h2 : j.natAbs < 2 ^ 9000 := by
    have : j.natAbs ≤ 10 ^ 200 := by omega
    exact Nat.lt_of_le_of_lt this (by decide +kernel)
  exact (Nat.log2_lt (by omega)).mpr h2
@[simp] theorem dFdiv_a (i j : Int) (h0 : 0 < j) (h1 : j ≤ 10 ^ 200) : dFdiv (.int i) (.int j) = some (.int (i / j)) := by
  show dI2 _ _ _ _ = _
  simp [dI2, h0, log2_lit h0 h1]
@[simp] theorem dMod_a (i j : Int) (h0 : 0 < j) : dMod (.int i) (.int j) = some (.int (i % j)) := by
  show dI2 _ _ _ _ = _
  simp [dI2, h0]
@[simp] theorem dAdd_i (i j : Int) : dAdd (.int i) (.int j) = some (.int (i + j)) := rfl
@[simp] theorem dAdd_s (s t : List Nat) (h : s.length + t.length ≤ 16777216) : dAdd (.str s) (.str t) = some (.str (s ++ t)) := if_pos h
@[simp] theorem dAdd_l (s t : List D) (h : s.length + t.length ≤ 16777216) : dAdd (.lst s) (.lst t) = some (.lst (s ++ t)) := if_pos h
@[simp] theorem dAdd_t (s t : List D) (h : s.length + t.length ≤ 16777216) : dAdd (.tup s) (.tup t) = some (.tup (s ++ t)) := if_pos h
@[simp] theorem dMul_i (i j : Int) (h : mulC i j = true) : dMul (.int i) (.int j) = some (.int (i * j)) := if_pos h
/-- below a million digits, say -/
def Sm (i : Int) : Prop := i.natAbs.log2 < 40000000
theorem mulC_of {i j : Int} (h : Sm i) (h' : Sm j) : mulC i j = true := decide_eq_true (by unfold Sm at h h'; omega)
theorem log2_lt {n k : Nat} (h : n < 2 ^ k) (hk : 0 < k) : n.log2 < k := by
  by_cases h0 : n = 0
  · subst h0; simpa using hk
  · exact (Nat.log2_lt h0).mpr h
theorem Sm.of {i : Int} (h : i.natAbs < 2 ^ 2000) : Sm i := by
  have := log2_lt h (by decide)
  unfold Sm; omega
theorem Sm.lit {i : Int} (h0 : -(10 ^ 200) ≤ i) (h1 : i ≤ 10 ^ 200) : Sm i := Sm.of (by
  have : i.natAbs ≤ 10 ^ 200 := by omega
  exact Nat.lt_of_le_of_lt this (by decide +kernel))
theorem Sm.small {i : Int} (h0 : -1000000000000 ≤ i) (h1 : i ≤ 1000000000000) : Sm i := .lit (by omega) (by omega)
@[simp] theorem dMul_s (s : List Nat) (k : Int) (h0 : 0 ≤ k) (h1 : k ≤ 1000000) (h2 : s.length * k.toNat ≤ 1000000) : dMul (.str s) (.int k) = some (.str (reps s k.toNat)) := by
  simp [dMul, h0, h1, h2]
@[simp] theorem dPow_a (i j : Int) : dPow (.int i) (.int j) = if (decide (0 ≤ j) && decide (j ≤ 1000000) && decide (i.natAbs < 18446744073709551616)) = true then some (.int (i ^ j.toNat)) else none := rfl
@[simp] theorem dLt_i (i j : Int) : dLt (.int i) (.int j) = some (.bl (decide (i < j))) := rfl
@[simp] theorem dLe_i (i j : Int) : dLe (.int i) (.int j) = some (.bl (decide (i ≤ j))) := rfl
@[simp] theorem dGt_i (i j : Int) : dGt (.int i) (.int j) = some (.bl (decide (j < i))) := rfl
@[simp] theorem dGe_i (i j : Int) : dGe (.int i) (.int j) = some (.bl (decide (j ≤ i))) := rfl
@[simp] theorem dLt_s (i j : List Nat) : dLt (.str i) (.str j) = some (.bl (decide (i < j))) := rfl
@[simp] theorem dLe_s (i j : List Nat) : dLe (.str i) (.str j) = some (.bl (!decide (j < i))) := rfl
@[simp] theorem dEq_a (a b : D) : dEq a b = if eqOk a = true ∧ eqOk b = true then some (.bl (deq a b)) else none := rfl
@[simp] theorem dNe_a (a b : D) : dNe a b = if eqOk a = true ∧ eqOk b = true then some (.bl (!deq a b)) else none := rfl
@[simp] theorem eqOk_non : eqOk .non = true := rfl
@[simp] theorem eqOk_bl (b : Bool) : eqOk (.bl b) = true := rfl
@[simp] theorem eqOk_int (b : Int) : eqOk (.int b) = true := rfl
@[simp] theorem eqOk_str (b : List Nat) : eqOk (.str b) = true := rfl
@[simp] theorem eqOk_nil : eqOk (.lst []) = true := rfl
@[simp] theorem deq_int (a b : Int) : deq (.int a) (.int b) = decide (a = b) := by simp [deq, toPy, PyData.eqv, Bool.beq_eq_decide_eq]
@[simp] theorem deq_bl (a b : Bool) : deq (.bl a) (.bl b) = decide (a = b) := by simp [deq, toPy, PyData.eqv, Bool.beq_eq_decide_eq]
@[simp] theorem deq_str (a b : List Nat) : deq (.str a) (.str b) = decide (a = b) := by
  have : (tx a == tx b) = decide (a = b) := by
    by_cases h : a = b
    · subst h; simp
    · simp [h]; exact fun z => h (tx_inj z)
  simp [deq, toPy, PyData.eqv, this]
@[simp] theorem deq_int_str (a : Int) (b : List Nat) : deq (.int a) (.str b) = false := by simp [deq, toPy, PyData.eqv]
@[simp] theorem deq_bl_str (a : Bool) (b : List Nat) : deq (.bl a) (.str b) = false := by simp [deq, toPy, PyData.eqv]
@[simp] theorem deq_non_str (b : List Nat) : deq .non (.str b) = false := by simp [deq, toPy, PyData.eqv]
@[simp] theorem deq_lst_str (a : List D) (b : List Nat) : deq (.lst a) (.str b) = false := by simp [deq, toPy, PyData.eqv]
@[simp] theorem deq_tup_str (a : List D) (b : List Nat) : deq (.tup a) (.str b) = false := by simp [deq, toPy, PyData.eqv]
@[simp] theorem deq_str_non (a : List Nat) : deq (.str a) .non = false := by simp [deq, toPy, PyData.eqv]
@[simp] theorem deq_non : deq .non .non = true := by simp [deq, toPy, PyData.eqv]
theorem deq_lst (a b : List D) : deq (.lst a) (.lst b) = deqs a b := by simp [deq, deqs, toPy, PyData.eqv]
theorem deq_tup (a b : List D) : deq (.tup a) (.tup b) = deqs a b := by simp [deq, deqs, toPy, PyData.eqv]
@[simp] theorem deqs_n : deqs [] [] = true := by simp [deqs, toPys, PyData.eqvAll]
@[simp] theorem deqs_c (a b : D) (r s : List D) : deqs (a :: r) (b :: s) = (deq a b && deqs r s) := by simp [deqs, deq, toPys, PyData.eqvAll]
@[simp] theorem deqs_nc (b : D) (s : List D) : deqs [] (b :: s) = false := by simp [deqs, toPys, PyData.eqvAll]
@[simp] theorem deqs_cn (b : D) (s : List D) : deqs (b :: s) [] = false := by simp [deqs, toPys, PyData.eqvAll]
@[simp] theorem dIs_n (x : D) : dIs x .non = some (.bl (isN x)) := by cases x <;> rfl
@[simp] theorem dIsNot_n (x : D) : dIsNot x .non = some (.bl (!isN x)) := by cases x <;> rfl
@[simp] theorem dIs_b (a b : Bool) : dIs (.bl a) (.bl b) = some (.bl (decide (a = b))) := rfl
@[simp] theorem dIsNot_b (a b : Bool) : dIsNot (.bl a) (.bl b) = some (.bl (!decide (a = b))) := rfl
@[simp] theorem isN_non : isN .non = true := rfl
@[simp] theorem isN_int (i : Int) : isN (.int i) = false := rfl
@[simp] theorem isN_str (i : List Nat) : isN (.str i) = false := rfl
@[simp] theorem isN_lst (i : List D) : isN (.lst i) = false := rfl
@[simp] theorem isN_tup (i : List D) : isN (.tup i) = false := rfl
@[simp] theorem isN_bl (i : Bool) : isN (.bl i) = false := rfl
@[simp] theorem dIn_a (x y : D) : dIn x y = (inD x y).map .bl := rfl
@[simp] theorem dNotIn_a (x y : D) : dNotIn x y = (inD x y).map fun b => .bl (!b) := rfl
@[simp] theorem inD_sg (c : Nat) (t : List Nat) : inD (.str [c]) (.str t) = some (decide (c ∈ t)) := rfl
@[simp] theorem inD_l (x : D) (ds : List D) : inD x (.lst ds) = if eqOk x = true ∧ eqOk (.lst ds) = true then some (ds.any fun z => deq z x) else none := rfl
@[simp] theorem inD_t (x : D) (ds : List D) : inD x (.tup ds) = if flatD x = true ∧ ds.all flatD = true then some (ds.any fun z => deq z x) else none := rfl
@[simp] theorem dIx_s (s : List Nat) (i : Int) (h : s.length ≤ 16777216) : dIx (.str s) (.int i) = (atI s i).map fun c => .str [c] := if_pos h
@[simp] theorem dIx_l (s : List D) (i : Int) : dIx (.lst s) (.int i) = atI s i := rfl
@[simp] theorem dIx_t (s : List D) (i : Int) : dIx (.tup s) (.int i) = atI s i := rfl
@[simp] theorem dIx_scr (s : List Int) (i : Int) : dIx (.scr s) (.int i) = (atI s i).map .int := rfl
@[simp] theorem dSl_s (s : List Nat) (l u : Option Int) (h : s.length ≤ 16777216) : dSl (.str s) l u = some (.str (cut s l u)) := if_pos h
@[simp] theorem dSl_l (s : List D) (l u : Option Int) : dSl (.lst s) l u = some (.lst (cut s l u)) := rfl
@[simp] theorem dSl_t (s : List D) (l u : Option Int) : dSl (.tup s) l u = some (.tup (cut s l u)) := rfl
@[simp] theorem dSl_scr (s : List Int) (l u : Option Int) : dSl (.scr s) l u = some (.lst (cut (s.map .int) l u)) := rfl
@[simp] theorem dLen_s (s : List Nat) (h : s.length ≤ 16777216) : dLen [.str s] = some (.int s.length) := if_pos h
@[simp] theorem dLen_l (s : List D) : dLen [.lst s] = some (.int s.length) := rfl
@[simp] theorem dLen_t (s : List D) : dLen [.tup s] = some (.int s.length) := rfl
@[simp] theorem dLen_scr (s : List Int) : dLen [.scr s] = some (.int s.length) := rfl
@[simp] theorem dAll_a (ds : List D) : dAll [.lst ds] = (boolsD ds).map fun bs => .bl (bs.all id) := rfl
@[simp] theorem dAny_a (ds : List D) : dAny [.lst ds] = (boolsD ds).map fun bs => .bl (bs.any id) := rfl
@[simp] theorem dSum_a (ds : List D) : dSum [.lst ds] = (intsD ds).map fun bs => .int bs.sum := rfl
@[simp] theorem itD_l (ds : List D) : itD (.lst ds) = some ds := rfl
@[simp] theorem itD_t (ds : List D) : itD (.tup ds) = some ds := rfl
@[simp] theorem itD_scr (ns : List Int) : itD (.scr ns) = some (ns.map .int) := rfl
@[simp] theorem itD_s (s : List Nat) : itD (.str s) = some (sgs s) := rfl
@[simp] theorem asL_l (ds : List D) : asL (.lst ds) = some ds := rfl
@[simp] theorem asL_scr (ns : List Int) : asL (.scr ns) = some (ns.map .int) := rfl
@[simp] theorem tru_bl (b : Bool) : tru (.bl b) = some b := rfl
@[simp] theorem tyD_s (s : List Nat) : tyD "str" (.str s) = true := rfl
@[simp] theorem tyD_l (s : List D) : tyD "list" (.lst s) = true := rfl
@[simp] theorem dIsI_str_s (s : List Nat) : dIsI [.str s, .ty "str"] = some (.bl true) := rfl
@[simp] theorem dIsI_str_i (i : Int) : dIsI [.int i, .ty "str"] = some (.bl false) := rfl
@[simp] theorem dIsI_str_b (i : Bool) : dIsI [.bl i, .ty "str"] = some (.bl false) := rfl
@[simp] theorem dIsI_str_n : dIsI [.non, .ty "str"] = some (.bl false) := rfl
@[simp] theorem dIsI_str_l (i : List D) : dIsI [.lst i, .ty "str"] = some (.bl false) := rfl
@[simp] theorem dIsI_str_t (i : List D) : dIsI [.tup i, .ty "str"] = some (.bl false) := rfl
@[simp] theorem dIsI_bool_b (i : Bool) : dIsI [.bl i, .ty "bool"] = some (.bl true) := rfl
@[simp] theorem dIsI_bool_i (i : Int) : dIsI [.int i, .ty "bool"] = some (.bl false) := rfl
@[simp] theorem dIsI_int_i (i : Int) : dIsI [.int i, .ty "int"] = some (.bl true) := rfl
theorem got_atI {xs : List D} {i : Int} {S : Sls} {st : Store} : got (atI xs i) S st = match atI xs i with | some d => .ok d S st | none => .stuck := by cases atI xs i <;> rfl
theorem atI_some {α : Type} {xs : List α} {i : Int} (h0 : 0 ≤ i) (h1 : i < xs.length) : ∃ x, atI xs i = some x ∧ x ∈ xs := by
  have hl : i.toNat < xs.length := by omega
  refine ⟨xs[i.toNat], ?_, List.getElem_mem hl⟩
  unfold atI ixN
  rw [if_pos h0, if_pos h1]
  simp [hl]
theorem atI_eq {α : Type} {xs : List α} {i : Int} (h0 : 0 ≤ i) (h1 : i < xs.length) : atI xs i = some (xs[i.toNat]'(by omega)) := by
  unfold atI ixN
  rw [if_pos h0, if_pos h1]
  simp
@[simp] theorem flatD_int (i : Int) : flatD (.int i) = true := rfl
@[simp] theorem flatD_str (i : List Nat) : flatD (.str i) = true := rfl
@[simp] theorem flatD_bl (i : Bool) : flatD (.bl i) = true := rfl
@[simp] theorem flatD_non : flatD .non = true := rfl
theorem flat_pure : ∀ {ds : List D}, ds.all flatD = true → pureDs ds = true ∧ depDs ds = 0
  | [], _ => by simp [pureDs, depDs]
  | d :: r, h => by
    rw [List.all_cons, Bool.and_eq_true] at h
    obtain ⟨a, b⟩ := flat_pure h.2
    have h1 := h.1
    cases d <;> simp [flatD] at h1 <;> simp [pureDs, pureD, depDs, depD, a, b]
@[simp] theorem eqOk_lst (ds : List D) (h : ds.all flatD = true) : eqOk (.lst ds) = true := by
  obtain ⟨a, b⟩ := flat_pure h
  simp [eqOk, pureD, depD, a, b]
@[simp] theorem eqOk_tup (ds : List D) (h : ds.all flatD = true) : eqOk (.tup ds) = true := by
  obtain ⟨a, b⟩ := flat_pure h
  simp [eqOk, pureD, depD, a, b]
@[simp] theorem flat_strs (ss : List (List Nat)) : (ss.map D.str).all flatD = true := by simp
@[simp] theorem flat_ints (ss : List Int) : (ss.map D.int).all flatD = true := by simp
/-! ### loops -/
theorem forL_ind {g : Tg} {body : EvS} (P : List D → Sls → Prop) (step : ∀ d r S st, P (d :: r) S → ∃ S1 S2, g d S = some S1 ∧ body S1 st = .nx S2 st ∧ P r S2) : ∀ (ds : List D) (S : Sls) (st : Store), P ds S → ∃ S', forL g body ds S st = .nx S' st ∧ P [] S'
  | [], S, st, h => ⟨S, rfl, h⟩
  | d :: r, S, st, h => by
    obtain ⟨S1, S2, e1, e2, h2⟩ := step d r S st h
    obtain ⟨S', e3, h3⟩ := forL_ind P step r S2 st h2
    exact ⟨S', by simp only [forL, e1, e2]; exact e3, h3⟩
@[simp] theorem forL_n (g : Tg) (body : EvS) (S : Sls) (st : Store) : forL g body [] S st = .nx S st := rfl
theorem forL_c (g : Tg) (body : EvS) (d : D) (r : List D) (S : Sls) (st : Store) : forL g body (d :: r) S st = match g d S with
    | some S1 => match body S1 st with
      | .nx S2 st2 => forL g body r S2 st2
      | .ct S2 st2 => forL g body r S2 st2
      | .rto w S2 st2 => .rto w S2 st2
      | .bk S2 st2 => .nx S2 st2
      | .ret v S2 st2 => .ret v S2 st2
      | .exc x S2 st2 => .exc x S2 st2
      | .stuck => .stuck
    | none => .stuck := rfl
/-- a loop that looks for one item and hands back v -/
theorem forL_find {g : Tg} {body : EvS} {st : Store} (p : D → Bool) (v : D) (I : Sls → Prop) : ∀ (ds : List D) (S : Sls), (∀ d ∈ ds, ∀ S, I S → ∃ S1, g d S = some S1 ∧ (p d = true → ∃ S2, body S1 st = .ret v S2 st) ∧ (p d = false → ∃ S2, body S1 st = .nx S2 st ∧ I S2)) → I S →
    (ds.any p = true → ∃ S', forL g body ds S st = .ret v S' st) ∧ (ds.any p = false → ∃ S', forL g body ds S st = .nx S' st ∧ I S')
  | [], S, _, hI => ⟨fun h => (by cases h), fun _ => ⟨S, rfl, hI⟩⟩
  | d :: r, S, h, hI => by
    obtain ⟨S1, e1, h1, h2⟩ := h d (List.mem_cons_self ..) S hI
    cases hp : p d with
    | true =>
      obtain ⟨S2, e2⟩ := h1 hp
      refine ⟨fun _ => ⟨S2, by rw [forL_c, e1]; simp only [e2]⟩, fun z => ?_⟩
      rw [List.any_cons, hp] at z; cases z
    | false =>
      obtain ⟨S2, e2, hI2⟩ := h2 hp
      have ih := forL_find p v I r S2 (fun d hd => h d (List.mem_cons_of_mem _ hd)) hI2
      rw [List.any_cons, hp, Bool.false_or]
      refine ⟨fun z => ?_, fun z => ?_⟩
      · obtain ⟨S', e3⟩ := ih.1 z
        exact ⟨S', by rw [forL_c, e1]; simp only [e2]; exact e3⟩
      · obtain ⟨S', e3, h3⟩ := ih.2 z
        exact ⟨S', by rw [forL_c, e1]; simp only [e2]; exact e3, h3⟩
theorem mem_sgs {s : List Nat} {d : D} (h : d ∈ sgs s) : ∃ c ∈ s, d = .str [c] := by
  unfold sgs at h
  obtain ⟨c, h1, h2⟩ := List.mem_map.mp h
  exact ⟨c, h1, h2.symm⟩
@[simp] theorem sgs_len (s : List Nat) : (sgs s).length = s.length := by simp [sgs]
theorem mem_enum {ds : List D} {d : D} (h : d ∈ enumD ds) : ∃ (k : Nat) (x : D), d = .tup [.int k, x] ∧ k < ds.length ∧ x ∈ ds := by
  unfold enumD at h
  obtain ⟨⟨x, k⟩, h1, h2⟩ := List.mem_map.mp h
  have h3 := List.mem_zipIdx' h1
  exact ⟨k, x, h2.symm, h3.1, by rw [h3.2]; exact List.getElem_mem _⟩
@[simp] theorem lcL_n (g : Tg) (own : List Nat) (t : Ev Bool) (f : Ev D) (S : Sls) (st : Store) : lcL g own t f [] S st = .ok [] S st := rfl
theorem lcL_c (g : Tg) (own : List Nat) (t : Ev Bool) (f : Ev D) (d : D) (r : List D) (S : Sls) (st : Store) : lcL g own t f (d :: r) S st = match g d S with
    | some S1 => (t S1 st).calm.bind fun b S2 st2 => if b = true then
        (f S2 st2).calm.bind fun y S3 st3 => (lcL g own t f r (wipeS S3 own) st3).bind fun ys S4 st4 => .ok (y :: ys) S4 st4
      else lcL g own t f r (wipeS S2 own) st2
    | none => .stuck := rfl
/-- a comprehension without tests that maps by m -/
theorem lcL_map {g : Tg} {own : List Nat} {f : Ev D} {S : Sls} {st : Store} (m : D → D) : ∀ (ds : List D), (∀ d ∈ ds, ∃ S1 S3, g d S = some S1 ∧ f S1 st = .ok (m d) S3 st ∧ wipeS S3 own = S) → lcL g own tY f ds S st = .ok (ds.map m) S st
  | [], _ => rfl
  | d :: r, h => by
    obtain ⟨S1, S3, e1, e2, e3⟩ := h d (List.mem_cons_self ..)
    have ih := lcL_map m r fun d hd => h d (List.mem_cons_of_mem _ hd)
    rw [lcL_c, e1]
    simp only [tY_a, Res.calm_ok, Res.bind_ok, if_true, e2, e3, ih, List.map_cons]
theorem lcL_filter {g : Tg} {own : List Nat} {t : Ev Bool} {f : Ev D} {S : Sls} {st : Store} (p : D → Bool) (m : D → D) : ∀ (ds : List D), (∀ d ∈ ds, ∃ S1 S2, g d S = some S1 ∧ t S1 st = .ok (p d) S2 st ∧ (p d = false → wipeS S2 own = S) ∧ (p d = true → ∃ S3, f S2 st = .ok (m d) S3 st ∧ wipeS S3 own = S)) → lcL g own t f ds S st = .ok ((ds.filter p).map m) S st
  | [], _ => rfl
  | d :: r, h => by
    obtain ⟨S1, S2, e1, e2, e3, e4⟩ := h d (List.mem_cons_self ..)
    have ih := lcL_filter p m r fun d hd => h d (List.mem_cons_of_mem _ hd)
    rw [lcL_c, e1]
    cases hp : p d with
    | false =>
      rw [hp] at e2
      simp only [e2, Res.calm_ok, Res.bind_ok, Bool.false_eq_true, if_false, e3 hp, ih, List.filter_cons, hp]
    | true =>
      obtain ⟨S3, e5, e6⟩ := e4 hp
      rw [hp] at e2
      simp only [e2, Res.calm_ok, Res.bind_ok, if_true, e5, e6, ih, List.filter_cons, hp, List.map_cons]
end DL

namespace DL
open PySem PySem.Spec PyProof.Rows L2
/-! ### slices, items -/
section
variable {α : Type}
theorem sIx_nn (n d : Nat) {v : Int} (h : 0 ≤ v) : HT.sIx n d (some v) = min v.toNat n := by
  show (if v < 0 then _ else _) = _
  rw [if_neg (by omega)]
theorem cut_none (xs : List α) : cut xs none none = xs := by
  unfold cut; simp [HT.sIx_none]
theorem cut_to (xs : List α) {k : Int} (h : 0 ≤ k) : cut xs none (some k) = xs.take k.toNat := by
  unfold cut
  rw [HT.sIx_none, sIx_nn _ _ h, List.drop_zero, Nat.sub_zero]
  by_cases hk : k.toNat ≤ xs.length
  · rw [Nat.min_eq_left hk]
  · rw [Nat.min_eq_right (by omega), List.take_length, List.take_of_length_le (by omega)]
theorem cut_from (xs : List α) {k : Int} (h : 0 ≤ k) : cut xs (some k) none = xs.drop k.toNat := by
  unfold cut
  rw [HT.sIx_none, sIx_nn _ _ h]
  by_cases hk : k.toNat ≤ xs.length
  · rw [Nat.min_eq_left hk]
    exact List.take_of_length_le (by rw [List.length_drop]; omega)
  · rw [Nat.min_eq_right (by omega), List.drop_length, List.drop_of_length_le (by omega), List.take_nil]
theorem cut_mid (xs : List α) {a b : Int} (h : 0 ≤ a) (h' : 0 ≤ b) : cut xs (some a) (some b) = (xs.take b.toNat).drop a.toNat := by
  unfold cut
  rw [sIx_nn _ _ h, sIx_nn _ _ h', List.drop_take]
  by_cases ha : a.toNat ≤ xs.length
  · rw [Nat.min_eq_left ha]
    by_cases hb : b.toNat ≤ xs.length
    · rw [Nat.min_eq_left hb]
    · rw [Nat.min_eq_right (by omega), List.take_of_length_le (by rw [List.length_drop]; omega), List.take_of_length_le (by rw [List.length_drop]; omega)]
  · rw [Nat.min_eq_right (by omega : xs.length ≤ a.toNat), List.drop_length, List.drop_of_length_le (by omega : xs.length ≤ a.toNat), List.take_nil, List.take_nil]
theorem cut_init (xs : List α) : cut xs none (some (-1)) = xs.dropLast := by
  unfold cut
  rw [HT.sIx_none, List.drop_zero, Nat.sub_zero, List.dropLast_eq_take]
  congr 1
  unfold HT.sIx
  simp only []
  rw [if_pos (by decide)]; omega
theorem cut_len (xs : List α) (l u : Option Int) : (cut xs l u).length ≤ xs.length := by
  unfold cut
  rw [List.length_take, List.length_drop]; omega
theorem cut_mem {xs : List α} {l u : Option Int} {x : α} (h : x ∈ cut xs l u) : x ∈ xs := List.mem_of_mem_drop (List.mem_of_mem_take h)
theorem atI_nn (xs : List α) {i : Int} (h : 0 ≤ i) : atI xs i = xs[i.toNat]? := by
  unfold atI ixN
  rw [if_pos h]
  split
  · rfl
  · rename_i h1
    rw [List.getElem?_eq_none (by omega)]; rfl
theorem atI_last (xs : List α) : atI xs (-1) = xs.getLast? := by
  unfold atI ixN
  rw [if_neg (by decide), List.getLast?_eq_getElem?]
  split
  · show xs[((-1 : Int) + xs.length).toNat]? = _
    congr 1; omega
  · have : xs.length = 0 := by omega
    rw [List.eq_nil_of_length_eq_zero this]; rfl
@[simp] theorem atI_zero (x : α) (xs : List α) : atI (x :: xs) 0 = some x := by rw [atI_nn _ (by decide)]; rfl
@[simp] theorem atI_one (x y : α) (xs : List α) : atI (x :: y :: xs) 1 = some y := by rw [atI_nn _ (by decide)]; rfl
@[simp] theorem atI_two (x y z : α) (xs : List α) : atI (x :: y :: z :: xs) 2 = some z := by rw [atI_nn _ (by decide)]; rfl
@[simp] theorem atI_three (x y z u : α) (xs : List α) : atI (x :: y :: z :: u :: xs) 3 = some u := by rw [atI_nn _ (by decide)]; rfl
@[simp] theorem atI_four (x y z u v : α) (xs : List α) : atI (x :: y :: z :: u :: v :: xs) 4 = some v := by rw [atI_nn _ (by decide)]; rfl
theorem atI_map {β : Type} (f : α → β) (xs : List α) (i : Int) : atI (xs.map f) i = (atI xs i).map f := by
  unfold atI
  rw [List.length_map]
  cases ixN xs.length i with
  | none => rfl
  | some j => simp
theorem cut_map {β : Type} (f : α → β) (xs : List α) (l u : Option Int) : cut (xs.map f) l u = (cut xs l u).map f := by
  unfold cut
  rw [List.length_map, List.map_take, List.map_drop]
end
/-! ### the script's cells -/
def cell (ns : List Int) (i : Int) : Int := (ns[i.toNat]?).getD 0
theorem sum_le {ss : List (List Nat)} {b : Nat} (h : ∀ s ∈ ss, s.length ≤ b) : (ss.map (·.length)).sum ≤ ss.length * b := by
  induction ss with
  | nil => simp
  | cons s r ih =>
    have h1 := h s (List.mem_cons_self ..)
    have h2 := ih fun t m => h t (List.mem_cons_of_mem _ m)
    simp only [List.map_cons, List.sum_cons, List.length_cons, Nat.succ_mul]
    omega
theorem joinN_len (a : List Nat) : ∀ ss : List (List Nat), (joinN a ss).length ≤ (ss.map (·.length)).sum + ss.length * a.length
  | [] => by simp [joinN]
  | [x] => by simp [joinN]
  | x :: y :: r => by
    have := joinN_len a (y :: r)
    simp only [joinN, List.length_append, List.map_cons, List.sum_cons, List.length_cons, Nat.succ_mul] at this ⊢
    omega
@[simp] theorem joinN_n (a : List Nat) : joinN a [] = [] := rfl
@[simp] theorem joinN_1 (a x : List Nat) : joinN a [x] = x := rfl
theorem joinN_c (a x y : List Nat) (r : List (List Nat)) : joinN a (x :: y :: r) = x ++ a ++ joinN a (y :: r) := rfl
@[simp] theorem joinN_e : ∀ ss : List (List Nat), joinN [] ss = ss.flatten
  | [] => rfl
  | [x] => by simp
  | x :: y :: r => by rw [joinN_c, joinN_e (y :: r)]; simp
/-! ### texts' operations -/
theorem dJoin_a (a : List Nat) (ss : List (List Nat)) (h : (ss.map (·.length)).sum + ss.length * a.length ≤ 16777216) : dJoin (.str a) [.lst (ss.map .str)] = some (.str (joinN a ss)) := by
  simp [dJoin, seqD, h]
@[simp] theorem dStr_a (i : Int) (h : i.natAbs.log2 < 1920) : dStr [.int i] = some (.str (numS i)) := by simp [dStr, h]
@[simp] theorem dInt_i (i : Int) : dInt [.int i] = some (.int i) := rfl
@[simp] theorem dInt_b (i : Bool) : dInt [.bl i] = some (.int (if i then 1 else 0)) := rfl
@[simp] theorem dMax_a (i j : Int) : dMax [.int i, .int j] = some (.int (if j > i then j else i)) := rfl
@[simp] theorem dMin_a (i j : Int) : dMin [.int i, .int j] = some (.int (if j < i then j else i)) := rfl
@[simp] theorem dAbs_a (i : Int) : dAbs [.int i] = some (.int (if i < 0 then -i else i)) := rfl
@[simp] theorem dOrd_a (c : Nat) : dOrd [.str [c]] = some (.int c) := rfl
@[simp] theorem dNeg_a (i : Int) : dNeg (.int i) = some (.int (-i)) := rfl
@[simp] theorem dListF_l (ds : List D) : dListF [.lst ds] = some (.l ds) := rfl
@[simp] theorem dListF_t (ds : List D) : dListF [.tup ds] = some (.l ds) := rfl
@[simp] theorem dListF_scr (ns : List Int) : dListF [.scr ns] = some (.l (ns.map .int)) := rfl
@[simp] theorem dTuple_l (ds : List D) : dTuple [.lst ds] = some (.tup ds) := rfl
@[simp] theorem dTuple_t (ds : List D) : dTuple [.tup ds] = some (.tup ds) := rfl
section
variable {S : Sls} {st : Store}
@[simp] theorem o3E_a (op op' : D → D → Option D) (fa fb fc : Ev Opd) : o3E op op' fa fb fc S st = (fa S st).bind fun a S st => (fb S st).bind fun b S st =>
  match vw S a, vw S b with
  | some x, some y => match op x y with
    | some (.bl true) => (fc S st).bind fun c S st => match vw S b, vw S c with
      | some y, some z => got (op' y z) S st
      | _, _ => .stuck
    | some (.bl false) => .ok (.bl false) S st
    | _ => .stuck
  | _, _ => .stuck := rfl
end
theorem deqs_refl : ∀ {ds : List D}, (∀ d ∈ ds, deq d d = true) → deqs ds ds = true
  | [], _ => deqs_n
  | d :: r, h => by
    rw [deqs_c, h d (List.mem_cons_self ..), deqs_refl fun x m => h x (List.mem_cons_of_mem _ m)]; rfl
theorem deq_refl_strs (ts : List (List Nat)) : deq (.lst (ts.map D.str)) (.lst (ts.map D.str)) = true := by
  rw [deq_lst]
  exact deqs_refl fun d h => by
    obtain ⟨s, _, rfl⟩ := List.mem_map.mp h
    simp
/-- a loop with a state of its own -/
theorem forL_acc {α : Type} {g : Tg} {body : EvS} {st : Store} (R : α → Sls → Prop) (f : α → D → α) (q : D → Prop) (step : ∀ a d S, q d → R a S → ∃ S1 S2, g d S = some S1 ∧ body S1 st = .nx S2 st ∧ R (f a d) S2) :
    ∀ (ds : List D) (a : α) (S : Sls), (∀ d ∈ ds, q d) → R a S → ∃ S', forL g body ds S st = .nx S' st ∧ R (ds.foldl f a) S'
  | [], a, S, _, h => ⟨S, rfl, h⟩
  | d :: r, a, S, hq, h => by
    obtain ⟨S1, S2, e1, e2, h2⟩ := step a d S (hq d (List.mem_cons_self ..)) h
    obtain ⟨S', e3, h3⟩ := forL_acc R f q step r (f a d) S2 (fun x m => hq x (List.mem_cons_of_mem _ m)) h2
    exact ⟨S', by rw [forL_c, e1]; simp only [e2]; exact e3, h3⟩
theorem rng_n (lo : Int) : rng 0 lo = [] := rfl
theorem rng_c (n : Nat) (lo : Int) : rng (n + 1) lo = .int lo :: rng n (lo + 1) := by
  unfold rng
  rw [List.range_succ_eq_map, List.map_cons, List.map_map]
  congr 1
  · simp
  · refine List.map_congr_left fun i _ => ?_
    simp; omega
@[simp] theorem rng_len (n : Nat) (lo : Int) : (rng n lo).length = n := by simp [rng]
/-! ### numbers as texts -/
open PySem.NumText in
theorem numS_nat (m : Nat) : numS (m : Int) = (Nat.toDigits 10 m).map Char.toNat := PySem.W.KIN.signs_num m
open PySem.NumText PySem.W in
theorem numS_dig {n : Int} (h : 0 ≤ n) : AllDigits (numS n) := by
  obtain ⟨m, rfl⟩ := Int.eq_ofNat_of_zero_le h
  intro c hc
  rw [numS_nat] at hc
  obtain ⟨ch, hch, e⟩ := List.mem_map.mp hc
  rw [← e]
  exact digit_range (Nat.isDigit_of_mem_toDigits (by decide) (by decide) hch)
theorem numS_ne {n : Int} (h : 0 ≤ n) : numS n ≠ [] := by
  obtain ⟨m, rfl⟩ := Int.eq_ofNat_of_zero_le h
  rw [numS_nat]
  intro e
  have h := toDigits_len_ge 10 m
  rw [List.map_eq_nil_iff.mp e] at h
  exact absurd h (by decide)
theorem numS_len {n : Int} {k : Nat} (h : 0 ≤ n) (hk : 0 < k) (hn : n < 10 ^ k) : (numS n).length ≤ k := by
  have : (Str.ofString (toString n)).length ≤ k := toString_length_le h hk hn
  simpa [numS, Str.length] using this
open PySem.NumText PySem.W in
theorem numS_val {n : Int} (h : 0 ≤ n) : (digitsVal (numS n) : Int) = n := by
  obtain ⟨m, rfl⟩ := Int.eq_ofNat_of_zero_le h
  rw [numS_nat, KIN.val_back]
open PySem.NumText in
theorem numS_reads {n : Int} (h : 0 ≤ n) (hn : n < 10 ^ 600) : PySem.intText? (tx (numS n)) = some n := by
  have e := intText_digits (x := tx (numS n)) (by rw [cps_tx]; exact numS_dig h) (by rw [cps_tx]; exact numS_ne h) (by rw [tx_len]; have := numS_len h (by decide) hn; omega)
  rw [cps_tx] at e
  rw [e, numS_val h]
theorem dInt_num {n : Int} (h : 0 ≤ n) (hn : n < 10 ^ 600) : dInt [.str (numS n)] = some (.int n) := by
  have := numS_len h (by decide) hn
  simp [dInt, numS_reads h hn, show (numS n).length ≤ 640 by omega]
theorem numS_inj {n m : Int} (h : 0 ≤ n) (h' : 0 ≤ m) (e : numS n = numS m) : n = m := by
  rw [← numS_val h, ← numS_val h', e]
theorem dStr_num {n : Int} (h : 0 ≤ n) (hn : n < 10 ^ 500) : dStr [.int n] = some (.str (numS n)) := by
  have : n.natAbs.log2 < 1920 := log2_lt (Nat.lt_of_lt_of_le (show n.natAbs < 10 ^ 500 by omega) (by decide +kernel)) (by decide)
  simp [dStr, this]
theorem dIn_strs (s : List Nat) (ts : List (List Nat)) : dIn (.str s) (.lst (ts.map .str)) = some (.bl (decide (s ∈ ts))) := by
  have : (ts.map D.str).any (fun z => deq z (.str s)) = decide (s ∈ ts) := by
    rw [List.any_map, Bool.eq_iff_iff, List.any_eq_true, decide_eq_true_eq]
    constructor
    · rintro ⟨x, hx, e⟩
      simp at e; subst e; exact hx
    · intro h; exact ⟨s, h, by simp⟩
  rw [dIn_a, inD_l, if_pos ⟨by simp, eqOk_lst _ (flat_strs ts)⟩, this]; rfl
theorem dNotIn_strs (s : List Nat) (ts : List (List Nat)) : dNotIn (.str s) (.lst (ts.map .str)) = some (.bl (!decide (s ∈ ts))) := by
  have := dIn_strs s ts
  simp only [dIn_a, dNotIn_a] at this ⊢
  cases h : inD (.str s) (.lst (ts.map .str)) with
  | none => rw [h] at this; cases this
  | some b => rw [h] at this; simp at this; simp [this]
/-- the last one that fits is held -/
theorem foldl_last {α : Type} [DecidableEq α] (w : α) : ∀ (xs : List α) (a : Option α), xs.foldl (fun a x => if x = w then some x else a) a = if w ∈ xs then some w else a
  | [], a => rfl
  | x :: r, a => by
    rw [List.foldl_cons, foldl_last w r]
    by_cases h : x = w
    · subst h; simp
    · simp [h, Ne.symm h]
theorem ints_of {P : Int → Prop} : ∀ {ds : List D}, (∀ d ∈ ds, ∃ k, d = .int k ∧ P k) → ∃ ks : List Int, ds = ks.map .int ∧ ∀ k ∈ ks, P k
  | [], _ => ⟨[], rfl, by simp⟩
  | d :: r, h => by
    obtain ⟨k, e, p⟩ := h d (List.mem_cons_self ..)
    obtain ⟨ks, e2, p2⟩ := ints_of (P := P) fun x m => h x (List.mem_cons_of_mem _ m)
    exact ⟨k :: ks, by rw [e, e2]; rfl, fun x m => by
      rcases List.mem_cons.mp m with z | z
      · rw [z]; exact p
      · exact p2 x z⟩
theorem strs_of {P : List Nat → Prop} : ∀ {ds : List D}, (∀ d ∈ ds, ∃ k, d = .str k ∧ P k) → ∃ ks : List (List Nat), ds = ks.map .str ∧ ∀ k ∈ ks, P k
  | [], _ => ⟨[], rfl, by simp⟩
  | d :: r, h => by
    obtain ⟨k, e, p⟩ := h d (List.mem_cons_self ..)
    obtain ⟨ks, e2, p2⟩ := strs_of (P := P) fun x m => h x (List.mem_cons_of_mem _ m)
    exact ⟨k :: ks, by rw [e, e2]; rfl, fun x m => by
      rcases List.mem_cons.mp m with z | z
      · rw [z]; exact p
      · exact p2 x z⟩
theorem cell_mem {ns : List Int} {P : Int → Prop} (h0 : P 0) (h : ∀ z ∈ ns, P z) (i : Int) : P (cell ns i) := by
  unfold cell
  cases e : ns[i.toNat]? with
  | none => exact h0
  | some z => exact h z (List.mem_of_getElem? e)
/-! ### comprehensions and loops over what is encoded -/
theorem lcL_mapF {α : Type} {g : Tg} {own : List Nat} {f : Ev D} {S : Sls} {st : Store} (enc : α → D) (out : α → D) : ∀ (xs : List α), (∀ x ∈ xs, ∃ S1 S3, g (enc x) S = some S1 ∧ f S1 st = .ok (out x) S3 st ∧ wipeS S3 own = S) → lcL g own tY f (xs.map enc) S st = .ok (xs.map out) S st
  | [], _ => rfl
  | x :: r, h => by
    obtain ⟨S1, S3, e1, e2, e3⟩ := h x (List.mem_cons_self ..)
    have ih := lcL_mapF enc out r fun y hy => h y (List.mem_cons_of_mem _ hy)
    rw [List.map_cons, lcL_c, e1]
    simp only [tY_a, Res.calm_ok, Res.bind_ok, if_true, e2, e3, ih, List.map_cons]
theorem lcL_filterF {α : Type} {g : Tg} {own : List Nat} {t : Ev Bool} {f : Ev D} {S : Sls} {st : Store} (enc : α → D) (p : α → Bool) (out : α → D) : ∀ (xs : List α), (∀ x ∈ xs, ∃ S1 S2, g (enc x) S = some S1 ∧ t S1 st = .ok (p x) S2 st ∧ (p x = false → wipeS S2 own = S) ∧ (p x = true → ∃ S3, f S2 st = .ok (out x) S3 st ∧ wipeS S3 own = S)) → lcL g own t f (xs.map enc) S st = .ok ((xs.filter p).map out) S st
  | [], _ => rfl
  | x :: r, h => by
    obtain ⟨S1, S2, e1, e2, e3, e4⟩ := h x (List.mem_cons_self ..)
    have ih := lcL_filterF enc p out r fun d hd => h d (List.mem_cons_of_mem _ hd)
    rw [List.map_cons, lcL_c, e1]
    cases hp : p x with
    | false =>
      rw [hp] at e2
      simp only [e2, Res.calm_ok, Res.bind_ok, Bool.false_eq_true, if_false, e3 hp, ih, List.filter_cons, hp]
    | true =>
      obtain ⟨S3, e5, e6⟩ := e4 hp
      rw [hp] at e2
      simp only [e2, Res.calm_ok, Res.bind_ok, if_true, e5, e6, ih, List.filter_cons, hp, List.map_cons]
theorem forL_accF {α β : Type} {g : Tg} {body : EvS} {st : Store} (enc : β → D) (R : α → Sls → Prop) (f : α → β → α) : ∀ (xs : List β) (a : α) (S : Sls), (∀ x ∈ xs, ∀ a S, R a S → ∃ S1 S2, g (enc x) S = some S1 ∧ body S1 st = .nx S2 st ∧ R (f a x) S2) → R a S → ∃ S', forL g body (xs.map enc) S st = .nx S' st ∧ R (xs.foldl f a) S'
  | [], a, S, _, h => ⟨S, rfl, h⟩
  | x :: r, a, S, hs, h => by
    obtain ⟨S1, S2, e1, e2, h2⟩ := hs x (List.mem_cons_self ..) a S h
    obtain ⟨S', e3, h3⟩ := forL_accF enc R f r (f a x) S2 (fun y m => hs y (List.mem_cons_of_mem _ m)) h2
    exact ⟨S', by rw [List.map_cons, forL_c, e1]; simp only [e2]; exact e3, h3⟩
/-- a loop over encoded items that hands back v at the first item with p -/
theorem forL_findF {β : Type} {g : Tg} {body : EvS} {st : Store} (enc : β → D) (p : β → Bool) (v : D) (I : Sls → Prop) : ∀ (xs : List β) (S : Sls), (∀ x ∈ xs, ∀ S, I S → ∃ S1, g (enc x) S = some S1 ∧ (p x = true → ∃ S2, body S1 st = .ret v S2 st) ∧ (p x = false → ∃ S2, body S1 st = .nx S2 st ∧ I S2)) → I S →
    (xs.any p = true → ∃ S', forL g body (xs.map enc) S st = .ret v S' st) ∧ (xs.any p = false → ∃ S', forL g body (xs.map enc) S st = .nx S' st ∧ I S')
  | [], S, _, hI => ⟨fun h => (by cases h), fun _ => ⟨S, rfl, hI⟩⟩
  | x :: r, S, h, hI => by
    obtain ⟨S1, e1, h1, h2⟩ := h x (List.mem_cons_self ..) S hI
    rw [List.map_cons]
    cases hp : p x with
    | true =>
      obtain ⟨S2, e2⟩ := h1 hp
      refine ⟨fun _ => ⟨S2, by rw [forL_c, e1]; simp only [e2]⟩, fun z => ?_⟩
      rw [List.any_cons, hp] at z; cases z
    | false =>
      obtain ⟨S2, e2, hI2⟩ := h2 hp
      have ih := forL_findF enc p v I r S2 (fun y hy => h y (List.mem_cons_of_mem _ hy)) hI2
      rw [List.any_cons, hp, Bool.false_or]
      refine ⟨fun z => ?_, fun z => ?_⟩
      · obtain ⟨S', e3⟩ := ih.1 z
        exact ⟨S', by rw [forL_c, e1]; simp only [e2]; exact e3⟩
      · obtain ⟨S', e3, h3⟩ := ih.2 z
        exact ⟨S', by rw [forL_c, e1]; simp only [e2]; exact e3, h3⟩
end DL

namespace M
open PySem PySem.Spec PyProof.Rows L2 DL
/-! ### conditions -/
inductive Cd where
  | rest (m a b : Int) | self (a : Int) (b : Option Int) | not (c : Cd) | grp (all : Bool) (cs : List Cd)
instance : Inhabited Cd := ⟨.grp true []⟩
abbrev w_rest : List Nat := [114, 101, 115, 116]
abbrev w_self : List Nat := [115, 101, 108, 102]
abbrev w_not : List Nat := [110, 111, 116]
abbrev w_and : List Nat := [97, 110, 100]
abbrev w_or : List Nat := [111, 114]
def optD : Option Int → D
  | none => .non
  | some i => .int i
def wAO (t : Bool) : List Nat := if t then w_and else w_or
mutual
/-- as a tuple -/
def Cd.d : Cd → D
  | .rest m a b => .tup [.str w_rest, .int m, .int a, .int b]
  | .self a b => .tup [.str w_self, .int a, optD b]
  | .not c => .tup [.str w_not, c.d]
  | .grp t cs => .tup [.str (wAO t), .lst (Cd.ds cs)]
def Cd.ds : List Cd → List D
  | [] => []
  | c :: r => c.d :: Cd.ds r
end
theorem Cd.ds_eq : ∀ cs : List Cd, Cd.ds cs = cs.map Cd.d
  | [] => rfl
  | c :: r => by rw [Cd.ds, Cd.ds_eq r]; rfl
def clsN : Cd → Nat
  | .rest _ _ _ => 90595682176870
  | .self _ _ => 91695075446630
  | .not _ => 336877342566
  | .grp t _ => if t then 280991911782 else 20110546383687526
mutual
/-- as an object -/
def Cd.o : Cd → D
  | .rest m a b => .obj 90595682176870 [(25209, .int m), (7106423, .int a), (1751738216, .int b)]
  | .self a b => .obj 91695075446630 [(7106423, .int a), (1751738216, optD b)]
  | .not c => .obj 336877342566 [(27416740819268468, c.o)]
  | .grp t cs => .obj (if t then 280991911782 else 20110546383687526) [(452824294770, .lst (Cd.os cs))]
def Cd.os : List Cd → List D
  | [] => []
  | c :: r => c.o :: Cd.os r
end
theorem Cd.os_eq : ∀ cs : List Cd, Cd.os cs = cs.map Cd.o
  | [] => rfl
  | c :: r => by rw [Cd.os, Cd.os_eq r]; rfl
mutual
/-- whether it holds of a number -/
def Cd.hd : Cd → Int → Bool
  | .rest m a b, n => decide (a ≤ n % m) && decide (n % m ≤ b)
  | .self a b, n => decide (a ≤ n) && (match b with | none => true | some b => decide (n ≤ b))
  | .not c, n => !c.hd n
  | .grp t cs, n => if t then Cd.hall cs n else Cd.hany cs n
def Cd.hall : List Cd → Int → Bool
  | [], _ => true
  | c :: r, n => c.hd n && Cd.hall r n
def Cd.hany : List Cd → Int → Bool
  | [], _ => false
  | c :: r, n => c.hd n || Cd.hany r n
end
theorem Cd.hall_eq : ∀ (cs : List Cd) (n : Int), Cd.hall cs n = cs.all fun c => c.hd n
  | [], _ => rfl
  | c :: r, n => by rw [Cd.hall, Cd.hall_eq r, List.all_cons]
theorem Cd.hany_eq : ∀ (cs : List Cd) (n : Int), Cd.hany cs n = cs.any fun c => c.hd n
  | [], _ => rfl
  | c :: r, n => by rw [Cd.hany, Cd.hany_eq r, List.any_cons]
mutual
/-- how deep -/
def Cd.dep : Cd → Nat
  | .rest _ _ _ => 0
  | .self _ _ => 0
  | .not c => c.dep + 1
  | .grp _ cs => Cd.deps cs + 1
def Cd.deps : List Cd → Nat
  | [] => 0
  | c :: r => max c.dep (Cd.deps r)
end
theorem Cd.dep_le {c : Cd} : ∀ {cs : List Cd}, c ∈ cs → c.dep ≤ Cd.deps cs
  | d :: r, h => by
    rw [Cd.deps]
    rcases List.mem_cons.mp h with z | z
    · subst z; omega
    · have := Cd.dep_le z; omega
theorem Cd.deps_le {n : Nat} : ∀ {cs : List Cd}, (∀ c ∈ cs, c.dep ≤ n) → Cd.deps cs ≤ n
  | [], _ => Nat.zero_le _
  | d :: r, h => by
    rw [Cd.deps]
    have h1 := h d (List.mem_cons_self ..)
    have h2 := Cd.deps_le fun c m => h c (List.mem_cons_of_mem _ m)
    omega
mutual
/-- as it may be handed in -/
def Cd.ok : Cd → Prop
  | .rest m a b => 0 < m ∧ m ≤ 300 ∧ m ∣ 300 ∧ 0 ≤ a ∧ a ≤ b ∧ b < m
  | .self a b => 0 ≤ a ∧ (match b with | none => True | some b => a ≤ b)
  | .not c => c.ok
  | .grp _ cs => cs.length ≤ 1000 ∧ Cd.oks cs
def Cd.oks : List Cd → Prop
  | [] => True
  | c :: r => c.ok ∧ Cd.oks r
end
theorem Cd.oks_mem : ∀ {cs : List Cd}, Cd.oks cs → ∀ c ∈ cs, c.ok
  | _ :: _, h, c, m => by
    rcases List.mem_cons.mp m with z | z
    · subst z; exact h.1
    · exact Cd.oks_mem h.2 c z
theorem Cd.oks_of : ∀ {cs : List Cd}, (∀ c ∈ cs, c.ok) → Cd.oks cs
  | [], _ => trivial
  | c :: r, h => ⟨h c (List.mem_cons_self ..), Cd.oks_of fun x m => h x (List.mem_cons_of_mem _ m)⟩
mutual
/-- how many rests and selves -/
def Cd.lv : Cd → Nat
  | .rest _ _ _ => 1
  | .self _ _ => 1
  | .not c => c.lv
  | .grp _ cs => Cd.lvs cs
def Cd.lvs : List Cd → Nat
  | [] => 0
  | c :: r => c.lv + Cd.lvs r
end
theorem Cd.lvs_app : ∀ (cs ds : List Cd), Cd.lvs (cs ++ ds) = Cd.lvs cs + Cd.lvs ds
  | [], ds => by simp [Cd.lvs]
  | c :: r, ds => by
    rw [List.cons_append, Cd.lvs, Cd.lvs, Cd.lvs_app r ds]; omega
mutual
/-- the numbers at which selves begin, or that come behind their ends -/
def Cd.edg : Cd → List Int
  | .rest _ _ _ => []
  | .self a b => a :: (match b with | none => [] | some b => [b + 1])
  | .not c => c.edg
  | .grp _ cs => Cd.edgs cs
def Cd.edgs : List Cd → List Int
  | [] => []
  | c :: r => c.edg ++ Cd.edgs r
end
mutual
theorem Cd.edg_len : ∀ c : Cd, c.edg.length ≤ 2 * c.lv
  | .rest _ _ _ => by simp [Cd.edg]
  | .self a b => by cases b <;> simp [Cd.edg, Cd.lv]
  | .not c => by rw [Cd.edg, Cd.lv]; exact Cd.edg_len c
  | .grp _ cs => by rw [Cd.edg, Cd.lv]; exact Cd.edgs_len cs
theorem Cd.edgs_len : ∀ cs : List Cd, (Cd.edgs cs).length ≤ 2 * Cd.lvs cs
  | [] => by simp [Cd.edgs]
  | c :: r => by
    rw [Cd.edgs, Cd.lvs, List.length_append]
    have := Cd.edg_len c; have := Cd.edgs_len r; omega
end
theorem deq_opt (b : Option Int) : deq (optD b) (optD b) = true := by cases b <;> simp [optD]
mutual
theorem Cd.deq_self : ∀ c : Cd, deq c.d c.d = true
  | .rest _ _ _ => by simp [Cd.d, deq_tup]
  | .self a b => by simp [Cd.d, deq_tup, deq_opt]
  | .not c => by simp [Cd.d, deq_tup, Cd.deq_self c]
  | .grp t cs => by simp [Cd.d, deq_tup, deq_lst, Cd.deqs_self cs]
theorem Cd.deqs_self : ∀ cs : List Cd, deqs (Cd.ds cs) (Cd.ds cs) = true
  | [] => by simp [Cd.ds]
  | c :: r => by simp [Cd.ds, Cd.deq_self c, Cd.deqs_self r]
end
theorem optD_pure (b : Option Int) : pureD (optD b) = true ∧ depD (optD b) = 0 := by cases b <;> simp [optD, pureD, depD]
mutual
theorem Cd.pure : ∀ c : Cd, pureD c.d = true ∧ depD c.d ≤ 2 * c.dep + 2
  | .rest _ _ _ => by simp [Cd.d, pureD, pureDs, depD, depDs]
  | .self a b => by
    obtain ⟨h1, h2⟩ := optD_pure b
    simp [Cd.d, pureD, pureDs, depD, depDs, h1, h2]
  | .not c => by
    obtain ⟨h1, h2⟩ := Cd.pure c
    simp [Cd.d, pureD, pureDs, depD, depDs, h1, Cd.dep]
    omega
  | .grp t cs => by
    obtain ⟨h1, h2⟩ := Cd.pures cs
    simp [Cd.d, pureD, pureDs, depD, depDs, h1, Cd.dep]
    omega
theorem Cd.pures : ∀ cs : List Cd, pureDs (Cd.ds cs) = true ∧ depDs (Cd.ds cs) ≤ 2 * Cd.deps cs + 2
  | [] => by simp [Cd.ds, pureDs, depDs]
  | c :: r => by
    obtain ⟨h1, h2⟩ := Cd.pure c
    obtain ⟨h3, h4⟩ := Cd.pures r
    simp [Cd.ds, pureDs, depDs, h1, h3, Cd.deps]
    omega
end
theorem Cd.eqOk (c : Cd) (h : c.dep ≤ 25) : eqOk c.d = true := by
  obtain ⟨h1, h2⟩ := Cd.pure c
  unfold DL.eqOk
  rw [h1, decide_eq_true (by omega)]; rfl
end M

namespace M
open PySem PySem.Spec PyProof.Rows L2 DL
def topS (i : Nat) : Stmt := PySem.Challenge.pw_saywell_k21_a_condition_holds.main.body.getD i (.Pass ⟨0, 0, 0, 0⟩)
abbrev s_GroupOf___init__ : Stmt := inClass (topS 6) 0
theorem sc_GroupOf___init__ : FnScope ["self", "inner"] ["self", "inner"] (defScope s_GroupOf___init__) := ⟨rfl, rfl, rfl, by decide +kernel, rfl, by decide +kernel, by decide +kernel⟩
abbrev s_NotOf___init__ : Stmt := inClass (topS 5) 0
theorem sc_NotOf___init__ : FnScope ["self", "against"] ["self", "against"] (defScope s_NotOf___init__) := ⟨rfl, rfl, rfl, by decide +kernel, rfl, by decide +kernel, by decide +kernel⟩
abbrev s_RestOf___init__ : Stmt := inClass (topS 3) 0
theorem sc_RestOf___init__ : FnScope ["self", "by", "low", "high"] ["self", "by", "low", "high"] (defScope s_RestOf___init__) := ⟨rfl, rfl, rfl, by decide +kernel, rfl, by decide +kernel, by decide +kernel⟩
abbrev s_SelfOf___init__ : Stmt := inClass (topS 4) 0
theorem sc_SelfOf___init__ : FnScope ["self", "low", "high"] ["self", "low", "high"] (defScope s_SelfOf___init__) := ⟨rfl, rfl, rfl, by decide +kernel, rfl, by decide +kernel, by decide +kernel⟩
abbrev s__law_cell_at : Stmt := topS 11
abbrev N__law_cell_at : List Str := ["_law_script", "_law_k"]
theorem sc__law_cell_at : FnScope N__law_cell_at ["_law_script", "_law_k"] (defScope s__law_cell_at) := ⟨rfl, rfl, rfl, by decide +kernel, rfl, by decide +kernel, by decide +kernel⟩
noncomputable def b__law_cell_at : EvS :=
   sSeq (sI (tV (o2E dLt (oV (vE 1)) (oV (oAE dLen (aC (oV (vE 0)) (aN)))))) (sR (o2E dIx (oV (vE 0)) (oV (vE 1)))) (sNil))
   (sR (kE (.int 0)))
noncomputable def c__law_cell_at : CallT := runB 2 b__law_cell_at
abbrev s__law_group : Stmt := topS 13
abbrev N__law_group : List Str := ["_law_stack", "_law_how", "_law_many", "_law_last", "_law_deep", "_law_one"]
theorem sc__law_group : FnScope N__law_group ["_law_stack", "_law_how", "_law_many"] (defScope s__law_group) := ⟨rfl, rfl, rfl, by decide +kernel, rfl, by decide +kernel, by decide +kernel⟩
noncomputable def E__law_group_1 : Ev D :=
   vE 4
noncomputable def E__law_group_2 : Ev D :=
   vE 5
noncomputable def b__law_group : EvS :=
   sSeq (sV 3 (slE dSl (oS 0) (sS (o2E dSub (oV (oAE dLen (aC (oS 0) (aN)))) (oV (vE 2)))) (sN)))
   (sSeq (sV 4 (oKE dMaxD (aC (oV (fE (lcF (iE (vE 3)) (gT 2 (gC (gV 5) (gC (gV 4) (gN)))) [5, 4] (tY) (E__law_group_1)))) (aN)) (kE (.int 0))))
   (sSeq (sI (tV (o2E dGt (oV (vE 4)) (oV (kE (.int 13))))) (sRO (oZ 0)) (sNil))
   (sRO (o2F dAddF (oV (slE dSl (oS 0) (sN) (sS (o2E dSub (oV (oAE dLen (aC (oS 0) (aN)))) (oV (vE 2)))))) (oV (fE (lF (aC (oV (pE (aC (oV (pE (aC (oV (vE 1)) (aC (oV (fE (lcF (iE (vE 3)) (gT 2 (gC (gV 5) (gC (gV 4) (gN)))) [5, 4] (tY) (E__law_group_2)))) (aN))))) (aC (oV (o2E dAdd (oV (vE 4)) (oV (kE (.int 1))))) (aN))))) (aN)))))))))
noncomputable def c__law_group : CallO := runBO 6 b__law_group
abbrev s__law_atom : Stmt := topS 12
abbrev N__law_atom : List Str := ["_law_cell", "_law_left", "_law_m", "_law_low"]
theorem sc__law_atom : FnScope N__law_atom ["_law_cell"] (defScope s__law_atom) := ⟨rfl, rfl, rfl, by decide +kernel, rfl, by decide +kernel, by decide +kernel⟩
noncomputable def b__law_atom : EvS :=
   sSeq (sV 1 (o2E dFdiv (oV (vE 0)) (oV (kE (.int 34)))))
   (sSeq (sI (tV (o2E dEq (oV (o2E dMod (oV (vE 0)) (oV (kE (.int 2))))) (oV (kE (.int 0))))) (sSeq (sV 2 (o2E dIx (oV (fE (lF (aC (oV (kE (.int 2))) (aC (oV (kE (.int 3))) (aC (oV (kE (.int 4))) (aC (oV (kE (.int 5))) (aC (oV (kE (.int 6))) (aC (oV (kE (.int 10))) (aC (oV (kE (.int 12))) (aC (oV (kE (.int 15))) (aC (oV (kE (.int 20))) (aC (oV (kE (.int 25))) (aC (oV (kE (.int 30))) (aC (oV (kE (.int 50))) (aC (oV (kE (.int 60))) (aC (oV (kE (.int 75))) (aC (oV (kE (.int 100))) (aC (oV (kE (.int 150))) (aC (oV (kE (.int 300))) (aN))))))))))))))))))))) (oV (o2E dMod (oV (o2E dFdiv (oV (vE 0)) (oV (kE (.int 2))))) (oV (kE (.int 17)))))))
   (sSeq (sV 3 (o2E dMod (oV (vE 1)) (oV (vE 2))))
   (sR (pE (aC (oV (kE (.str [114, 101, 115, 116]))) (aC (oV (vE 2)) (aC (oV (vE 3)) (aC (oV (o2E dAdd (oV (vE 3)) (oV (o2E dMod (oV (o2E dFdiv (oV (vE 1)) (oV (vE 2)))) (oV (o2E dSub (oV (vE 2)) (oV (vE 3)))))))) (aN))))))))) (sNil))
   (sSeq (sI (tV (o2E dEq (oV (o2E dMod (oV (o2E dFdiv (oV (vE 0)) (oV (kE (.int 2))))) (oV (kE (.int 4))))) (oV (kE (.int 0))))) (sR (pE (aC (oV (kE (.str [115, 101, 108, 102]))) (aC (oV (o2E dMod (oV (vE 1)) (oV (kE (.int 700))))) (aC (oV (kE .non)) (aN)))))) (sNil))
   (sSeq (sI (tV (o2E dEq (oV (o2E dMod (oV (o2E dFdiv (oV (vE 0)) (oV (kE (.int 2))))) (oV (kE (.int 4))))) (oV (kE (.int 1))))) (sSeq (sV 3 (o2E dMod (oV (vE 1)) (oV (o2E dPow (oV (kE (.int 10))) (oV (kE (.int 58)))))))
   (sR (pE (aC (oV (kE (.str [115, 101, 108, 102]))) (aC (oV (vE 3)) (aC (oV (o2E dAdd (oV (vE 3)) (oV (o2E dMod (oV (o2E dFdiv (oV (vE 1)) (oV (o2E dPow (oV (kE (.int 10))) (oV (kE (.int 58))))))) (oV (o2E dPow (oV (kE (.int 10))) (oV (kE (.int 58))))))))) (aN))))))) (sNil))
   (sSeq (sI (tV (o2E dEq (oV (o2E dMod (oV (o2E dFdiv (oV (vE 0)) (oV (kE (.int 2))))) (oV (kE (.int 4))))) (oV (kE (.int 2))))) (sR (pE (aC (oV (kE (.str [115, 101, 108, 102]))) (aC (oV (o2E dMod (oV (vE 1)) (oV (o2E dPow (oV (kE (.int 10))) (oV (kE (.int 59))))))) (aC (oV (kE .non)) (aN)))))) (sNil))
   (sR (pE (aC (oV (kE (.str [115, 101, 108, 102]))) (aC (oV (o2E dMod (oV (vE 1)) (oV (kE (.int 700))))) (aC (oV (o2E dAdd (oV (o2E dMod (oV (vE 1)) (oV (kE (.int 700))))) (oV (o2E dMod (oV (o2E dFdiv (oV (vE 1)) (oV (kE (.int 700))))) (oV (kE (.int 700))))))) (aN))))))))))
noncomputable def c__law_atom : CallT := runB 4 b__law_atom
abbrev s__law_condition : Stmt := topS 14
abbrev N__law_condition : List Str := ["_law_cells", "_law_word", "_law_stack", "_law_cell", "_law_way", "_law_one", "_law_deep"]
theorem sc__law_condition : FnScope N__law_condition ["_law_cells", "_law_word"] (defScope s__law_condition) := ⟨rfl, rfl, rfl, by decide +kernel, rfl, by decide +kernel, by decide +kernel⟩
noncomputable def L__law_condition_1 : EvS :=
   sSeq (sV 4 (o2E dMod (oV (vE 3)) (oV (kE (.int 8)))))
   (sI (tA (tV (o2E dEq (oV (vE 4)) (oV (kE (.int 4))))) (tA (tV (o2E dNe (oS 2) (oV (fE (lF (aN)))))) (tV (o2E dLt (oV (o2E dIx (oV (o2E dIx (oS 2) (oV (o1E dNeg (oV (kE (.int 1))))))) (oV (kE (.int 1))))) (oV (kE (.int 14))))))) (sSet 2 (pE (aC (oV (pE (aC (oV (kE (.str [110, 111, 116]))) (aC (oV (o2E dIx (oV (o2E dIx (oS 2) (oV (o1E dNeg (oV (kE (.int 1))))))) (oV (kE (.int 0))))) (aN))))) (aC (oV (o2E dAdd (oV (o2E dIx (oV (o2E dIx (oS 2) (oV (o1E dNeg (oV (kE (.int 1))))))) (oV (kE (.int 1))))) (oV (kE (.int 1))))) (aN)))) (o1E dNeg (oV (kE (.int 1))))) (sI (tO (tV (o2E dEq (oV (vE 4)) (oV (kE (.int 5))))) (tV (o2E dEq (oV (vE 4)) (oV (kE (.int 6)))))) (sO 2 (coF c__law_group 2 (aC (oV (o2E dIx (oV (fE (lF (aC (oV (kE (.str [97, 110, 100]))) (aC (oV (kE (.str [111, 114]))) (aN)))))) (oV (o2E dSub (oV (vE 4)) (oV (kE (.int 5))))))) (aC (oV (oAE dMin (aC (oV (o2E dMod (oV (o2E dFdiv (oV (vE 3)) (oV (kE (.int 8))))) (oV (kE (.int 5))))) (aC (oV (oAE dLen (aC (oS 2) (aN)))) (aN))))) (aN))))) (sAp 2 (oV (pE (aC (oV (cE c__law_atom (aC (oV (o2E dFdiv (oV (vE 3)) (oV (kE (.int 8))))) (aN)))) (aC (oV (kE (.int 1))) (aN))))))))
noncomputable def E__law_condition_1 : Ev D :=
   vE 5
noncomputable def b__law_condition : EvS :=
   sSeq (sO 2 (lF (aN)))
   (sSeq (sF (iE (vE 0)) (gV 3) (L__law_condition_1))
   (sR (pE (aC (oV (vE 1)) (aC (oV (fE (lcF (iE (zE 2)) (gT 2 (gC (gV 5) (gC (gV 6) (gN)))) [5, 6] (tY) (E__law_condition_1)))) (aN))))))
noncomputable def c__law_condition : CallT := runB 7 b__law_condition
abbrev s__law_edges : Stmt := topS 16
abbrev N__law_edges : List Str := ["_law_condition_here", "_law_high", "_law_found", "_law_one"]
theorem sc__law_edges : FnScope N__law_edges ["_law_condition_here"] (defScope s__law_edges) := ⟨rfl, rfl, rfl, by decide +kernel, rfl, by decide +kernel, by decide +kernel⟩
noncomputable def E__law_edges_1 (rec : CallT) : Ev D :=
   o2E dAdd (oV (vE 1)) (oV (kE (.int 1)))
noncomputable def T__law_edges_1 (rec : CallT) : Ev Bool :=
   tV (o2E dIsNot (oV (vE 1)) (oV (kE .non)))
noncomputable def L__law_edges_1 (rec : CallT) : EvS :=
   sV 2 (o2E dAdd (oV (vE 2)) (oV (cE rec (aC (oV (vE 3)) (aN)))))
noncomputable def b__law_edges (rec : CallT) : EvS :=
   sSeq (sI (tV (o2E dEq (oV (o2E dIx (oV (vE 0)) (oV (kE (.int 0))))) (oV (kE (.str [114, 101, 115, 116]))))) (sR (fE (lF (aN)))) (sNil))
   (sSeq (sI (tV (o2E dEq (oV (o2E dIx (oV (vE 0)) (oV (kE (.int 0))))) (oV (kE (.str [115, 101, 108, 102]))))) (sR (o2E dAdd (oV (fE (lF (aC (oV (o2E dIx (oV (vE 0)) (oV (kE (.int 1))))) (aN))))) (oV (fE (lcF (iE (slE dSl (oV (vE 0)) (sS (kE (.int 2))) (sN))) (gV 1) [1] (T__law_edges_1 rec) (E__law_edges_1 rec)))))) (sNil))
   (sSeq (sI (tV (o2E dEq (oV (o2E dIx (oV (vE 0)) (oV (kE (.int 0))))) (oV (kE (.str [110, 111, 116]))))) (sR (cE rec (aC (oV (o2E dIx (oV (vE 0)) (oV (kE (.int 1))))) (aN)))) (sNil))
   (sSeq (sV 2 (fE (lF (aN))))
   (sSeq (sF (iE (o2E dIx (oV (vE 0)) (oV (kE (.int 1))))) (gV 3) (L__law_edges_1 rec))
   (sR (vE 2))))))
noncomputable def c__law_edges : Nat → CallT
  | 0 => cStuck
  | k + 1 => runB 4 (b__law_edges (c__law_edges k))
abbrev s__law_near : Stmt := topS 17
abbrev N__law_near : List Str := ["_law_edges_here", "_law_cell", "_law_left", "_law_edge"]
theorem sc__law_near : FnScope N__law_near ["_law_edges_here", "_law_cell"] (defScope s__law_near) := ⟨rfl, rfl, rfl, by decide +kernel, rfl, by decide +kernel, by decide +kernel⟩
noncomputable def b__law_near : EvS :=
   sSeq (sV 2 (o2E dFdiv (oV (vE 1)) (oV (kE (.int 4)))))
   (sSeq (sI (tV (o2E dEq (oV (o2E dMod (oV (vE 1)) (oV (kE (.int 4))))) (oV (kE (.int 0))))) (sR (o2E dMod (oV (vE 2)) (oV (o2E dPow (oV (kE (.int 10))) (oV (kE (.int 60))))))) (sNil))
   (sSeq (sI (tV (o2E dEq (oV (o2E dMod (oV (vE 1)) (oV (kE (.int 4))))) (oV (kE (.int 1))))) (sR (o2E dMod (oV (vE 2)) (oV (kE (.int 2000))))) (sNil))
   (sSeq (sV 3 (o2E dIx (oV (o2E dAdd (oV (fE (lF (aC (oV (kE (.int 0))) (aN))))) (oV (vE 0)))) (oV (o2E dMod (oV (vE 2)) (oV (o2E dAdd (oV (oAE dLen (aC (oV (vE 0)) (aN)))) (oV (kE (.int 1)))))))))
   (sR (oAE dMax (aC (oV (kE (.int 0))) (aC (oV (o2E dSub (oV (o2E dAdd (oV (vE 3)) (oV (o2E dMod (oV (o2E dFdiv (oV (vE 2)) (oV (o2E dAdd (oV (oAE dLen (aC (oV (vE 0)) (aN)))) (oV (kE (.int 1))))))) (oV (kE (.int 607))))))) (oV (kE (.int 303))))) (aN))))))))
noncomputable def c__law_near : CallT := runB 4 b__law_near
abbrev s_made : Stmt := topS 8
abbrev N_made : List Str := ["condition", "how", "inner", "one"]
theorem sc_made : FnScope N_made ["condition"] (defScope s_made) := ⟨rfl, rfl, rfl, by decide +kernel, rfl, by decide +kernel, by decide +kernel⟩
noncomputable def E_made_1 (rec : CallT) : Ev D :=
   cE rec (aC (oV (vE 3)) (aN))
noncomputable def b_made (rec : CallT) : EvS :=
   sSeq (sV 1 (o2E dIx (oV (vE 0)) (oV (kE (.int 0)))))
   (sSeq (sI (tV (o2E dEq (oV (vE 1)) (oV (kE (.str [114, 101, 115, 116]))))) (sR (newE 90595682176870 [25209, 7106423, 1751738216] (aC (oV (o2E dIx (oV (vE 0)) (oV (kE (.int 1))))) (aC (oV (o2E dIx (oV (vE 0)) (oV (kE (.int 2))))) (aC (oV (o2E dIx (oV (vE 0)) (oV (kE (.int 3))))) (aN)))))) (sNil))
   (sSeq (sI (tV (o2E dEq (oV (vE 1)) (oV (kE (.str [115, 101, 108, 102]))))) (sR (newE 91695075446630 [7106423, 1751738216] (aC (oV (o2E dIx (oV (vE 0)) (oV (kE (.int 1))))) (aC (oV (o2E dIx (oV (vE 0)) (oV (kE (.int 2))))) (aN))))) (sNil))
   (sSeq (sI (tV (o2E dEq (oV (vE 1)) (oV (kE (.str [110, 111, 116]))))) (sR (newE 336877342566 [27416740819268468] (aC (oV (cE rec (aC (oV (o2E dIx (oV (vE 0)) (oV (kE (.int 1))))) (aN)))) (aN)))) (sNil))
   (sSeq (sV 2 (fE (lcF (iE (o2E dIx (oV (vE 0)) (oV (kE (.int 1))))) (gV 3) [3] (tY) (E_made_1 rec))))
   (sSeq (sI (tV (o2E dEq (oV (vE 1)) (oV (kE (.str [97, 110, 100]))))) (sR (newE 280991911782 [452824294770] (aC (oV (vE 2)) (aN)))) (sNil))
   (sR (newE 20110546383687526 [452824294770] (aC (oV (vE 2)) (aN)))))))))
noncomputable def c_made : Nat → CallT
  | 0 => cStuck
  | k + 1 => runB 4 (b_made (c_made k))
abbrev s_Condition_holds : Stmt := inClass (topS 2) 0
abbrev N_Condition_holds : List Str := ["self", "n"]
theorem sc_Condition_holds : FnScope N_Condition_holds ["self", "n"] (defScope s_Condition_holds) := ⟨rfl, rfl, rfl, by decide +kernel, rfl, by decide +kernel, by decide +kernel⟩
noncomputable def b_Condition_holds : EvS :=
   sR (kE (.bl false))
abbrev s_RestOf_holds : Stmt := inClass (topS 3) 1
abbrev N_RestOf_holds : List Str := ["self", "n"]
theorem sc_RestOf_holds : FnScope N_RestOf_holds ["self", "n"] (defScope s_RestOf_holds) := ⟨rfl, rfl, rfl, by decide +kernel, rfl, by decide +kernel, by decide +kernel⟩
noncomputable def b_RestOf_holds : EvS :=
   sR (o3E dLe dLe (oV (o1E (dFld [90595682176870, 91695075446630] 7106423) (oV (vE 0)))) (oV (o2E dMod (oV (vE 1)) (oV (o1E (dFld [90595682176870] 25209) (oV (vE 0)))))) (oV (o1E (dFld [90595682176870, 91695075446630] 1751738216) (oV (vE 0)))))
abbrev s_SelfOf_holds : Stmt := inClass (topS 4) 1
abbrev N_SelfOf_holds : List Str := ["self", "n"]
theorem sc_SelfOf_holds : FnScope N_SelfOf_holds ["self", "n"] (defScope s_SelfOf_holds) := ⟨rfl, rfl, rfl, by decide +kernel, rfl, by decide +kernel, by decide +kernel⟩
noncomputable def b_SelfOf_holds : EvS :=
   sR (eA (o2E dLe (oV (o1E (dFld [90595682176870, 91695075446630] 7106423) (oV (vE 0)))) (oV (vE 1))) (eO (o2E dIs (oV (o1E (dFld [90595682176870, 91695075446630] 1751738216) (oV (vE 0)))) (oV (kE .non))) (o2E dLe (oV (vE 1)) (oV (o1E (dFld [90595682176870, 91695075446630] 1751738216) (oV (vE 0)))))))
abbrev s_NotOf_holds : Stmt := inClass (topS 5) 1
abbrev N_NotOf_holds : List Str := ["self", "n"]
theorem sc_NotOf_holds : FnScope N_NotOf_holds ["self", "n"] (defScope s_NotOf_holds) := ⟨rfl, rfl, rfl, by decide +kernel, rfl, by decide +kernel, by decide +kernel⟩
noncomputable def b_NotOf_holds (rec : Nat → CallT) : EvS :=
   sR (eN (mcE [1243961318528275541870, 90595682176870, 91695075446630, 336877342566, 20110546383687526, 280991911782] 448545973363 rec (o1E (dFld [336877342566] 27416740819268468) (oV (vE 0))) (aC (oV (vE 1)) (aN))))
abbrev s_GroupOf_holds : Stmt := inClass (topS 6) 1
abbrev N_GroupOf_holds : List Str := ["self", "n", "one"]
theorem sc_GroupOf_holds : FnScope N_GroupOf_holds ["self", "n"] (defScope s_GroupOf_holds) := ⟨rfl, rfl, rfl, by decide +kernel, rfl, by decide +kernel, by decide +kernel⟩
noncomputable def E_GroupOf_holds_1 (rec : Nat → CallT) : Ev D :=
   mcE [1243961318528275541870, 90595682176870, 91695075446630, 336877342566, 20110546383687526, 280991911782] 448545973363 rec (vE 2) (aC (oV (vE 1)) (aN))
noncomputable def b_GroupOf_holds (rec : Nat → CallT) : EvS :=
   sR (oAE dAny (aC (oV (fE (lcF (iE (o1E (dFld [20110546383687526, 280991911782] 452824294770) (oV (vE 0)))) (gV 2) [2] (tY) (E_GroupOf_holds_1 rec)))) (aN)))
abbrev s_AllOf_holds : Stmt := inClass (topS 7) 0
abbrev N_AllOf_holds : List Str := ["self", "n", "one"]
theorem sc_AllOf_holds : FnScope N_AllOf_holds ["self", "n"] (defScope s_AllOf_holds) := ⟨rfl, rfl, rfl, by decide +kernel, rfl, by decide +kernel, by decide +kernel⟩
noncomputable def E_AllOf_holds_1 (rec : Nat → CallT) : Ev D :=
   mcE [1243961318528275541870, 90595682176870, 91695075446630, 336877342566, 20110546383687526, 280991911782] 448545973363 rec (vE 2) (aC (oV (vE 1)) (aN))
noncomputable def b_AllOf_holds (rec : Nat → CallT) : EvS :=
   sR (oAE dAll (aC (oV (fE (lcF (iE (o1E (dFld [20110546383687526, 280991911782] 452824294770) (oV (vE 0)))) (gV 2) [2] (tY) (E_AllOf_holds_1 rec)))) (aN)))
noncomputable def t_holds : Nat → Nat → CallT
  | 0 => fun _ => cStuck
  | k + 1 => fun c => if c = 1243961318528275541870 then runB 2 (b_Condition_holds) else if c = 90595682176870 then runB 2 (b_RestOf_holds) else if c = 91695075446630 then runB 2 (b_SelfOf_holds) else if c = 336877342566 then runB 2 (b_NotOf_holds (t_holds k)) else if c = 20110546383687526 then runB 3 (b_GroupOf_holds (t_holds k)) else if c = 280991911782 then runB 3 (b_AllOf_holds (t_holds k)) else cStuck
theorem t_holds_Condition (k : Nat) : t_holds (k + 1) 1243961318528275541870 = runB 2 (b_Condition_holds) := by simp [t_holds]
theorem t_holds_RestOf (k : Nat) : t_holds (k + 1) 90595682176870 = runB 2 (b_RestOf_holds) := by simp [t_holds]
theorem t_holds_SelfOf (k : Nat) : t_holds (k + 1) 91695075446630 = runB 2 (b_SelfOf_holds) := by simp [t_holds]
theorem t_holds_NotOf (k : Nat) : t_holds (k + 1) 336877342566 = runB 2 (b_NotOf_holds (t_holds k)) := by simp [t_holds]
theorem t_holds_GroupOf (k : Nat) : t_holds (k + 1) 20110546383687526 = runB 3 (b_GroupOf_holds (t_holds k)) := by simp [t_holds]
theorem t_holds_AllOf (k : Nat) : t_holds (k + 1) 280991911782 = runB 3 (b_AllOf_holds (t_holds k)) := by simp [t_holds]
abbrev s_holds : Stmt := topS 9
abbrev N_holds : List Str := ["condition", "n"]
theorem sc_holds : FnScope N_holds ["condition", "n"] (defScope s_holds) := ⟨rfl, rfl, rfl, by decide +kernel, rfl, by decide +kernel, by decide +kernel⟩
noncomputable def b_holds : EvS :=
   sR (mcE [1243961318528275541870, 90595682176870, 91695075446630, 336877342566, 20110546383687526, 280991911782] 448545973363 (t_holds 20) (cE (c_made 20) (aC (oV (vE 0)) (aN))) (aC (oV (vE 1)) (aN)))
noncomputable def c_holds : CallT := runB 2 b_holds
abbrev s__law_holds : Stmt := topS 15
abbrev N__law_holds : List Str := ["_law_condition_here", "_law_n", "_law_how", "_law_due", "_law_one"]
theorem sc__law_holds : FnScope N__law_holds ["_law_condition_here", "_law_n"] (defScope s__law_holds) := ⟨rfl, rfl, rfl, by decide +kernel, rfl, by decide +kernel, by decide +kernel⟩
noncomputable def L__law_holds_1 (rec : CallT) : EvS :=
   sI (tV (o2E dEq (oV (cE rec (aC (oV (vE 4)) (aC (oV (vE 1)) (aN))))) (oV (vE 3)))) (sR (vE 3)) (sNil)
noncomputable def b__law_holds (rec : CallT) : EvS :=
   sSeq (sV 2 (o2E dIx (oV (vE 0)) (oV (kE (.int 0)))))
   (sSeq (sI (tV (o2E dEq (oV (vE 2)) (oV (kE (.str [114, 101, 115, 116]))))) (sR (eA (o2E dLe (oV (o2E dIx (oV (vE 0)) (oV (kE (.int 2))))) (oV (o2E dMod (oV (vE 1)) (oV (o2E dIx (oV (vE 0)) (oV (kE (.int 1)))))))) (o2E dLe (oV (o2E dMod (oV (vE 1)) (oV (o2E dIx (oV (vE 0)) (oV (kE (.int 1))))))) (oV (o2E dIx (oV (vE 0)) (oV (kE (.int 3)))))))) (sNil))
   (sSeq (sI (tV (o2E dEq (oV (vE 2)) (oV (kE (.str [115, 101, 108, 102]))))) (sR (eA (o2E dLe (oV (o2E dIx (oV (vE 0)) (oV (kE (.int 1))))) (oV (vE 1))) (eO (o2E dIs (oV (o2E dIx (oV (vE 0)) (oV (kE (.int 2))))) (oV (kE .non))) (o2E dLe (oV (vE 1)) (oV (o2E dIx (oV (vE 0)) (oV (kE (.int 2))))))))) (sNil))
   (sSeq (sI (tV (o2E dEq (oV (vE 2)) (oV (kE (.str [110, 111, 116]))))) (sR (eN (cE rec (aC (oV (o2E dIx (oV (vE 0)) (oV (kE (.int 1))))) (aC (oV (vE 1)) (aN)))))) (sNil))
   (sSeq (sV 3 (o2E dEq (oV (vE 2)) (oV (kE (.str [111, 114])))))
   (sSeq (sF (iE (o2E dIx (oV (vE 0)) (oV (kE (.int 1))))) (gV 4) (L__law_holds_1 rec))
   (sR (eN (vE 3))))))))
noncomputable def c__law_holds : Nat → CallT
  | 0 => cStuck
  | k + 1 => runB 5 (b__law_holds (c__law_holds k))
abbrev s_law : Stmt := topS 18
abbrev N_law : List Str := ["_law_script", "_law_word", "_law_condition_here", "_law_kept", "_law_edges_here", "_law_numbers", "_law_first", "_law_edge", "_law_n", "_law_found"]
theorem sc_law : FnScope N_law ["_law_script"] (defScope s_law) := ⟨rfl, rfl, rfl, by decide +kernel, rfl, by decide +kernel, by decide +kernel⟩
noncomputable def L_law_1 : EvS :=
   sV 5 (o2E dAdd (oV (vE 5)) (oV (fE (lF (aC (oV (vE 7)) (aC (oV (oAE dMax (aC (oV (kE (.int 0))) (aC (oV (o2E dSub (oV (vE 7)) (oV (kE (.int 1))))) (aN))))) (aC (oV (o2E dAdd (oV (vE 7)) (oV (kE (.int 300))))) (aN))))))))
noncomputable def L_law_2 : EvS :=
   sSeq (sV 9 (cE c_holds (aC (oV (vE 2)) (aC (oV (vE 8)) (aN)))))
   (sI (tO (tN (tT (oV (oAE dIsI (aC (oV (vE 9)) (aC (oV (kE (.ty "bool"))) (aN))))))) (tV (o2E dNe (oV (vE 9)) (oV (cE (c__law_holds 20) (aC (oV (vE 3)) (aC (oV (vE 8)) (aN)))))))) (sR (kE (.bl false))) (sNil))
noncomputable def b_law : EvS :=
   sSeq (sV 1 (o2E dIx (oV (fE (lF (aC (oV (kE (.str [97, 110, 100]))) (aC (oV (kE (.str [111, 114]))) (aN)))))) (oV (o2E dMod (oV (cE c__law_cell_at (aC (oV (vE 0)) (aC (oV (kE (.int 0))) (aN))))) (oV (kE (.int 2)))))))
   (sSeq (sV 2 (cE c__law_condition (aC (oV (slE dSl (oV (vE 0)) (sS (kE (.int 3))) (sS (kE (.int 43))))) (aC (oV (vE 1)) (aN)))))
   (sSeq (sV 3 (cE c__law_condition (aC (oV (slE dSl (oV (vE 0)) (sS (kE (.int 3))) (sS (kE (.int 43))))) (aC (oV (vE 1)) (aN)))))
   (sSeq (sV 4 (cE (c__law_edges 20) (aC (oV (vE 3)) (aN))))
   (sSeq (sV 5 (fE (lF (aC (oV (cE c__law_near (aC (oV (vE 4)) (aC (oV (cE c__law_cell_at (aC (oV (vE 0)) (aC (oV (kE (.int 1))) (aN))))) (aN))))) (aC (oV (cE c__law_near (aC (oV (vE 4)) (aC (oV (cE c__law_cell_at (aC (oV (vE 0)) (aC (oV (kE (.int 2))) (aN))))) (aN))))) (aN))))))
   (sSeq (sV 6 (o2E dMod (oV (o2E dFdiv (oV (cE c__law_cell_at (aC (oV (vE 0)) (aC (oV (kE (.int 0))) (aN))))) (oV (kE (.int 2))))) (oV (o2E dAdd (oV (oAE dLen (aC (oV (vE 4)) (aN)))) (oV (kE (.int 1)))))))
   (sSeq (sF (iE (slE dSl (oV (o2E dAdd (oV (slE dSl (oV (vE 4)) (sS (vE 6)) (sN))) (oV (slE dSl (oV (vE 4)) (sN) (sS (vE 6)))))) (sN) (sS (kE (.int 8))))) (gV 7) (L_law_1))
   (sSeq (sF (iE (vE 5)) (gV 8) (L_law_2))
   (sR (o2E dEq (oV (vE 2)) (oV (vE 3)))))))))))
noncomputable def c_law : CallT := runB 10 b_law
section
variable {P : Program} {w : World} {K : PySem.W.Frag} {mg : Str → Option Value} {base : Heap}
theorem oki_GroupOf {C f : Addr} {fd : FuncData} (F : Fun K "__init__" "GroupOf.__init__" s_GroupOf___init__ f fd) (cl : Cls K C) (n_inner : NoAttr K C "inner") : FnOk P w K mg base (L2.CX P w) 1 f fd ["self", "inner"] (spInit C [452824294770]) :=
  init_ok (N := ["self", "inner"]) (fs := ["inner"]) F sc_GroupOf___init__ (by decide +kernel) rfl cl (by intro f hf; simp only [List.mem_cons, List.not_mem_nil, or_false] at hf; rcases hf with hf <;> subst hf <;> assumption) (by decide +kernel) (by decide) rfl fun cdv A outer s H E => (pss_cons (ps_fld (pv 0) (pv 1) rfl) pss_nil)
theorem oki_NotOf {C f : Addr} {fd : FuncData} (F : Fun K "__init__" "NotOf.__init__" s_NotOf___init__ f fd) (cl : Cls K C) (n_against : NoAttr K C "against") : FnOk P w K mg base (L2.CX P w) 1 f fd ["self", "against"] (spInit C [27416740819268468]) :=
  init_ok (N := ["self", "against"]) (fs := ["against"]) F sc_NotOf___init__ (by decide +kernel) rfl cl (by intro f hf; simp only [List.mem_cons, List.not_mem_nil, or_false] at hf; rcases hf with hf <;> subst hf <;> assumption) (by decide +kernel) (by decide) rfl fun cdv A outer s H E => (pss_cons (ps_fld (pv 0) (pv 1) rfl) pss_nil)
theorem oki_RestOf {C f : Addr} {fd : FuncData} (F : Fun K "__init__" "RestOf.__init__" s_RestOf___init__ f fd) (cl : Cls K C) (n_by : NoAttr K C "by") (n_low : NoAttr K C "low") (n_high : NoAttr K C "high") : FnOk P w K mg base (L2.CX P w) 1 f fd ["self", "by", "low", "high"] (spInit C [25209, 7106423, 1751738216]) :=
  init_ok (N := ["self", "by", "low", "high"]) (fs := ["by", "low", "high"]) F sc_RestOf___init__ (by decide +kernel) rfl cl (by intro f hf; simp only [List.mem_cons, List.not_mem_nil, or_false] at hf; rcases hf with hf | hf | hf <;> subst hf <;> assumption) (by decide +kernel) (by decide) rfl fun cdv A outer s H E => (pss_cons (ps_fld (pv 0) (pv 1) rfl) (pss_cons (ps_fld (pv 0) (pv 2) rfl) (pss_cons (ps_fld (pv 0) (pv 3) rfl) pss_nil)))
theorem oki_SelfOf {C f : Addr} {fd : FuncData} (F : Fun K "__init__" "SelfOf.__init__" s_SelfOf___init__ f fd) (cl : Cls K C) (n_low : NoAttr K C "low") (n_high : NoAttr K C "high") : FnOk P w K mg base (L2.CX P w) 1 f fd ["self", "low", "high"] (spInit C [7106423, 1751738216]) :=
  init_ok (N := ["self", "low", "high"]) (fs := ["low", "high"]) F sc_SelfOf___init__ (by decide +kernel) rfl cl (by intro f hf; simp only [List.mem_cons, List.not_mem_nil, or_false] at hf; rcases hf with hf | hf <;> subst hf <;> assumption) (by decide +kernel) (by decide) rfl fun cdv A outer s H E => (pss_cons (ps_fld (pv 0) (pv 1) rfl) (pss_cons (ps_fld (pv 0) (pv 2) rfl) pss_nil))
theorem ok__law_cell_at (hB : Bl mg) {f : Addr} {fd : FuncData} (F : Fun K "_law_cell_at" "_law_cell_at" s__law_cell_at f fd) (hm : mg "_law_cell_at" = some (.ref f)) : Def P w K mg base 2 "_law_cell_at" 2 c__law_cell_at :=
  def_ok (N := N__law_cell_at) (ps := ["_law_script", "_law_k"]) F sc__law_cell_at (F.binds (ps := ["_law_script", "_law_k"]) fun _ _ _ _ _ _ us hl => match us, hl with | [_, _], _ => rfl) hm fun cdv A outer s H E W hr tk pw => by
    have hu := hr.units
    have hu5 : (A.deeper (envOfC "_law_cell_at" (defScope s__law_cell_at) s.heap.objs.size f cdv)).units + 65 < cLine := by have := hr.un; omega
    exact (dss_c (ds_i (dt_cmp opR_lt op_dCmp (do_v (de_v (pv 1))) (do_v (de_cb call_len op_dLen hB.len (da_c (do_v (de_v (pv 0))) da_n))) (nomark _)) (dss_1 (ds_r (de_ix ix_seq op_dIx (do_v (de_v (pv 0))) (do_v (de_v (pv 1)))))) dss_n)
   (dss_1 (ds_r de_int)))
theorem ok__law_group (hB : Bl mg) {f : Addr} {fd : FuncData} (F : Fun K "_law_group" "_law_group" s__law_group f fd) (hm : mg "_law_group" = some (.ref f)) : DefO P w K mg base 2 "_law_group" 3 c__law_group :=
  defo_ok (N := N__law_group) (ps := ["_law_stack", "_law_how", "_law_many"]) F sc__law_group (F.binds (ps := ["_law_stack", "_law_how", "_law_many"]) fun _ _ _ _ _ _ us hl => match us, hl with | [_, _, _], _ => rfl) hm fun B cdv A outer s H E W hr tk pw => by
    have hu := hr.units
    have hu5 : (A.deeper (envOfC "_law_group" (defScope s__law_group) s.heap.objs.size f cdv)).units + 65 < cLine := by have := hr.un; omega
    exact (dss_c (ds_v (i := 3) sc__law_group.nd (de_sl sl_all op_dSl (do_s (pv 0)) (dp_s (de_bin op_sub op_dSub (do_v (de_cb call_len op_dLen hB.len (da_c (do_s (pv 0)) da_n))) (do_v (de_v (pv 2))))) dp_n))
   (dss_c (ds_v (i := 4) sc__law_group.nd (de_maxD hB.max (da_c (do_v (de_f (df_lc [("_law_one", 5), ("_law_deep", 4)] rfl sc__law_group.nd (blkOk_by (N := N__law_group) (sc := defScope s__law_group) (by decide +kernel)) (di_e (de_v (pv 3))) (tgB_t (tgsB_c (tgB_v (by decide)) (tgsB_c (tgB_v (by decide)) tgsB_n))) (fun _ _ _ _ _ => (pg_tup rfl (pgs_cons (pg_name (i := 5) sc__law_group.nd rfl (Or.inl rfl) (by first | exact .inl rfl | exact .inr rfl)) (pgs_cons (pg_name (i := 4) sc__law_group.nd rfl (Or.inl rfl) (by first | exact .inl rfl | exact .inr rfl)) pgs_nil)))) (fun _ _ _ _ _ _ => dts_n) (fun _ _ _ _ _ _ => (de_v (pv 4)))))) da_n) de_int))
   (dss_c (ds_i (dt_cmp opR_gt op_dCmp (do_v (de_v (pv 4))) (do_v de_int) (nomark _)) (dss_1 (ds_ro (df_z (pv 0)))) dss_n)
   (dss_1 (ds_ro (df_bin opR_add op_dAddF (do_v (de_sl sl_all op_dSl (do_s (pv 0)) dp_n (dp_s (de_bin op_sub op_dSub (do_v (de_cb call_len op_dLen hB.len (da_c (do_s (pv 0)) da_n))) (do_v (de_v (pv 2))))))) (do_v (de_f (df_l (da_c (do_v (de_p (da_c (do_v (de_p (da_c (do_v (de_v (pv 1))) (da_c (do_v (de_f (df_lc [("_law_one", 5), ("_law_deep", 4)] rfl sc__law_group.nd (blkOk_by (N := N__law_group) (sc := defScope s__law_group) (by decide +kernel)) (di_e (de_v (pv 3))) (tgB_t (tgsB_c (tgB_v (by decide)) (tgsB_c (tgB_v (by decide)) tgsB_n))) (fun _ _ _ _ _ => (pg_tup rfl (pgs_cons (pg_name (i := 5) sc__law_group.nd rfl (Or.inl rfl) (by first | exact .inl rfl | exact .inr rfl)) (pgs_cons (pg_name (i := 4) sc__law_group.nd rfl (Or.inl rfl) (by first | exact .inl rfl | exact .inr rfl)) pgs_nil)))) (fun _ _ _ _ _ _ => dts_n) (fun _ _ _ _ _ _ => (de_v (pv 5)))))) da_n)))) (da_c (do_v (de_bin opR_add op_dAdd (do_v (de_v (pv 4))) (do_v de_int))) da_n)))) da_n))))))))))
theorem ok__law_atom (hB : Bl mg) {f : Addr} {fd : FuncData} (F : Fun K "_law_atom" "_law_atom" s__law_atom f fd) (hm : mg "_law_atom" = some (.ref f)) : Def P w K mg base 2 "_law_atom" 1 c__law_atom :=
  def_ok (N := N__law_atom) (ps := ["_law_cell"]) F sc__law_atom (F.binds (ps := ["_law_cell"]) fun _ _ _ _ _ _ us hl => match us, hl with | [_], _ => rfl) hm fun cdv A outer s H E W hr tk pw => by
    have hu := hr.units
    have hu5 : (A.deeper (envOfC "_law_atom" (defScope s__law_atom) s.heap.objs.size f cdv)).units + 65 < cLine := by have := hr.un; omega
    exact (dss_c (ds_v (i := 1) sc__law_atom.nd (de_bin op_fdivW op_dFdiv (do_v (de_v (pv 0))) (do_v de_int)))
   (dss_c (ds_i (dt_cmp (op_eqD hu) op_dEq (do_v (de_bin op_mod op_dMod (do_v (de_v (pv 0))) (do_v de_int))) (do_v de_int) (nomark _)) (dss_c (ds_v (i := 2) sc__law_atom.nd (de_ix ix_seq op_dIx (do_v (de_f (df_l (da_c (do_v de_int) (da_c (do_v de_int) (da_c (do_v de_int) (da_c (do_v de_int) (da_c (do_v de_int) (da_c (do_v de_int) (da_c (do_v de_int) (da_c (do_v de_int) (da_c (do_v de_int) (da_c (do_v de_int) (da_c (do_v de_int) (da_c (do_v de_int) (da_c (do_v de_int) (da_c (do_v de_int) (da_c (do_v de_int) (da_c (do_v de_int) (da_c (do_v de_int) da_n)))))))))))))))))))) (do_v (de_bin op_mod op_dMod (do_v (de_bin op_fdivW op_dFdiv (do_v (de_v (pv 0))) (do_v de_int))) (do_v de_int)))))
   (dss_c (ds_v (i := 3) sc__law_atom.nd (de_bin op_mod op_dMod (do_v (de_v (pv 1))) (do_v (de_v (pv 2)))))
   (dss_1 (ds_r (de_p (da_c (do_v (de_str [114, 101, 115, 116])) (da_c (do_v (de_v (pv 2))) (da_c (do_v (de_v (pv 3))) (da_c (do_v (de_bin opR_add op_dAdd (do_v (de_v (pv 3))) (do_v (de_bin op_mod op_dMod (do_v (de_bin op_fdivW op_dFdiv (do_v (de_v (pv 1))) (do_v (de_v (pv 2))))) (do_v (de_bin op_sub op_dSub (do_v (de_v (pv 2))) (do_v (de_v (pv 3))))))))) da_n))))))))) dss_n)
   (dss_c (ds_i (dt_cmp (op_eqD hu) op_dEq (do_v (de_bin op_mod op_dMod (do_v (de_bin op_fdivW op_dFdiv (do_v (de_v (pv 0))) (do_v de_int))) (do_v de_int))) (do_v de_int) (nomark _)) (dss_1 (ds_r (de_p (da_c (do_v (de_str [115, 101, 108, 102])) (da_c (do_v (de_bin op_mod op_dMod (do_v (de_v (pv 1))) (do_v de_int))) (da_c (do_v de_non) da_n)))))) dss_n)
   (dss_c (ds_i (dt_cmp (op_eqD hu) op_dEq (do_v (de_bin op_mod op_dMod (do_v (de_bin op_fdivW op_dFdiv (do_v (de_v (pv 0))) (do_v de_int))) (do_v de_int))) (do_v de_int) (nomark _)) (dss_c (ds_v (i := 3) sc__law_atom.nd (de_bin op_mod op_dMod (do_v (de_v (pv 1))) (do_v (de_bin op_pow op_dPow (do_v de_int) (do_v de_int)))))
   (dss_1 (ds_r (de_p (da_c (do_v (de_str [115, 101, 108, 102])) (da_c (do_v (de_v (pv 3))) (da_c (do_v (de_bin opR_add op_dAdd (do_v (de_v (pv 3))) (do_v (de_bin op_mod op_dMod (do_v (de_bin op_fdivW op_dFdiv (do_v (de_v (pv 1))) (do_v (de_bin op_pow op_dPow (do_v de_int) (do_v de_int))))) (do_v (de_bin op_pow op_dPow (do_v de_int) (do_v de_int))))))) da_n))))))) dss_n)
   (dss_c (ds_i (dt_cmp (op_eqD hu) op_dEq (do_v (de_bin op_mod op_dMod (do_v (de_bin op_fdivW op_dFdiv (do_v (de_v (pv 0))) (do_v de_int))) (do_v de_int))) (do_v de_int) (nomark _)) (dss_1 (ds_r (de_p (da_c (do_v (de_str [115, 101, 108, 102])) (da_c (do_v (de_bin op_mod op_dMod (do_v (de_v (pv 1))) (do_v (de_bin op_pow op_dPow (do_v de_int) (do_v de_int))))) (da_c (do_v de_non) da_n)))))) dss_n)
   (dss_1 (ds_r (de_p (da_c (do_v (de_str [115, 101, 108, 102])) (da_c (do_v (de_bin op_mod op_dMod (do_v (de_v (pv 1))) (do_v de_int))) (da_c (do_v (de_bin opR_add op_dAdd (do_v (de_bin op_mod op_dMod (do_v (de_v (pv 1))) (do_v de_int))) (do_v (de_bin op_mod op_dMod (do_v (de_bin op_fdivW op_dFdiv (do_v (de_v (pv 1))) (do_v de_int))) (do_v de_int))))) da_n)))))))))))
theorem ok__law_condition (hB : Bl mg) {f : Addr} {fd : FuncData} (F : Fun K "_law_condition" "_law_condition" s__law_condition f fd) (hm : mg "_law_condition" = some (.ref f)) (d__law_group : DefO P w K mg base 2 "_law_group" 3 c__law_group) (d__law_atom : Def P w K mg base 2 "_law_atom" 1 c__law_atom) : Def P w K mg base 3 "_law_condition" 2 c__law_condition :=
  def_ok (N := N__law_condition) (ps := ["_law_cells", "_law_word"]) F sc__law_condition (F.binds (ps := ["_law_cells", "_law_word"]) fun _ _ _ _ _ _ us hl => match us, hl with | [_, _], _ => rfl) hm fun cdv A outer s H E W hr tk pw => by
    have hu := hr.units
    have hu5 : (A.deeper (envOfC "_law_condition" (defScope s__law_condition) s.heap.objs.size f cdv)).units + 65 < cLine := by have := hr.un; omega
    have d__law_group := d__law_group.mono (j := 2) (by omega)
    have d__law_atom := d__law_atom.mono (j := 2) (by omega)
    exact (dss_c (ds_o (i := 2) sc__law_condition.nd (df_l da_n))
   (dss_c (ds_f pw rfl (di_e (de_v (pv 0))) (dg_v (i := 3) sc__law_condition.nd) (dss_c (ds_v (i := 4) sc__law_condition.nd (de_bin op_mod op_dMod (do_v (de_v (pv 3))) (do_v de_int)))
   (dss_1 (ds_i (dt_w (dw_a (dt_cmp (op_eqD hu) op_dEq (do_v (de_v (pv 4))) (do_v de_int) (nomark _)) (dw_a (dt_cmp (op_neD hu) op_dNe (do_s (pv 2)) (do_v (de_f (df_l da_n))) (nomark _)) (dw_1a (dt_cmp opR_lt op_dCmp (do_v (de_ix ix_seq op_dIx (do_v (de_ix ix_seq op_dIx (do_s (pv 2)) (do_v (de_un un_neg op_dNeg (do_v de_int))))) (do_v de_int))) (do_v de_int) (nomark _)))))) (dss_1 (ds_set (pv 2) (de_un un_neg op_dNeg (do_v de_int)) (de_p (da_c (do_v (de_p (da_c (do_v (de_str [110, 111, 116])) (da_c (do_v (de_ix ix_seq op_dIx (do_v (de_ix ix_seq op_dIx (do_s (pv 2)) (do_v (de_un un_neg op_dNeg (do_v de_int))))) (do_v de_int))) da_n)))) (da_c (do_v (de_bin opR_add op_dAdd (do_v (de_ix ix_seq op_dIx (do_v (de_ix ix_seq op_dIx (do_s (pv 2)) (do_v (de_un un_neg op_dNeg (do_v de_int))))) (do_v de_int))) (do_v de_int))) da_n))))) (dss_1 (ds_i (dt_w (dw_o (dt_cmp (op_eqD hu) op_dEq (do_v (de_v (pv 4))) (do_v de_int) (nomark _)) (dw_1o (dt_cmp (op_eqD hu) op_dEq (do_v (de_v (pv 4))) (do_v de_int) (nomark _))))) (dss_1 (ds_o (i := 2) sc__law_condition.nd (df_cof d__law_group hr tk (pv 2) (da_c (do_v (de_ix ix_seq op_dIx (do_v (de_f (df_l (da_c (do_v (de_str [97, 110, 100])) (da_c (do_v (de_str [111, 114])) da_n))))) (do_v (de_bin op_sub op_dSub (do_v (de_v (pv 4))) (do_v de_int))))) (da_c (do_v (de_cb (call_min2 rfl) op_dMin hB.min (da_c (do_v (de_bin op_mod op_dMod (do_v (de_bin op_fdivW op_dFdiv (do_v (de_v (pv 3))) (do_v de_int))) (do_v de_int))) (da_c (do_v (de_cb call_len op_dLen hB.len (da_c (do_s (pv 2)) da_n))) da_n)))) da_n))))) (dss_1 (ds_ap (pv 2) (do_v (de_p (da_c (do_v (de_c d__law_atom hr tk (da_c (do_v (de_bin op_fdivW op_dFdiv (do_v (de_v (pv 3))) (do_v de_int))) da_n))) (da_c (do_v de_int) da_n))))))))))))
   (dss_1 (ds_r (de_p (da_c (do_v (de_v (pv 1))) (da_c (do_v (de_f (df_lc [("_law_one", 5), ("_law_deep", 6)] rfl sc__law_condition.nd (blkOk_by (N := N__law_condition) (sc := defScope s__law_condition) (by decide +kernel)) (di_e (de_z (pv 2))) (tgB_t (tgsB_c (tgB_v (by decide)) (tgsB_c (tgB_v (by decide)) tgsB_n))) (fun _ _ _ _ _ => (pg_tup rfl (pgs_cons (pg_name (i := 5) sc__law_condition.nd rfl (Or.inl rfl) (by first | exact .inl rfl | exact .inr rfl)) (pgs_cons (pg_name (i := 6) sc__law_condition.nd rfl (Or.inl rfl) (by first | exact .inl rfl | exact .inr rfl)) pgs_nil)))) (fun _ _ _ _ _ _ => dts_n) (fun _ _ _ _ _ _ => (de_v (pv 5)))))) da_n)))))))
theorem ok__law_edges (hB : Bl mg) {f : Addr} {fd : FuncData} (F : Fun K "_law_edges" "_law_edges" s__law_edges f fd) (hm : mg "_law_edges" = some (.ref f)) : ∀ k, Def P w K mg base (2 + k) "_law_edges" 1 (c__law_edges k)
  | 0 => def_stuck (ps := ["_law_condition_here"]) F sc__law_edges (F.binds (ps := ["_law_condition_here"]) fun _ _ _ _ _ _ us hl => match us, hl with | [_], _ => rfl) hm
  | k + 1 => def_ok (N := N__law_edges) (ps := ["_law_condition_here"]) (k := 2 + k) F sc__law_edges (F.binds (ps := ["_law_condition_here"]) fun _ _ _ _ _ _ us hl => match us, hl with | [_], _ => rfl) hm fun cdv A outer s H E W hr tk pw => by
    have hrec := ok__law_edges hB F hm k
    have hu := hr.units
    have hu5 : (A.deeper (envOfC "_law_edges" (defScope s__law_edges) s.heap.objs.size f cdv)).units + 65 < cLine := by have := hr.un; omega
    exact (dss_c (ds_i (dt_cmp (op_eqD hu) op_dEq (do_v (de_ix ix_seq op_dIx (do_v (de_v (pv 0))) (do_v de_int))) (do_v (de_str [114, 101, 115, 116])) (nomark _)) (dss_1 (ds_r (de_f (df_l da_n)))) dss_n)
   (dss_c (ds_i (dt_cmp (op_eqD hu) op_dEq (do_v (de_ix ix_seq op_dIx (do_v (de_v (pv 0))) (do_v de_int))) (do_v (de_str [115, 101, 108, 102])) (nomark _)) (dss_1 (ds_r (de_bin opR_add op_dAdd (do_v (de_f (df_l (da_c (do_v (de_ix ix_seq op_dIx (do_v (de_v (pv 0))) (do_v de_int))) da_n)))) (do_v (de_f (df_lc [("_law_high", 1)] rfl sc__law_edges.nd (blkOk_by (N := N__law_edges) (sc := defScope s__law_edges) (by decide +kernel)) (di_e (de_sl sl_all op_dSl (do_v (de_v (pv 0))) (dp_s de_int) dp_n)) (tgB_v (by decide)) (fun _ _ _ _ _ => (pg_name (i := 1) sc__law_edges.nd rfl (Or.inl rfl) (by first | exact .inl rfl | exact .inr rfl))) (fun _ _ _ _ _ _ => (dts_1 (dt_cmp opR_isNot op_dIsNot (do_v (de_v (pv 1))) (do_v de_non) (nomark _)))) (fun _ _ _ _ _ _ => (de_bin opR_add op_dAdd (do_v (de_v (pv 1))) (do_v de_int))))))))) dss_n)
   (dss_c (ds_i (dt_cmp (op_eqD hu) op_dEq (do_v (de_ix ix_seq op_dIx (do_v (de_v (pv 0))) (do_v de_int))) (do_v (de_str [110, 111, 116])) (nomark _)) (dss_1 (ds_r (de_c hrec hr tk (da_c (do_v (de_ix ix_seq op_dIx (do_v (de_v (pv 0))) (do_v de_int))) da_n)))) dss_n)
   (dss_c (ds_v (i := 2) sc__law_edges.nd (de_f (df_l da_n)))
   (dss_c (ds_f pw rfl (di_e (de_ix ix_seq op_dIx (do_v (de_v (pv 0))) (do_v de_int))) (dg_v (i := 3) sc__law_edges.nd) (dss_1 (ds_v (i := 2) sc__law_edges.nd (de_bin opR_add op_dAdd (do_v (de_v (pv 2))) (do_v (de_c hrec hr tk (da_c (do_v (de_v (pv 3))) da_n)))))))
   (dss_1 (ds_r (de_v (pv 2)))))))))
theorem ok__law_near (hB : Bl mg) {f : Addr} {fd : FuncData} (F : Fun K "_law_near" "_law_near" s__law_near f fd) (hm : mg "_law_near" = some (.ref f)) : Def P w K mg base 2 "_law_near" 2 c__law_near :=
  def_ok (N := N__law_near) (ps := ["_law_edges_here", "_law_cell"]) F sc__law_near (F.binds (ps := ["_law_edges_here", "_law_cell"]) fun _ _ _ _ _ _ us hl => match us, hl with | [_, _], _ => rfl) hm fun cdv A outer s H E W hr tk pw => by
    have hu := hr.units
    have hu5 : (A.deeper (envOfC "_law_near" (defScope s__law_near) s.heap.objs.size f cdv)).units + 65 < cLine := by have := hr.un; omega
    exact (dss_c (ds_v (i := 2) sc__law_near.nd (de_bin op_fdivW op_dFdiv (do_v (de_v (pv 1))) (do_v de_int)))
   (dss_c (ds_i (dt_cmp (op_eqD hu) op_dEq (do_v (de_bin op_mod op_dMod (do_v (de_v (pv 1))) (do_v de_int))) (do_v de_int) (nomark _)) (dss_1 (ds_r (de_bin op_mod op_dMod (do_v (de_v (pv 2))) (do_v (de_bin op_pow op_dPow (do_v de_int) (do_v de_int)))))) dss_n)
   (dss_c (ds_i (dt_cmp (op_eqD hu) op_dEq (do_v (de_bin op_mod op_dMod (do_v (de_v (pv 1))) (do_v de_int))) (do_v de_int) (nomark _)) (dss_1 (ds_r (de_bin op_mod op_dMod (do_v (de_v (pv 2))) (do_v de_int)))) dss_n)
   (dss_c (ds_v (i := 3) sc__law_near.nd (de_ix ix_seq op_dIx (do_v (de_bin opR_add op_dAdd (do_v (de_f (df_l (da_c (do_v de_int) da_n)))) (do_v (de_v (pv 0))))) (do_v (de_bin op_mod op_dMod (do_v (de_v (pv 2))) (do_v (de_bin opR_add op_dAdd (do_v (de_cb call_len op_dLen hB.len (da_c (do_v (de_v (pv 0))) da_n))) (do_v de_int)))))))
   (dss_1 (ds_r (de_cb (call_max2 rfl) op_dMax hB.max (da_c (do_v de_int) (da_c (do_v (de_bin op_sub op_dSub (do_v (de_bin opR_add op_dAdd (do_v (de_v (pv 3))) (do_v (de_bin op_mod op_dMod (do_v (de_bin op_fdivW op_dFdiv (do_v (de_v (pv 2))) (do_v (de_bin opR_add op_dAdd (do_v (de_cb call_len op_dLen hB.len (da_c (do_v (de_v (pv 0))) da_n))) (do_v de_int))))) (do_v de_int))))) (do_v de_int))) da_n)))))))))
theorem ok_made (hB : Bl mg) {f : Addr} {fd : FuncData} (F : Fun K "made" "made" s_made f fd) (hm : mg "made" = some (.ref f)) (dI_RestOf : IDef P w K mg base 1 "RestOf" 90595682176870 [25209, 7106423, 1751738216]) (dI_SelfOf : IDef P w K mg base 1 "SelfOf" 91695075446630 [7106423, 1751738216]) (dI_NotOf : IDef P w K mg base 1 "NotOf" 336877342566 [27416740819268468]) (dI_AllOf : IDef P w K mg base 1 "AllOf" 280991911782 [452824294770]) (dI_GroupOf : IDef P w K mg base 1 "GroupOf" 20110546383687526 [452824294770]) : ∀ k, Def P w K mg base (3 + k) "made" 1 (c_made k)
  | 0 => def_stuck (ps := ["condition"]) F sc_made (F.binds (ps := ["condition"]) fun _ _ _ _ _ _ us hl => match us, hl with | [_], _ => rfl) hm
  | k + 1 => def_ok (N := N_made) (ps := ["condition"]) (k := 3 + k) F sc_made (F.binds (ps := ["condition"]) fun _ _ _ _ _ _ us hl => match us, hl with | [_], _ => rfl) hm fun cdv A outer s H E W hr tk pw => by
    have hrec := ok_made hB F hm dI_RestOf dI_SelfOf dI_NotOf dI_AllOf dI_GroupOf k
    have hu := hr.units
    have hu5 : (A.deeper (envOfC "made" (defScope s_made) s.heap.objs.size f cdv)).units + 65 < cLine := by have := hr.un; omega
    exact (dss_c (ds_v (i := 1) sc_made.nd (de_ix ix_seq op_dIx (do_v (de_v (pv 0))) (do_v de_int)))
   (dss_c (ds_i (dt_cmp (op_eqD hu) op_dEq (do_v (de_v (pv 1))) (do_v (de_str [114, 101, 115, 116])) (nomark _)) (dss_1 (ds_r (de_new dI_RestOf (hr.mono (by omega)) (da_c (do_v (de_ix ix_seq op_dIx (do_v (de_v (pv 0))) (do_v de_int))) (da_c (do_v (de_ix ix_seq op_dIx (do_v (de_v (pv 0))) (do_v de_int))) (da_c (do_v (de_ix ix_seq op_dIx (do_v (de_v (pv 0))) (do_v de_int))) da_n)))))) dss_n)
   (dss_c (ds_i (dt_cmp (op_eqD hu) op_dEq (do_v (de_v (pv 1))) (do_v (de_str [115, 101, 108, 102])) (nomark _)) (dss_1 (ds_r (de_new dI_SelfOf (hr.mono (by omega)) (da_c (do_v (de_ix ix_seq op_dIx (do_v (de_v (pv 0))) (do_v de_int))) (da_c (do_v (de_ix ix_seq op_dIx (do_v (de_v (pv 0))) (do_v de_int))) da_n))))) dss_n)
   (dss_c (ds_i (dt_cmp (op_eqD hu) op_dEq (do_v (de_v (pv 1))) (do_v (de_str [110, 111, 116])) (nomark _)) (dss_1 (ds_r (de_new dI_NotOf (hr.mono (by omega)) (da_c (do_v (de_c hrec hr tk (da_c (do_v (de_ix ix_seq op_dIx (do_v (de_v (pv 0))) (do_v de_int))) da_n))) da_n)))) dss_n)
   (dss_c (ds_vlc (i := 2) [("one", 3)] rfl sc_made.nd (blkOk_by (N := N_made) (sc := defScope s_made) (by decide +kernel)) (di_e (de_ix ix_seq op_dIx (do_v (de_v (pv 0))) (do_v de_int))) (tgB_v (by decide)) (fun _ _ _ _ _ => (pg_name (i := 3) sc_made.nd rfl (Or.inl rfl) (by first | exact .inl rfl | exact .inr rfl))) (fun _ _ _ _ _ _ => dts_n) (fun _ _ _ _ _ _ => (de_c hrec hr takes0 (da_c (do_v (de_v (pv 3))) da_n))))
   (dss_c (ds_i (dt_cmp (op_eqD hu) op_dEq (do_v (de_v (pv 1))) (do_v (de_str [97, 110, 100])) (nomark _)) (dss_1 (ds_r (de_new dI_AllOf (hr.mono (by omega)) (da_c (do_v (de_v (pv 2))) da_n)))) dss_n)
   (dss_1 (ds_r (de_new dI_GroupOf (hr.mono (by omega)) (da_c (do_v (de_v (pv 2))) da_n))))))))))
theorem ok_Condition_holds (hB : Bl mg) {f : Addr} {fd : FuncData} (F : Fun K "holds" "Condition.holds" s_Condition_holds f fd) (hF_low : ClsF K mg [90595682176870, 91695075446630] "low") (hF_by : ClsF K mg [90595682176870] "by") (hF_high : ClsF K mg [90595682176870, 91695075446630] "high") (hF_against : ClsF K mg [336877342566] "against") (hF_inner : ClsF K mg [20110546383687526, 280991911782] "inner") {k : Nat} (hrec : MDef P w K mg base (2 + k) "holds" 2 [1243961318528275541870, 90595682176870, 91695075446630, 336877342566, 20110546383687526, 280991911782] (t_holds k)) : FnOk P w K mg base (L2.CX P w) (2 + k + 1) f fd ["self", "n"] (spOf ⟨K, mg⟩ 2 (runB 2 (b_Condition_holds))) :=
  fn_ok (N := N_Condition_holds) (ps := ["self", "n"]) (k := 2 + k) F sc_Condition_holds fun cdv A outer s H E W hr tk pw => by
    have hu := hr.units
    have hu5 : (A.deeper (envOfC "Condition.holds" (defScope s_Condition_holds) s.heap.objs.size f cdv)).units + 65 < cLine := by have := hr.un; omega
    exact (dss_1 (ds_r de_bl))
theorem ok_RestOf_holds (hB : Bl mg) {f : Addr} {fd : FuncData} (F : Fun K "holds" "RestOf.holds" s_RestOf_holds f fd) (hF_low : ClsF K mg [90595682176870, 91695075446630] "low") (hF_by : ClsF K mg [90595682176870] "by") (hF_high : ClsF K mg [90595682176870, 91695075446630] "high") (hF_against : ClsF K mg [336877342566] "against") (hF_inner : ClsF K mg [20110546383687526, 280991911782] "inner") {k : Nat} (hrec : MDef P w K mg base (2 + k) "holds" 2 [1243961318528275541870, 90595682176870, 91695075446630, 336877342566, 20110546383687526, 280991911782] (t_holds k)) : FnOk P w K mg base (L2.CX P w) (2 + k + 1) f fd ["self", "n"] (spOf ⟨K, mg⟩ 2 (runB 2 (b_RestOf_holds))) :=
  fn_ok (N := N_RestOf_holds) (ps := ["self", "n"]) (k := 2 + k) F sc_RestOf_holds fun cdv A outer s H E W hr tk pw => by
    have hu := hr.units
    have hu5 : (A.deeper (envOfC "RestOf.holds" (defScope s_RestOf_holds) s.heap.objs.size f cdv)).units + 65 < cLine := by have := hr.un; omega
    exact (dss_1 (ds_r (de_chain opR_le op_dCmp opR_le op_dCmp (do_v (de_fld [90595682176870, 91695075446630] 7106423 (by decide +kernel) (by decide +kernel) hF_low (do_v (de_v (pv 0))))) (do_v (de_bin op_mod op_dMod (do_v (de_v (pv 1))) (do_v (de_fld [90595682176870] 25209 (by decide +kernel) (by decide +kernel) hF_by (do_v (de_v (pv 0))))))) (do_v (de_fld [90595682176870, 91695075446630] 1751738216 (by decide +kernel) (by decide +kernel) hF_high (do_v (de_v (pv 0))))))))
theorem ok_SelfOf_holds (hB : Bl mg) {f : Addr} {fd : FuncData} (F : Fun K "holds" "SelfOf.holds" s_SelfOf_holds f fd) (hF_low : ClsF K mg [90595682176870, 91695075446630] "low") (hF_by : ClsF K mg [90595682176870] "by") (hF_high : ClsF K mg [90595682176870, 91695075446630] "high") (hF_against : ClsF K mg [336877342566] "against") (hF_inner : ClsF K mg [20110546383687526, 280991911782] "inner") {k : Nat} (hrec : MDef P w K mg base (2 + k) "holds" 2 [1243961318528275541870, 90595682176870, 91695075446630, 336877342566, 20110546383687526, 280991911782] (t_holds k)) : FnOk P w K mg base (L2.CX P w) (2 + k + 1) f fd ["self", "n"] (spOf ⟨K, mg⟩ 2 (runB 2 (b_SelfOf_holds))) :=
  fn_ok (N := N_SelfOf_holds) (ps := ["self", "n"]) (k := 2 + k) F sc_SelfOf_holds fun cdv A outer s H E W hr tk pw => by
    have hu := hr.units
    have hu5 : (A.deeper (envOfC "SelfOf.holds" (defScope s_SelfOf_holds) s.heap.objs.size f cdv)).units + 65 < cLine := by have := hr.un; omega
    exact (dss_1 (ds_r (de_a (de_cmp opR_le op_dCmp (do_v (de_fld [90595682176870, 91695075446630] 7106423 (by decide +kernel) (by decide +kernel) hF_low (do_v (de_v (pv 0))))) (do_v (de_v (pv 1))) (nomark _)) (de_1 (de_o (de_cmp opR_is op_dIs (do_v (de_fld [90595682176870, 91695075446630] 1751738216 (by decide +kernel) (by decide +kernel) hF_high (do_v (de_v (pv 0))))) (do_v de_non) (nomark _)) (de_1 (de_cmp opR_le op_dCmp (do_v (de_v (pv 1))) (do_v (de_fld [90595682176870, 91695075446630] 1751738216 (by decide +kernel) (by decide +kernel) hF_high (do_v (de_v (pv 0))))) (nomark _))))))))
theorem ok_NotOf_holds (hB : Bl mg) {f : Addr} {fd : FuncData} (F : Fun K "holds" "NotOf.holds" s_NotOf_holds f fd) (hF_low : ClsF K mg [90595682176870, 91695075446630] "low") (hF_by : ClsF K mg [90595682176870] "by") (hF_high : ClsF K mg [90595682176870, 91695075446630] "high") (hF_against : ClsF K mg [336877342566] "against") (hF_inner : ClsF K mg [20110546383687526, 280991911782] "inner") {k : Nat} (hrec : MDef P w K mg base (2 + k) "holds" 2 [1243961318528275541870, 90595682176870, 91695075446630, 336877342566, 20110546383687526, 280991911782] (t_holds k)) : FnOk P w K mg base (L2.CX P w) (2 + k + 1) f fd ["self", "n"] (spOf ⟨K, mg⟩ 2 (runB 2 (b_NotOf_holds (t_holds k)))) :=
  fn_ok (N := N_NotOf_holds) (ps := ["self", "n"]) (k := 2 + k) F sc_NotOf_holds fun cdv A outer s H E W hr tk pw => by
    have hu := hr.units
    have hu5 : (A.deeper (envOfC "NotOf.holds" (defScope s_NotOf_holds) s.heap.objs.size f cdv)).units + 65 < cLine := by have := hr.un; omega
    exact (dss_1 (ds_r (de_n (de_mc (by decide +kernel) (by decide +kernel) hrec hr tk (de_fld [336877342566] 27416740819268468 (by decide +kernel) (by decide +kernel) hF_against (do_v (de_v (pv 0)))) (da_c (do_v (de_v (pv 1))) da_n)))))
theorem ok_GroupOf_holds (hB : Bl mg) {f : Addr} {fd : FuncData} (F : Fun K "holds" "GroupOf.holds" s_GroupOf_holds f fd) (hF_low : ClsF K mg [90595682176870, 91695075446630] "low") (hF_by : ClsF K mg [90595682176870] "by") (hF_high : ClsF K mg [90595682176870, 91695075446630] "high") (hF_against : ClsF K mg [336877342566] "against") (hF_inner : ClsF K mg [20110546383687526, 280991911782] "inner") {k : Nat} (hrec : MDef P w K mg base (2 + k) "holds" 2 [1243961318528275541870, 90595682176870, 91695075446630, 336877342566, 20110546383687526, 280991911782] (t_holds k)) : FnOk P w K mg base (L2.CX P w) (2 + k + 1) f fd ["self", "n"] (spOf ⟨K, mg⟩ 2 (runB 3 (b_GroupOf_holds (t_holds k)))) :=
  fn_ok (N := N_GroupOf_holds) (ps := ["self", "n"]) (k := 2 + k) F sc_GroupOf_holds fun cdv A outer s H E W hr tk pw => by
    have hu := hr.units
    have hu5 : (A.deeper (envOfC "GroupOf.holds" (defScope s_GroupOf_holds) s.heap.objs.size f cdv)).units + 65 < cLine := by have := hr.un; omega
    exact (dss_1 (ds_r (de_cb (cr_any rfl) op_dAny hB.any (da_c (do_v (de_f (df_lc [("one", 2)] rfl sc_GroupOf_holds.nd (blkOk_by (N := N_GroupOf_holds) (sc := defScope s_GroupOf_holds) (by decide +kernel)) (di_e (de_fld [20110546383687526, 280991911782] 452824294770 (by decide +kernel) (by decide +kernel) hF_inner (do_v (de_v (pv 0))))) (tgB_v (by decide)) (fun _ _ _ _ _ => (pg_name (i := 2) sc_GroupOf_holds.nd rfl (Or.inl rfl) (by first | exact .inl rfl | exact .inr rfl))) (fun _ _ _ _ _ _ => dts_n) (fun _ _ _ _ _ _ => (de_mc (by decide +kernel) (by decide +kernel) hrec hr takes0 (de_v (pv 2)) (da_c (do_v (de_v (pv 1))) da_n)))))) da_n))))
theorem ok_AllOf_holds (hB : Bl mg) {f : Addr} {fd : FuncData} (F : Fun K "holds" "AllOf.holds" s_AllOf_holds f fd) (hF_low : ClsF K mg [90595682176870, 91695075446630] "low") (hF_by : ClsF K mg [90595682176870] "by") (hF_high : ClsF K mg [90595682176870, 91695075446630] "high") (hF_against : ClsF K mg [336877342566] "against") (hF_inner : ClsF K mg [20110546383687526, 280991911782] "inner") {k : Nat} (hrec : MDef P w K mg base (2 + k) "holds" 2 [1243961318528275541870, 90595682176870, 91695075446630, 336877342566, 20110546383687526, 280991911782] (t_holds k)) : FnOk P w K mg base (L2.CX P w) (2 + k + 1) f fd ["self", "n"] (spOf ⟨K, mg⟩ 2 (runB 3 (b_AllOf_holds (t_holds k)))) :=
  fn_ok (N := N_AllOf_holds) (ps := ["self", "n"]) (k := 2 + k) F sc_AllOf_holds fun cdv A outer s H E W hr tk pw => by
    have hu := hr.units
    have hu5 : (A.deeper (envOfC "AllOf.holds" (defScope s_AllOf_holds) s.heap.objs.size f cdv)).units + 65 < cLine := by have := hr.un; omega
    exact (dss_1 (ds_r (de_cb (cr_all rfl) op_dAll hB.all (da_c (do_v (de_f (df_lc [("one", 2)] rfl sc_AllOf_holds.nd (blkOk_by (N := N_AllOf_holds) (sc := defScope s_AllOf_holds) (by decide +kernel)) (di_e (de_fld [20110546383687526, 280991911782] 452824294770 (by decide +kernel) (by decide +kernel) hF_inner (do_v (de_v (pv 0))))) (tgB_v (by decide)) (fun _ _ _ _ _ => (pg_name (i := 2) sc_AllOf_holds.nd rfl (Or.inl rfl) (by first | exact .inl rfl | exact .inr rfl))) (fun _ _ _ _ _ _ => dts_n) (fun _ _ _ _ _ _ => (de_mc (by decide +kernel) (by decide +kernel) hrec hr takes0 (de_v (pv 2)) (da_c (do_v (de_v (pv 1))) da_n)))))) da_n))))
theorem okm_holds (hB : Bl mg) (hF_low : ClsF K mg [90595682176870, 91695075446630] "low") (hF_by : ClsF K mg [90595682176870] "by") (hF_high : ClsF K mg [90595682176870, 91695075446630] "high") (hF_against : ClsF K mg [336877342566] "against") (hF_inner : ClsF K mg [20110546383687526, 280991911782] "inner") {f_Condition : Addr} {fd_Condition : FuncData} (F_Condition : Fun K "holds" "Condition.holds" s_Condition_holds f_Condition fd_Condition) {f_RestOf : Addr} {fd_RestOf : FuncData} (F_RestOf : Fun K "holds" "RestOf.holds" s_RestOf_holds f_RestOf fd_RestOf) {f_SelfOf : Addr} {fd_SelfOf : FuncData} (F_SelfOf : Fun K "holds" "SelfOf.holds" s_SelfOf_holds f_SelfOf fd_SelfOf) {f_NotOf : Addr} {fd_NotOf : FuncData} (F_NotOf : Fun K "holds" "NotOf.holds" s_NotOf_holds f_NotOf fd_NotOf) {f_GroupOf : Addr} {fd_GroupOf : FuncData} (F_GroupOf : Fun K "holds" "GroupOf.holds" s_GroupOf_holds f_GroupOf fd_GroupOf) {f_AllOf : Addr} {fd_AllOf : FuncData} (F_AllOf : Fun K "holds" "AllOf.holds" s_AllOf_holds f_AllOf fd_AllOf) {C_Condition : Addr} (hC_Condition : mg (nmS 1243961318528275541870) = some (.ref C_Condition)) (cl_Condition : Cls K C_Condition) (mt_Condition : Meth K C_Condition "holds" f_Condition) {C_RestOf : Addr} (hC_RestOf : mg (nmS 90595682176870) = some (.ref C_RestOf)) (cl_RestOf : Cls K C_RestOf) (mt_RestOf : Meth K C_RestOf "holds" f_RestOf) {C_SelfOf : Addr} (hC_SelfOf : mg (nmS 91695075446630) = some (.ref C_SelfOf)) (cl_SelfOf : Cls K C_SelfOf) (mt_SelfOf : Meth K C_SelfOf "holds" f_SelfOf) {C_NotOf : Addr} (hC_NotOf : mg (nmS 336877342566) = some (.ref C_NotOf)) (cl_NotOf : Cls K C_NotOf) (mt_NotOf : Meth K C_NotOf "holds" f_NotOf) {C_GroupOf : Addr} (hC_GroupOf : mg (nmS 20110546383687526) = some (.ref C_GroupOf)) (cl_GroupOf : Cls K C_GroupOf) (mt_GroupOf : Meth K C_GroupOf "holds" f_GroupOf) {C_AllOf : Addr} (hC_AllOf : mg (nmS 280991911782) = some (.ref C_AllOf)) (cl_AllOf : Cls K C_AllOf) (mt_AllOf : Meth K C_AllOf "holds" f_AllOf) : ∀ k, MDef P w K mg base (2 + k) "holds" 2 [1243961318528275541870, 90595682176870, 91695075446630, 336877342566, 20110546383687526, 280991911782] (t_holds k)
  | 0 => (.cons hC_Condition cl_Condition mt_Condition (fn_stuck (k := 1) F_Condition sc_Condition_holds) (F_Condition.binds (ps := ["self", "n"]) fun _ _ _ _ _ _ us hl => match us, hl with | [_, _], _ => rfl) (.cons hC_RestOf cl_RestOf mt_RestOf (fn_stuck (k := 1) F_RestOf sc_RestOf_holds) (F_RestOf.binds (ps := ["self", "n"]) fun _ _ _ _ _ _ us hl => match us, hl with | [_, _], _ => rfl) (.cons hC_SelfOf cl_SelfOf mt_SelfOf (fn_stuck (k := 1) F_SelfOf sc_SelfOf_holds) (F_SelfOf.binds (ps := ["self", "n"]) fun _ _ _ _ _ _ us hl => match us, hl with | [_, _], _ => rfl) (.cons hC_NotOf cl_NotOf mt_NotOf (fn_stuck (k := 1) F_NotOf sc_NotOf_holds) (F_NotOf.binds (ps := ["self", "n"]) fun _ _ _ _ _ _ us hl => match us, hl with | [_, _], _ => rfl) (.cons hC_GroupOf cl_GroupOf mt_GroupOf (fn_stuck (k := 1) F_GroupOf sc_GroupOf_holds) (F_GroupOf.binds (ps := ["self", "n"]) fun _ _ _ _ _ _ us hl => match us, hl with | [_, _], _ => rfl) (.cons hC_AllOf cl_AllOf mt_AllOf (fn_stuck (k := 1) F_AllOf sc_AllOf_holds) (F_AllOf.binds (ps := ["self", "n"]) fun _ _ _ _ _ _ us hl => match us, hl with | [_, _], _ => rfl) .nil))))))
  | k + 1 => by
    have hrec := okm_holds hB hF_low hF_by hF_high hF_against hF_inner F_Condition F_RestOf F_SelfOf F_NotOf F_GroupOf F_AllOf hC_Condition cl_Condition mt_Condition hC_RestOf cl_RestOf mt_RestOf hC_SelfOf cl_SelfOf mt_SelfOf hC_NotOf cl_NotOf mt_NotOf hC_GroupOf cl_GroupOf mt_GroupOf hC_AllOf cl_AllOf mt_AllOf k
    exact (.cons hC_Condition cl_Condition mt_Condition (by rw [t_holds_Condition]; exact ok_Condition_holds hB F_Condition hF_low hF_by hF_high hF_against hF_inner hrec) (F_Condition.binds (ps := ["self", "n"]) fun _ _ _ _ _ _ us hl => match us, hl with | [_, _], _ => rfl) (.cons hC_RestOf cl_RestOf mt_RestOf (by rw [t_holds_RestOf]; exact ok_RestOf_holds hB F_RestOf hF_low hF_by hF_high hF_against hF_inner hrec) (F_RestOf.binds (ps := ["self", "n"]) fun _ _ _ _ _ _ us hl => match us, hl with | [_, _], _ => rfl) (.cons hC_SelfOf cl_SelfOf mt_SelfOf (by rw [t_holds_SelfOf]; exact ok_SelfOf_holds hB F_SelfOf hF_low hF_by hF_high hF_against hF_inner hrec) (F_SelfOf.binds (ps := ["self", "n"]) fun _ _ _ _ _ _ us hl => match us, hl with | [_, _], _ => rfl) (.cons hC_NotOf cl_NotOf mt_NotOf (by rw [t_holds_NotOf]; exact ok_NotOf_holds hB F_NotOf hF_low hF_by hF_high hF_against hF_inner hrec) (F_NotOf.binds (ps := ["self", "n"]) fun _ _ _ _ _ _ us hl => match us, hl with | [_, _], _ => rfl) (.cons hC_GroupOf cl_GroupOf mt_GroupOf (by rw [t_holds_GroupOf]; exact ok_GroupOf_holds hB F_GroupOf hF_low hF_by hF_high hF_against hF_inner hrec) (F_GroupOf.binds (ps := ["self", "n"]) fun _ _ _ _ _ _ us hl => match us, hl with | [_, _], _ => rfl) (.cons hC_AllOf cl_AllOf mt_AllOf (by rw [t_holds_AllOf]; exact ok_AllOf_holds hB F_AllOf hF_low hF_by hF_high hF_against hF_inner hrec) (F_AllOf.binds (ps := ["self", "n"]) fun _ _ _ _ _ _ us hl => match us, hl with | [_, _], _ => rfl) .nil))))))
theorem ok_holds (hB : Bl mg) {f : Addr} {fd : FuncData} (F : Fun K "holds" "holds" s_holds f fd) (hm : mg "holds" = some (.ref f)) (d_made : Def P w K mg base 23 "made" 1 (c_made 20)) (dM_holds : MDef P w K mg base 22 "holds" 2 [1243961318528275541870, 90595682176870, 91695075446630, 336877342566, 20110546383687526, 280991911782] (t_holds 20)) : Def P w K mg base 24 "holds" 2 c_holds :=
  def_ok (N := N_holds) (ps := ["condition", "n"]) F sc_holds (F.binds (ps := ["condition", "n"]) fun _ _ _ _ _ _ us hl => match us, hl with | [_, _], _ => rfl) hm fun cdv A outer s H E W hr tk pw => by
    have hu := hr.units
    have hu5 : (A.deeper (envOfC "holds" (defScope s_holds) s.heap.objs.size f cdv)).units + 65 < cLine := by have := hr.un; omega
    have d_made := d_made.mono (j := 23) (by omega)
    have dM_holds := dM_holds.mono (j := 23) (by omega)
    exact (dss_1 (ds_r (de_mc (by decide +kernel) (by decide +kernel) dM_holds hr tk (de_c d_made hr tk (da_c (do_v (de_v (pv 0))) da_n)) (da_c (do_v (de_v (pv 1))) da_n))))
theorem ok__law_holds (hB : Bl mg) {f : Addr} {fd : FuncData} (F : Fun K "_law_holds" "_law_holds" s__law_holds f fd) (hm : mg "_law_holds" = some (.ref f)) : ∀ k, Def P w K mg base (2 + k) "_law_holds" 2 (c__law_holds k)
  | 0 => def_stuck (ps := ["_law_condition_here", "_law_n"]) F sc__law_holds (F.binds (ps := ["_law_condition_here", "_law_n"]) fun _ _ _ _ _ _ us hl => match us, hl with | [_, _], _ => rfl) hm
  | k + 1 => def_ok (N := N__law_holds) (ps := ["_law_condition_here", "_law_n"]) (k := 2 + k) F sc__law_holds (F.binds (ps := ["_law_condition_here", "_law_n"]) fun _ _ _ _ _ _ us hl => match us, hl with | [_, _], _ => rfl) hm fun cdv A outer s H E W hr tk pw => by
    have hrec := ok__law_holds hB F hm k
    have hu := hr.units
    have hu5 : (A.deeper (envOfC "_law_holds" (defScope s__law_holds) s.heap.objs.size f cdv)).units + 65 < cLine := by have := hr.un; omega
    exact (dss_c (ds_v (i := 2) sc__law_holds.nd (de_ix ix_seq op_dIx (do_v (de_v (pv 0))) (do_v de_int)))
   (dss_c (ds_i (dt_cmp (op_eqD hu) op_dEq (do_v (de_v (pv 2))) (do_v (de_str [114, 101, 115, 116])) (nomark _)) (dss_1 (ds_r (de_a (de_cmp opR_le op_dCmp (do_v (de_ix ix_seq op_dIx (do_v (de_v (pv 0))) (do_v de_int))) (do_v (de_bin op_mod op_dMod (do_v (de_v (pv 1))) (do_v (de_ix ix_seq op_dIx (do_v (de_v (pv 0))) (do_v de_int))))) (nomark _)) (de_1 (de_cmp opR_le op_dCmp (do_v (de_bin op_mod op_dMod (do_v (de_v (pv 1))) (do_v (de_ix ix_seq op_dIx (do_v (de_v (pv 0))) (do_v de_int))))) (do_v (de_ix ix_seq op_dIx (do_v (de_v (pv 0))) (do_v de_int))) (nomark _)))))) dss_n)
   (dss_c (ds_i (dt_cmp (op_eqD hu) op_dEq (do_v (de_v (pv 2))) (do_v (de_str [115, 101, 108, 102])) (nomark _)) (dss_1 (ds_r (de_a (de_cmp opR_le op_dCmp (do_v (de_ix ix_seq op_dIx (do_v (de_v (pv 0))) (do_v de_int))) (do_v (de_v (pv 1))) (nomark _)) (de_1 (de_o (de_cmp opR_is op_dIs (do_v (de_ix ix_seq op_dIx (do_v (de_v (pv 0))) (do_v de_int))) (do_v de_non) (nomark _)) (de_1 (de_cmp opR_le op_dCmp (do_v (de_v (pv 1))) (do_v (de_ix ix_seq op_dIx (do_v (de_v (pv 0))) (do_v de_int))) (nomark _)))))))) dss_n)
   (dss_c (ds_i (dt_cmp (op_eqD hu) op_dEq (do_v (de_v (pv 2))) (do_v (de_str [110, 111, 116])) (nomark _)) (dss_1 (ds_r (de_n (de_c hrec hr tk (da_c (do_v (de_ix ix_seq op_dIx (do_v (de_v (pv 0))) (do_v de_int))) (da_c (do_v (de_v (pv 1))) da_n)))))) dss_n)
   (dss_c (ds_v (i := 3) sc__law_holds.nd (de_cmp (op_eqD hu) op_dEq (do_v (de_v (pv 2))) (do_v (de_str [111, 114])) (nomark _)))
   (dss_c (ds_f pw rfl (di_e (de_ix ix_seq op_dIx (do_v (de_v (pv 0))) (do_v de_int))) (dg_v (i := 4) sc__law_holds.nd) (dss_1 (ds_i (dt_cmp (op_eqD hu) op_dEq (do_v (de_c hrec hr tk (da_c (do_v (de_v (pv 4))) (da_c (do_v (de_v (pv 1))) da_n)))) (do_v (de_v (pv 3))) (nomark _)) (dss_1 (ds_r (de_v (pv 3)))) dss_n)))
   (dss_1 (ds_r (de_n (de_v (pv 3)))))))))))
theorem ok_law (hB : Bl mg) {f : Addr} {fd : FuncData} (F : Fun K "law" "law" s_law f fd) (d__law_cell_at : Def P w K mg base 2 "_law_cell_at" 2 c__law_cell_at) (d__law_condition : Def P w K mg base 3 "_law_condition" 2 c__law_condition) (d__law_edges : Def P w K mg base 22 "_law_edges" 1 (c__law_edges 20)) (d__law_near : Def P w K mg base 2 "_law_near" 2 c__law_near) (d_holds : Def P w K mg base 24 "holds" 2 c_holds) (d__law_holds : Def P w K mg base 22 "_law_holds" 2 (c__law_holds 20)) : FnOk P w K mg base (L2.CX P w) 25 f fd ["_law_script"] (spOf ⟨K, mg⟩ 1 c_law) :=
  fn_ok (N := N_law) (ps := ["_law_script"]) F sc_law fun cdv A outer s H E W hr tk pw => by
    have hu := hr.units
    have hu5 : (A.deeper (envOfC "law" (defScope s_law) s.heap.objs.size f cdv)).units + 65 < cLine := by have := hr.un; omega
    have d__law_cell_at := d__law_cell_at.mono (j := 24) (by omega)
    have d__law_condition := d__law_condition.mono (j := 24) (by omega)
    have d__law_edges := d__law_edges.mono (j := 24) (by omega)
    have d__law_near := d__law_near.mono (j := 24) (by omega)
    have d_holds := d_holds.mono (j := 24) (by omega)
    have d__law_holds := d__law_holds.mono (j := 24) (by omega)
    exact (dss_c (ds_v (i := 1) sc_law.nd (de_ix ix_seq op_dIx (do_v (de_f (df_l (da_c (do_v (de_str [97, 110, 100])) (da_c (do_v (de_str [111, 114])) da_n))))) (do_v (de_bin op_mod op_dMod (do_v (de_c d__law_cell_at hr tk (da_c (do_v (de_v (pv 0))) (da_c (do_v de_int) da_n)))) (do_v de_int)))))
   (dss_c (ds_v (i := 2) sc_law.nd (de_c d__law_condition hr tk (da_c (do_v (de_sl sl_all op_dSl (do_v (de_v (pv 0))) (dp_s de_int) (dp_s de_int))) (da_c (do_v (de_v (pv 1))) da_n))))
   (dss_c (ds_v (i := 3) sc_law.nd (de_c d__law_condition hr tk (da_c (do_v (de_sl sl_all op_dSl (do_v (de_v (pv 0))) (dp_s de_int) (dp_s de_int))) (da_c (do_v (de_v (pv 1))) da_n))))
   (dss_c (ds_v (i := 4) sc_law.nd (de_c d__law_edges hr tk (da_c (do_v (de_v (pv 3))) da_n)))
   (dss_c (ds_v (i := 5) sc_law.nd (de_f (df_l (da_c (do_v (de_c d__law_near hr tk (da_c (do_v (de_v (pv 4))) (da_c (do_v (de_c d__law_cell_at hr tk (da_c (do_v (de_v (pv 0))) (da_c (do_v de_int) da_n)))) da_n)))) (da_c (do_v (de_c d__law_near hr tk (da_c (do_v (de_v (pv 4))) (da_c (do_v (de_c d__law_cell_at hr tk (da_c (do_v (de_v (pv 0))) (da_c (do_v de_int) da_n)))) da_n)))) da_n)))))
   (dss_c (ds_v (i := 6) sc_law.nd (de_bin op_mod op_dMod (do_v (de_bin op_fdivW op_dFdiv (do_v (de_c d__law_cell_at hr tk (da_c (do_v (de_v (pv 0))) (da_c (do_v de_int) da_n)))) (do_v de_int))) (do_v (de_bin opR_add op_dAdd (do_v (de_cb call_len op_dLen hB.len (da_c (do_v (de_v (pv 4))) da_n))) (do_v de_int)))))
   (dss_c (ds_f pw rfl (di_e (de_sl sl_all op_dSl (do_v (de_bin opR_add op_dAdd (do_v (de_sl sl_all op_dSl (do_v (de_v (pv 4))) (dp_s (de_v (pv 6))) dp_n)) (do_v (de_sl sl_all op_dSl (do_v (de_v (pv 4))) dp_n (dp_s (de_v (pv 6))))))) dp_n (dp_s de_int))) (dg_v (i := 7) sc_law.nd) (dss_1 (ds_v (i := 5) sc_law.nd (de_bin opR_add op_dAdd (do_v (de_v (pv 5))) (do_v (de_f (df_l (da_c (do_v (de_v (pv 7))) (da_c (do_v (de_cb (call_max2 rfl) op_dMax hB.max (da_c (do_v de_int) (da_c (do_v (de_bin op_sub op_dSub (do_v (de_v (pv 7))) (do_v de_int))) da_n)))) (da_c (do_v (de_bin opR_add op_dAdd (do_v (de_v (pv 7))) (do_v de_int))) da_n))))))))))
   (dss_c (ds_f pw rfl (di_e (de_v (pv 5))) (dg_v (i := 8) sc_law.nd) (dss_c (ds_v (i := 9) sc_law.nd (de_c d_holds hr tk (da_c (do_v (de_v (pv 2))) (da_c (do_v (de_v (pv 8))) da_n))))
   (dss_1 (ds_i (dt_w (dw_o (dt_n (dt_t (do_v (de_cb call_isi op_dIsI hB.isinstance (da_c (do_v (de_v (pv 9))) (da_c (do_v (de_ty hB.bool)) da_n)))))) (dw_1o (dt_cmp (op_neD hu) op_dNe (do_v (de_v (pv 9))) (do_v (de_c d__law_holds hr tk (da_c (do_v (de_v (pv 3))) (da_c (do_v (de_v (pv 8))) da_n)))) (nomark _))))) (dss_1 (ds_r de_bl)) dss_n))))
   (dss_1 (ds_r (de_cmp (op_eqD hu) op_dEq (do_v (de_v (pv 2))) (do_v (de_v (pv 3))) (nomark _))))))))))))
end
-- levels: D:_law_cell_at=2 D:_law_group=2 D:_law_atom=2 D:_law_condition=3 D:_law_edges=22 D:_law_near=2 I:RestOf=2 I:SelfOf=2 I:NotOf=2 I:AllOf=2 I:GroupOf=2 D:made=23 F:low=0 F:by=0 F:high=0 F:against=0 F:inner=0 M:holds=22 D:holds=24 D:_law_holds=22 D:law=25
/-! ### the end -/
theorem all_mk {P : Program} {w : World} {K : PySem.W.Frag} {h : Heap} {mg : Str → Option Value} {fa : Addr} (hc : LawOk c_law) (X : K.In h) (G : h.Ns mainGlobals mg) (hfa : mg "law" = some (.ref fa)) {f__law_cell_at : Addr} {oc__law_cell_at kV__law_cell_at dc__law_cell_at pm__law_cell_at cd__law_cell_at ct__law_cell_at : Value} {od__law_cell_at an__law_cell_at : Option Addr} {sl__law_cell_at : Array (Option Value)} {f__law_group : Addr} {oc__law_group kV__law_group dc__law_group pm__law_group cd__law_group ct__law_group : Value} {od__law_group an__law_group : Option Addr} {sl__law_group : Array (Option Value)} {f__law_atom : Addr} {oc__law_atom kV__law_atom dc__law_atom pm__law_atom cd__law_atom ct__law_atom : Value} {od__law_atom an__law_atom : Option Addr} {sl__law_atom : Array (Option Value)} {f__law_condition : Addr} {oc__law_condition kV__law_condition dc__law_condition pm__law_condition cd__law_condition ct__law_condition : Value} {od__law_condition an__law_condition : Option Addr} {sl__law_condition : Array (Option Value)} {f__law_edges : Addr} {oc__law_edges kV__law_edges dc__law_edges pm__law_edges cd__law_edges ct__law_edges : Value} {od__law_edges an__law_edges : Option Addr} {sl__law_edges : Array (Option Value)} {f__law_near : Addr} {oc__law_near kV__law_near dc__law_near pm__law_near cd__law_near ct__law_near : Value} {od__law_near an__law_near : Option Addr} {sl__law_near : Array (Option Value)} {f_made : Addr} {oc_made kV_made dc_made pm_made cd_made ct_made : Value} {od_made an_made : Option Addr} {sl_made : Array (Option Value)} {f_Condition_holds : Addr} {oc_Condition_holds kV_Condition_holds dc_Condition_holds pm_Condition_holds cd_Condition_holds ct_Condition_holds : Value} {od_Condition_holds an_Condition_holds : Option Addr} {sl_Condition_holds : Array (Option Value)} {f_RestOf_holds : Addr} {oc_RestOf_holds kV_RestOf_holds dc_RestOf_holds pm_RestOf_holds cd_RestOf_holds ct_RestOf_holds : Value} {od_RestOf_holds an_RestOf_holds : Option Addr} {sl_RestOf_holds : Array (Option Value)} {f_SelfOf_holds : Addr} {oc_SelfOf_holds kV_SelfOf_holds dc_SelfOf_holds pm_SelfOf_holds cd_SelfOf_holds ct_SelfOf_holds : Value} {od_SelfOf_holds an_SelfOf_holds : Option Addr} {sl_SelfOf_holds : Array (Option Value)} {f_NotOf_holds : Addr} {oc_NotOf_holds kV_NotOf_holds dc_NotOf_holds pm_NotOf_holds cd_NotOf_holds ct_NotOf_holds : Value} {od_NotOf_holds an_NotOf_holds : Option Addr} {sl_NotOf_holds : Array (Option Value)} {f_GroupOf_holds : Addr} {oc_GroupOf_holds kV_GroupOf_holds dc_GroupOf_holds pm_GroupOf_holds cd_GroupOf_holds ct_GroupOf_holds : Value} {od_GroupOf_holds an_GroupOf_holds : Option Addr} {sl_GroupOf_holds : Array (Option Value)} {f_AllOf_holds : Addr} {oc_AllOf_holds kV_AllOf_holds dc_AllOf_holds pm_AllOf_holds cd_AllOf_holds ct_AllOf_holds : Value} {od_AllOf_holds an_AllOf_holds : Option Addr} {sl_AllOf_holds : Array (Option Value)} {f_holds : Addr} {oc_holds kV_holds dc_holds pm_holds cd_holds ct_holds : Value} {od_holds an_holds : Option Addr} {sl_holds : Array (Option Value)} {f__law_holds : Addr} {oc__law_holds kV__law_holds dc__law_holds pm__law_holds cd__law_holds ct__law_holds : Value} {od__law_holds an__law_holds : Option Addr} {sl__law_holds : Array (Option Value)} {f_law : Addr} {oc_law kV_law dc_law pm_law cd_law ct_law : Value} {od_law an_law : Option Addr} {sl_law : Array (Option Value)} {f_GroupOf___init__ : Addr} {oc_GroupOf___init__ kV_GroupOf___init__ dc_GroupOf___init__ pm_GroupOf___init__ cd_GroupOf___init__ ct_GroupOf___init__ : Value} {od_GroupOf___init__ an_GroupOf___init__ : Option Addr} {sl_GroupOf___init__ : Array (Option Value)} {f_NotOf___init__ : Addr} {oc_NotOf___init__ kV_NotOf___init__ dc_NotOf___init__ pm_NotOf___init__ cd_NotOf___init__ ct_NotOf___init__ : Value} {od_NotOf___init__ an_NotOf___init__ : Option Addr} {sl_NotOf___init__ : Array (Option Value)} {f_RestOf___init__ : Addr} {oc_RestOf___init__ kV_RestOf___init__ dc_RestOf___init__ pm_RestOf___init__ cd_RestOf___init__ ct_RestOf___init__ : Value} {od_RestOf___init__ an_RestOf___init__ : Option Addr} {sl_RestOf___init__ : Array (Option Value)} {f_SelfOf___init__ : Addr} {oc_SelfOf___init__ kV_SelfOf___init__ dc_SelfOf___init__ pm_SelfOf___init__ cd_SelfOf___init__ ct_SelfOf___init__ : Value} {od_SelfOf___init__ an_SelfOf___init__ : Option Addr} {sl_SelfOf___init__ : Array (Option Value)} {C_AllOf : Addr} {C_Condition : Addr} {C_GroupOf : Addr} {C_NotOf : Addr} {C_RestOf : Addr} {C_SelfOf : Addr}
    (a__law_cell_at : PySem.W.nsIn K mainGlobals "_law_cell_at" = some (some (.ref f__law_cell_at)))
    (l__law_cell_at : K.lookup f__law_cell_at = some ⟨oc__law_cell_at, od__law_cell_at, .func (PySem.W.fnOf "_law_cell_at" "_law_cell_at" (defArgs s__law_cell_at) (defBody s__law_cell_at) (defScope s__law_cell_at) .none kV__law_cell_at dc__law_cell_at pm__law_cell_at an__law_cell_at cd__law_cell_at ct__law_cell_at), sl__law_cell_at⟩)
    (q__law_cell_at : PySem.W.codeIn K cd__law_cell_at "_law_cell_at" = true)
    (k__law_cell_at : PySem.W.keepIn K (.ref f__law_cell_at) = true)
    (a__law_group : PySem.W.nsIn K mainGlobals "_law_group" = some (some (.ref f__law_group)))
    (l__law_group : K.lookup f__law_group = some ⟨oc__law_group, od__law_group, .func (PySem.W.fnOf "_law_group" "_law_group" (defArgs s__law_group) (defBody s__law_group) (defScope s__law_group) .none kV__law_group dc__law_group pm__law_group an__law_group cd__law_group ct__law_group), sl__law_group⟩)
    (q__law_group : PySem.W.codeIn K cd__law_group "_law_group" = true)
    (k__law_group : PySem.W.keepIn K (.ref f__law_group) = true)
    (a__law_atom : PySem.W.nsIn K mainGlobals "_law_atom" = some (some (.ref f__law_atom)))
    (l__law_atom : K.lookup f__law_atom = some ⟨oc__law_atom, od__law_atom, .func (PySem.W.fnOf "_law_atom" "_law_atom" (defArgs s__law_atom) (defBody s__law_atom) (defScope s__law_atom) .none kV__law_atom dc__law_atom pm__law_atom an__law_atom cd__law_atom ct__law_atom), sl__law_atom⟩)
    (q__law_atom : PySem.W.codeIn K cd__law_atom "_law_atom" = true)
    (k__law_atom : PySem.W.keepIn K (.ref f__law_atom) = true)
    (a__law_condition : PySem.W.nsIn K mainGlobals "_law_condition" = some (some (.ref f__law_condition)))
    (l__law_condition : K.lookup f__law_condition = some ⟨oc__law_condition, od__law_condition, .func (PySem.W.fnOf "_law_condition" "_law_condition" (defArgs s__law_condition) (defBody s__law_condition) (defScope s__law_condition) .none kV__law_condition dc__law_condition pm__law_condition an__law_condition cd__law_condition ct__law_condition), sl__law_condition⟩)
    (q__law_condition : PySem.W.codeIn K cd__law_condition "_law_condition" = true)
    (k__law_condition : PySem.W.keepIn K (.ref f__law_condition) = true)
    (a__law_edges : PySem.W.nsIn K mainGlobals "_law_edges" = some (some (.ref f__law_edges)))
    (l__law_edges : K.lookup f__law_edges = some ⟨oc__law_edges, od__law_edges, .func (PySem.W.fnOf "_law_edges" "_law_edges" (defArgs s__law_edges) (defBody s__law_edges) (defScope s__law_edges) .none kV__law_edges dc__law_edges pm__law_edges an__law_edges cd__law_edges ct__law_edges), sl__law_edges⟩)
    (q__law_edges : PySem.W.codeIn K cd__law_edges "_law_edges" = true)
    (k__law_edges : PySem.W.keepIn K (.ref f__law_edges) = true)
    (a__law_near : PySem.W.nsIn K mainGlobals "_law_near" = some (some (.ref f__law_near)))
    (l__law_near : K.lookup f__law_near = some ⟨oc__law_near, od__law_near, .func (PySem.W.fnOf "_law_near" "_law_near" (defArgs s__law_near) (defBody s__law_near) (defScope s__law_near) .none kV__law_near dc__law_near pm__law_near an__law_near cd__law_near ct__law_near), sl__law_near⟩)
    (q__law_near : PySem.W.codeIn K cd__law_near "_law_near" = true)
    (k__law_near : PySem.W.keepIn K (.ref f__law_near) = true)
    (a_made : PySem.W.nsIn K mainGlobals "made" = some (some (.ref f_made)))
    (l_made : K.lookup f_made = some ⟨oc_made, od_made, .func (PySem.W.fnOf "made" "made" (defArgs s_made) (defBody s_made) (defScope s_made) .none kV_made dc_made pm_made an_made cd_made ct_made), sl_made⟩)
    (q_made : PySem.W.codeIn K cd_made "made" = true)
    (k_made : PySem.W.keepIn K (.ref f_made) = true)
    (a_holds : PySem.W.nsIn K mainGlobals "holds" = some (some (.ref f_holds)))
    (l_holds : K.lookup f_holds = some ⟨oc_holds, od_holds, .func (PySem.W.fnOf "holds" "holds" (defArgs s_holds) (defBody s_holds) (defScope s_holds) .none kV_holds dc_holds pm_holds an_holds cd_holds ct_holds), sl_holds⟩)
    (q_holds : PySem.W.codeIn K cd_holds "holds" = true)
    (k_holds : PySem.W.keepIn K (.ref f_holds) = true)
    (a__law_holds : PySem.W.nsIn K mainGlobals "_law_holds" = some (some (.ref f__law_holds)))
    (l__law_holds : K.lookup f__law_holds = some ⟨oc__law_holds, od__law_holds, .func (PySem.W.fnOf "_law_holds" "_law_holds" (defArgs s__law_holds) (defBody s__law_holds) (defScope s__law_holds) .none kV__law_holds dc__law_holds pm__law_holds an__law_holds cd__law_holds ct__law_holds), sl__law_holds⟩)
    (q__law_holds : PySem.W.codeIn K cd__law_holds "_law_holds" = true)
    (k__law_holds : PySem.W.keepIn K (.ref f__law_holds) = true)
    (a_law : PySem.W.nsIn K mainGlobals "law" = some (some (.ref f_law)))
    (l_law : K.lookup f_law = some ⟨oc_law, od_law, .func (PySem.W.fnOf "law" "law" (defArgs s_law) (defBody s_law) (defScope s_law) .none kV_law dc_law pm_law an_law cd_law ct_law), sl_law⟩)
    (q_law : PySem.W.codeIn K cd_law "law" = true)
    (k_law : PySem.W.keepIn K (.ref f_law) = true)
    (aC_AllOf : PySem.W.nsIn K mainGlobals "AllOf" = some (some (.ref C_AllOf)))
    (pg_AllOf : PySem.W.plainGet K C_AllOf Str.empty = true)
    (hd_AllOf : PySem.W.hasDictIn K C_AllOf = true)
    (po_AllOf : PySem.W.plainOver K C_AllOf = true)
    (sa_AllOf : PySem.W.findIn K (.ref C_AllOf) "__setattr__" = some (some (.builtin "object.__setattr__")))
    (nf_AllOf_inner : PySem.W.findIn K (.ref C_AllOf) "inner" = some none)
    (mt_AllOf_holds : PySem.W.findIn K (.ref C_AllOf) "holds" = some (some (.ref f_AllOf_holds)))
    (mk_AllOf : PySem.W.makesIn K C_AllOf = true)
    (in_AllOf : PySem.W.findIn K (.ref C_AllOf) "__init__" = some (some (.ref f_GroupOf___init__)))
    (kc_AllOf : PySem.W.keepIn K (.ref C_AllOf) = true)
    (aC_Condition : PySem.W.nsIn K mainGlobals "Condition" = some (some (.ref C_Condition)))
    (pg_Condition : PySem.W.plainGet K C_Condition Str.empty = true)
    (hd_Condition : PySem.W.hasDictIn K C_Condition = true)
    (po_Condition : PySem.W.plainOver K C_Condition = true)
    (sa_Condition : PySem.W.findIn K (.ref C_Condition) "__setattr__" = some (some (.builtin "object.__setattr__")))
    (mt_Condition_holds : PySem.W.findIn K (.ref C_Condition) "holds" = some (some (.ref f_Condition_holds)))
    (aC_GroupOf : PySem.W.nsIn K mainGlobals "GroupOf" = some (some (.ref C_GroupOf)))
    (pg_GroupOf : PySem.W.plainGet K C_GroupOf Str.empty = true)
    (hd_GroupOf : PySem.W.hasDictIn K C_GroupOf = true)
    (po_GroupOf : PySem.W.plainOver K C_GroupOf = true)
    (sa_GroupOf : PySem.W.findIn K (.ref C_GroupOf) "__setattr__" = some (some (.builtin "object.__setattr__")))
    (nf_GroupOf_inner : PySem.W.findIn K (.ref C_GroupOf) "inner" = some none)
    (mt_GroupOf_holds : PySem.W.findIn K (.ref C_GroupOf) "holds" = some (some (.ref f_GroupOf_holds)))
    (mk_GroupOf : PySem.W.makesIn K C_GroupOf = true)
    (in_GroupOf : PySem.W.findIn K (.ref C_GroupOf) "__init__" = some (some (.ref f_GroupOf___init__)))
    (kc_GroupOf : PySem.W.keepIn K (.ref C_GroupOf) = true)
    (aC_NotOf : PySem.W.nsIn K mainGlobals "NotOf" = some (some (.ref C_NotOf)))
    (pg_NotOf : PySem.W.plainGet K C_NotOf Str.empty = true)
    (hd_NotOf : PySem.W.hasDictIn K C_NotOf = true)
    (po_NotOf : PySem.W.plainOver K C_NotOf = true)
    (sa_NotOf : PySem.W.findIn K (.ref C_NotOf) "__setattr__" = some (some (.builtin "object.__setattr__")))
    (nf_NotOf_against : PySem.W.findIn K (.ref C_NotOf) "against" = some none)
    (mt_NotOf_holds : PySem.W.findIn K (.ref C_NotOf) "holds" = some (some (.ref f_NotOf_holds)))
    (mk_NotOf : PySem.W.makesIn K C_NotOf = true)
    (in_NotOf : PySem.W.findIn K (.ref C_NotOf) "__init__" = some (some (.ref f_NotOf___init__)))
    (kc_NotOf : PySem.W.keepIn K (.ref C_NotOf) = true)
    (aC_RestOf : PySem.W.nsIn K mainGlobals "RestOf" = some (some (.ref C_RestOf)))
    (pg_RestOf : PySem.W.plainGet K C_RestOf Str.empty = true)
    (hd_RestOf : PySem.W.hasDictIn K C_RestOf = true)
    (po_RestOf : PySem.W.plainOver K C_RestOf = true)
    (sa_RestOf : PySem.W.findIn K (.ref C_RestOf) "__setattr__" = some (some (.builtin "object.__setattr__")))
    (nf_RestOf_by : PySem.W.findIn K (.ref C_RestOf) "by" = some none)
    (nf_RestOf_high : PySem.W.findIn K (.ref C_RestOf) "high" = some none)
    (nf_RestOf_low : PySem.W.findIn K (.ref C_RestOf) "low" = some none)
    (mt_RestOf_holds : PySem.W.findIn K (.ref C_RestOf) "holds" = some (some (.ref f_RestOf_holds)))
    (mk_RestOf : PySem.W.makesIn K C_RestOf = true)
    (in_RestOf : PySem.W.findIn K (.ref C_RestOf) "__init__" = some (some (.ref f_RestOf___init__)))
    (kc_RestOf : PySem.W.keepIn K (.ref C_RestOf) = true)
    (aC_SelfOf : PySem.W.nsIn K mainGlobals "SelfOf" = some (some (.ref C_SelfOf)))
    (pg_SelfOf : PySem.W.plainGet K C_SelfOf Str.empty = true)
    (hd_SelfOf : PySem.W.hasDictIn K C_SelfOf = true)
    (po_SelfOf : PySem.W.plainOver K C_SelfOf = true)
    (sa_SelfOf : PySem.W.findIn K (.ref C_SelfOf) "__setattr__" = some (some (.builtin "object.__setattr__")))
    (nf_SelfOf_high : PySem.W.findIn K (.ref C_SelfOf) "high" = some none)
    (nf_SelfOf_low : PySem.W.findIn K (.ref C_SelfOf) "low" = some none)
    (mt_SelfOf_holds : PySem.W.findIn K (.ref C_SelfOf) "holds" = some (some (.ref f_SelfOf_holds)))
    (mk_SelfOf : PySem.W.makesIn K C_SelfOf = true)
    (in_SelfOf : PySem.W.findIn K (.ref C_SelfOf) "__init__" = some (some (.ref f_SelfOf___init__)))
    (kc_SelfOf : PySem.W.keepIn K (.ref C_SelfOf) = true)
    (i_Condition_holds : PySem.W.isFn K (.ref f_Condition_holds) = true)
    (l_Condition_holds : K.lookup f_Condition_holds = some ⟨oc_Condition_holds, od_Condition_holds, .func (PySem.W.fnOf "holds" "Condition.holds" (defArgs s_Condition_holds) (defBody s_Condition_holds) (defScope s_Condition_holds) .none kV_Condition_holds dc_Condition_holds pm_Condition_holds an_Condition_holds cd_Condition_holds ct_Condition_holds), sl_Condition_holds⟩)
    (q_Condition_holds : PySem.W.codeIn K cd_Condition_holds "Condition.holds" = true)
    (k_Condition_holds : PySem.W.keepIn K (.ref f_Condition_holds) = true)
    (i_RestOf_holds : PySem.W.isFn K (.ref f_RestOf_holds) = true)
    (l_RestOf_holds : K.lookup f_RestOf_holds = some ⟨oc_RestOf_holds, od_RestOf_holds, .func (PySem.W.fnOf "holds" "RestOf.holds" (defArgs s_RestOf_holds) (defBody s_RestOf_holds) (defScope s_RestOf_holds) .none kV_RestOf_holds dc_RestOf_holds pm_RestOf_holds an_RestOf_holds cd_RestOf_holds ct_RestOf_holds), sl_RestOf_holds⟩)
    (q_RestOf_holds : PySem.W.codeIn K cd_RestOf_holds "RestOf.holds" = true)
    (k_RestOf_holds : PySem.W.keepIn K (.ref f_RestOf_holds) = true)
    (i_SelfOf_holds : PySem.W.isFn K (.ref f_SelfOf_holds) = true)
    (l_SelfOf_holds : K.lookup f_SelfOf_holds = some ⟨oc_SelfOf_holds, od_SelfOf_holds, .func (PySem.W.fnOf "holds" "SelfOf.holds" (defArgs s_SelfOf_holds) (defBody s_SelfOf_holds) (defScope s_SelfOf_holds) .none kV_SelfOf_holds dc_SelfOf_holds pm_SelfOf_holds an_SelfOf_holds cd_SelfOf_holds ct_SelfOf_holds), sl_SelfOf_holds⟩)
    (q_SelfOf_holds : PySem.W.codeIn K cd_SelfOf_holds "SelfOf.holds" = true)
    (k_SelfOf_holds : PySem.W.keepIn K (.ref f_SelfOf_holds) = true)
    (i_NotOf_holds : PySem.W.isFn K (.ref f_NotOf_holds) = true)
    (l_NotOf_holds : K.lookup f_NotOf_holds = some ⟨oc_NotOf_holds, od_NotOf_holds, .func (PySem.W.fnOf "holds" "NotOf.holds" (defArgs s_NotOf_holds) (defBody s_NotOf_holds) (defScope s_NotOf_holds) .none kV_NotOf_holds dc_NotOf_holds pm_NotOf_holds an_NotOf_holds cd_NotOf_holds ct_NotOf_holds), sl_NotOf_holds⟩)
    (q_NotOf_holds : PySem.W.codeIn K cd_NotOf_holds "NotOf.holds" = true)
    (k_NotOf_holds : PySem.W.keepIn K (.ref f_NotOf_holds) = true)
    (i_GroupOf_holds : PySem.W.isFn K (.ref f_GroupOf_holds) = true)
    (l_GroupOf_holds : K.lookup f_GroupOf_holds = some ⟨oc_GroupOf_holds, od_GroupOf_holds, .func (PySem.W.fnOf "holds" "GroupOf.holds" (defArgs s_GroupOf_holds) (defBody s_GroupOf_holds) (defScope s_GroupOf_holds) .none kV_GroupOf_holds dc_GroupOf_holds pm_GroupOf_holds an_GroupOf_holds cd_GroupOf_holds ct_GroupOf_holds), sl_GroupOf_holds⟩)
    (q_GroupOf_holds : PySem.W.codeIn K cd_GroupOf_holds "GroupOf.holds" = true)
    (k_GroupOf_holds : PySem.W.keepIn K (.ref f_GroupOf_holds) = true)
    (i_AllOf_holds : PySem.W.isFn K (.ref f_AllOf_holds) = true)
    (l_AllOf_holds : K.lookup f_AllOf_holds = some ⟨oc_AllOf_holds, od_AllOf_holds, .func (PySem.W.fnOf "holds" "AllOf.holds" (defArgs s_AllOf_holds) (defBody s_AllOf_holds) (defScope s_AllOf_holds) .none kV_AllOf_holds dc_AllOf_holds pm_AllOf_holds an_AllOf_holds cd_AllOf_holds ct_AllOf_holds), sl_AllOf_holds⟩)
    (q_AllOf_holds : PySem.W.codeIn K cd_AllOf_holds "AllOf.holds" = true)
    (k_AllOf_holds : PySem.W.keepIn K (.ref f_AllOf_holds) = true)
    (i_GroupOf___init__ : PySem.W.isFn K (.ref f_GroupOf___init__) = true)
    (l_GroupOf___init__ : K.lookup f_GroupOf___init__ = some ⟨oc_GroupOf___init__, od_GroupOf___init__, .func (PySem.W.fnOf "__init__" "GroupOf.__init__" (defArgs s_GroupOf___init__) (defBody s_GroupOf___init__) (defScope s_GroupOf___init__) .none kV_GroupOf___init__ dc_GroupOf___init__ pm_GroupOf___init__ an_GroupOf___init__ cd_GroupOf___init__ ct_GroupOf___init__), sl_GroupOf___init__⟩)
    (q_GroupOf___init__ : PySem.W.codeIn K cd_GroupOf___init__ "GroupOf.__init__" = true)
    (k_GroupOf___init__ : PySem.W.keepIn K (.ref f_GroupOf___init__) = true)
    (i_NotOf___init__ : PySem.W.isFn K (.ref f_NotOf___init__) = true)
    (l_NotOf___init__ : K.lookup f_NotOf___init__ = some ⟨oc_NotOf___init__, od_NotOf___init__, .func (PySem.W.fnOf "__init__" "NotOf.__init__" (defArgs s_NotOf___init__) (defBody s_NotOf___init__) (defScope s_NotOf___init__) .none kV_NotOf___init__ dc_NotOf___init__ pm_NotOf___init__ an_NotOf___init__ cd_NotOf___init__ ct_NotOf___init__), sl_NotOf___init__⟩)
    (q_NotOf___init__ : PySem.W.codeIn K cd_NotOf___init__ "NotOf.__init__" = true)
    (k_NotOf___init__ : PySem.W.keepIn K (.ref f_NotOf___init__) = true)
    (i_RestOf___init__ : PySem.W.isFn K (.ref f_RestOf___init__) = true)
    (l_RestOf___init__ : K.lookup f_RestOf___init__ = some ⟨oc_RestOf___init__, od_RestOf___init__, .func (PySem.W.fnOf "__init__" "RestOf.__init__" (defArgs s_RestOf___init__) (defBody s_RestOf___init__) (defScope s_RestOf___init__) .none kV_RestOf___init__ dc_RestOf___init__ pm_RestOf___init__ an_RestOf___init__ cd_RestOf___init__ ct_RestOf___init__), sl_RestOf___init__⟩)
    (q_RestOf___init__ : PySem.W.codeIn K cd_RestOf___init__ "RestOf.__init__" = true)
    (k_RestOf___init__ : PySem.W.keepIn K (.ref f_RestOf___init__) = true)
    (i_SelfOf___init__ : PySem.W.isFn K (.ref f_SelfOf___init__) = true)
    (l_SelfOf___init__ : K.lookup f_SelfOf___init__ = some ⟨oc_SelfOf___init__, od_SelfOf___init__, .func (PySem.W.fnOf "__init__" "SelfOf.__init__" (defArgs s_SelfOf___init__) (defBody s_SelfOf___init__) (defScope s_SelfOf___init__) .none kV_SelfOf___init__ dc_SelfOf___init__ pm_SelfOf___init__ an_SelfOf___init__ cd_SelfOf___init__ ct_SelfOf___init__), sl_SelfOf___init__⟩)
    (q_SelfOf___init__ : PySem.W.codeIn K cd_SelfOf___init__ "SelfOf.__init__" = true)
    (k_SelfOf___init__ : PySem.W.keepIn K (.ref f_SelfOf___init__) = true)
    (z_len : PySem.W.nsIn K mainGlobals "len" = some none)
    (z_isinstance : PySem.W.nsIn K mainGlobals "isinstance" = some none)
    (z_str : PySem.W.nsIn K mainGlobals "str" = some none)
    (z_int : PySem.W.nsIn K mainGlobals "int" = some none)
    (z_bool : PySem.W.nsIn K mainGlobals "bool" = some none)
    (z_list : PySem.W.nsIn K mainGlobals "list" = some none)
    (z_tuple : PySem.W.nsIn K mainGlobals "tuple" = some none)
    (z_dict : PySem.W.nsIn K mainGlobals "dict" = some none)
    (z_set : PySem.W.nsIn K mainGlobals "set" = some none)
    (z_range : PySem.W.nsIn K mainGlobals "range" = some none)
    (z_enumerate : PySem.W.nsIn K mainGlobals "enumerate" = some none)
    (z_zip : PySem.W.nsIn K mainGlobals "zip" = some none)
    (z_reversed : PySem.W.nsIn K mainGlobals "reversed" = some none)
    (z_sorted : PySem.W.nsIn K mainGlobals "sorted" = some none)
    (z_sum : PySem.W.nsIn K mainGlobals "sum" = some none)
    (z_all : PySem.W.nsIn K mainGlobals "all" = some none)
    (z_any : PySem.W.nsIn K mainGlobals "any" = some none)
    (z_abs : PySem.W.nsIn K mainGlobals "abs" = some none)
    (z_max : PySem.W.nsIn K mainGlobals "max" = some none)
    (z_min : PySem.W.nsIn K mainGlobals "min" = some none)
    (z_ord : PySem.W.nsIn K mainGlobals "ord" = some none)
    (z_divmod : PySem.W.nsIn K mainGlobals "divmod" = some none)
    (z_repr : PySem.W.nsIn K mainGlobals "repr" = some none) :
    ∃ fd : FuncData, (∀ (s : Shared) (v : Value), BindsTo s fd ⟨[v], []⟩ [("_law_script", v)]) ∧ ∀ base : Heap, K.In base → base.Ns mainGlobals mg → FnOk P w K mg base (L2.CX P w) 25 fa fd ["_law_script"] (spLaw K) := by
  have e := hfa.symm.trans (PySem.W.mg_of X G a_law)
  cases e
  have hB : Bl mg := ⟨PySem.W.mg_none_of X G z_len, PySem.W.mg_none_of X G z_isinstance, PySem.W.mg_none_of X G z_str, PySem.W.mg_none_of X G z_int, PySem.W.mg_none_of X G z_bool, PySem.W.mg_none_of X G z_list, PySem.W.mg_none_of X G z_tuple, PySem.W.mg_none_of X G z_dict, PySem.W.mg_none_of X G z_set, PySem.W.mg_none_of X G z_range, PySem.W.mg_none_of X G z_enumerate, PySem.W.mg_none_of X G z_zip, PySem.W.mg_none_of X G z_reversed, PySem.W.mg_none_of X G z_sorted, PySem.W.mg_none_of X G z_sum, PySem.W.mg_none_of X G z_all, PySem.W.mg_none_of X G z_any, PySem.W.mg_none_of X G z_abs, PySem.W.mg_none_of X G z_max, PySem.W.mg_none_of X G z_min, PySem.W.mg_none_of X G z_ord, PySem.W.mg_none_of X G z_divmod, PySem.W.mg_none_of X G z_repr⟩
  have F__law_cell_at := fun_mk (st := s__law_cell_at) l__law_cell_at q__law_cell_at k__law_cell_at
  have F__law_group := fun_mk (st := s__law_group) l__law_group q__law_group k__law_group
  have F__law_atom := fun_mk (st := s__law_atom) l__law_atom q__law_atom k__law_atom
  have F__law_condition := fun_mk (st := s__law_condition) l__law_condition q__law_condition k__law_condition
  have F__law_edges := fun_mk (st := s__law_edges) l__law_edges q__law_edges k__law_edges
  have F__law_near := fun_mk (st := s__law_near) l__law_near q__law_near k__law_near
  have F_made := fun_mk (st := s_made) l_made q_made k_made
  have F_Condition_holds := fun_mk (st := s_Condition_holds) l_Condition_holds q_Condition_holds k_Condition_holds
  have F_RestOf_holds := fun_mk (st := s_RestOf_holds) l_RestOf_holds q_RestOf_holds k_RestOf_holds
  have F_SelfOf_holds := fun_mk (st := s_SelfOf_holds) l_SelfOf_holds q_SelfOf_holds k_SelfOf_holds
  have F_NotOf_holds := fun_mk (st := s_NotOf_holds) l_NotOf_holds q_NotOf_holds k_NotOf_holds
  have F_GroupOf_holds := fun_mk (st := s_GroupOf_holds) l_GroupOf_holds q_GroupOf_holds k_GroupOf_holds
  have F_AllOf_holds := fun_mk (st := s_AllOf_holds) l_AllOf_holds q_AllOf_holds k_AllOf_holds
  have F_holds := fun_mk (st := s_holds) l_holds q_holds k_holds
  have F__law_holds := fun_mk (st := s__law_holds) l__law_holds q__law_holds k__law_holds
  have F_law := fun_mk (st := s_law) l_law q_law k_law
  have F_GroupOf___init__ := fun_mk (st := s_GroupOf___init__) l_GroupOf___init__ q_GroupOf___init__ k_GroupOf___init__
  have F_NotOf___init__ := fun_mk (st := s_NotOf___init__) l_NotOf___init__ q_NotOf___init__ k_NotOf___init__
  have F_RestOf___init__ := fun_mk (st := s_RestOf___init__) l_RestOf___init__ q_RestOf___init__ k_RestOf___init__
  have F_SelfOf___init__ := fun_mk (st := s_SelfOf___init__) l_SelfOf___init__ q_SelfOf___init__ k_SelfOf___init__
  have hC_AllOf : mg (nmS 280991911782) = some (.ref C_AllOf) := by rw [show nmS 280991911782 = "AllOf" from by decide +kernel]; exact PySem.W.mg_of X G aC_AllOf
  have cl_AllOf : Cls K C_AllOf := ⟨pg_AllOf, hd_AllOf, po_AllOf, sa_AllOf⟩
  have hC_Condition : mg (nmS 1243961318528275541870) = some (.ref C_Condition) := by rw [show nmS 1243961318528275541870 = "Condition" from by decide +kernel]; exact PySem.W.mg_of X G aC_Condition
  have cl_Condition : Cls K C_Condition := ⟨pg_Condition, hd_Condition, po_Condition, sa_Condition⟩
  have hC_GroupOf : mg (nmS 20110546383687526) = some (.ref C_GroupOf) := by rw [show nmS 20110546383687526 = "GroupOf" from by decide +kernel]; exact PySem.W.mg_of X G aC_GroupOf
  have cl_GroupOf : Cls K C_GroupOf := ⟨pg_GroupOf, hd_GroupOf, po_GroupOf, sa_GroupOf⟩
  have hC_NotOf : mg (nmS 336877342566) = some (.ref C_NotOf) := by rw [show nmS 336877342566 = "NotOf" from by decide +kernel]; exact PySem.W.mg_of X G aC_NotOf
  have cl_NotOf : Cls K C_NotOf := ⟨pg_NotOf, hd_NotOf, po_NotOf, sa_NotOf⟩
  have hC_RestOf : mg (nmS 90595682176870) = some (.ref C_RestOf) := by rw [show nmS 90595682176870 = "RestOf" from by decide +kernel]; exact PySem.W.mg_of X G aC_RestOf
  have cl_RestOf : Cls K C_RestOf := ⟨pg_RestOf, hd_RestOf, po_RestOf, sa_RestOf⟩
  have hC_SelfOf : mg (nmS 91695075446630) = some (.ref C_SelfOf) := by rw [show nmS 91695075446630 = "SelfOf" from by decide +kernel]; exact PySem.W.mg_of X G aC_SelfOf
  have cl_SelfOf : Cls K C_SelfOf := ⟨pg_SelfOf, hd_SelfOf, po_SelfOf, sa_SelfOf⟩
  refine ⟨PySem.W.fnOf "law" "law" (defArgs s_law) (defBody s_law) (defScope s_law) .none kV_law dc_law pm_law an_law cd_law ct_law, fun s v => .of_eq rfl, fun base _ _ => ?_⟩
  have hF_low : ClsF K mg [90595682176870, 91695075446630] "low" := (.cons hC_RestOf cl_RestOf nf_RestOf_low (.cons hC_SelfOf cl_SelfOf nf_SelfOf_low .nil))
  have hF_by : ClsF K mg [90595682176870] "by" := (.cons hC_RestOf cl_RestOf nf_RestOf_by .nil)
  have hF_high : ClsF K mg [90595682176870, 91695075446630] "high" := (.cons hC_RestOf cl_RestOf nf_RestOf_high (.cons hC_SelfOf cl_SelfOf nf_SelfOf_high .nil))
  have hF_against : ClsF K mg [336877342566] "against" := (.cons hC_NotOf cl_NotOf nf_NotOf_against .nil)
  have hF_inner : ClsF K mg [20110546383687526, 280991911782] "inner" := (.cons hC_GroupOf cl_GroupOf nf_GroupOf_inner (.cons hC_AllOf cl_AllOf nf_AllOf_inner .nil))
  have dI_RestOf : IDef P w K mg base 1 "RestOf" 90595682176870 [25209, 7106423, 1751738216] := ⟨C_RestOf, f_RestOf___init__, _, ["self", "by", "low", "high"], PySem.W.mg_of X G aC_RestOf, by decide +kernel, ⟨mk_RestOf, in_RestOf, i_RestOf___init__, kc_RestOf⟩, oki_RestOf F_RestOf___init__ cl_RestOf nf_RestOf_by nf_RestOf_low nf_RestOf_high, F_RestOf___init__.binds (ps := ["self", "by", "low", "high"]) fun _ _ _ _ _ _ us hl => match us, hl with | [_, _, _, _], _ => rfl, by decide +kernel⟩
  have dI_SelfOf : IDef P w K mg base 1 "SelfOf" 91695075446630 [7106423, 1751738216] := ⟨C_SelfOf, f_SelfOf___init__, _, ["self", "low", "high"], PySem.W.mg_of X G aC_SelfOf, by decide +kernel, ⟨mk_SelfOf, in_SelfOf, i_SelfOf___init__, kc_SelfOf⟩, oki_SelfOf F_SelfOf___init__ cl_SelfOf nf_SelfOf_low nf_SelfOf_high, F_SelfOf___init__.binds (ps := ["self", "low", "high"]) fun _ _ _ _ _ _ us hl => match us, hl with | [_, _, _], _ => rfl, by decide +kernel⟩
  have dI_NotOf : IDef P w K mg base 1 "NotOf" 336877342566 [27416740819268468] := ⟨C_NotOf, f_NotOf___init__, _, ["self", "against"], PySem.W.mg_of X G aC_NotOf, by decide +kernel, ⟨mk_NotOf, in_NotOf, i_NotOf___init__, kc_NotOf⟩, oki_NotOf F_NotOf___init__ cl_NotOf nf_NotOf_against, F_NotOf___init__.binds (ps := ["self", "against"]) fun _ _ _ _ _ _ us hl => match us, hl with | [_, _], _ => rfl, by decide +kernel⟩
  have dI_AllOf : IDef P w K mg base 1 "AllOf" 280991911782 [452824294770] := ⟨C_AllOf, f_GroupOf___init__, _, ["self", "inner"], PySem.W.mg_of X G aC_AllOf, by decide +kernel, ⟨mk_AllOf, in_AllOf, i_GroupOf___init__, kc_AllOf⟩, oki_GroupOf F_GroupOf___init__ cl_AllOf nf_AllOf_inner, F_GroupOf___init__.binds (ps := ["self", "inner"]) fun _ _ _ _ _ _ us hl => match us, hl with | [_, _], _ => rfl, by decide +kernel⟩
  have dI_GroupOf : IDef P w K mg base 1 "GroupOf" 20110546383687526 [452824294770] := ⟨C_GroupOf, f_GroupOf___init__, _, ["self", "inner"], PySem.W.mg_of X G aC_GroupOf, by decide +kernel, ⟨mk_GroupOf, in_GroupOf, i_GroupOf___init__, kc_GroupOf⟩, oki_GroupOf F_GroupOf___init__ cl_GroupOf nf_GroupOf_inner, F_GroupOf___init__.binds (ps := ["self", "inner"]) fun _ _ _ _ _ _ us hl => match us, hl with | [_, _], _ => rfl, by decide +kernel⟩
  have d__law_cell_at : Def P w K mg base 2 "_law_cell_at" 2 c__law_cell_at := ok__law_cell_at hB F__law_cell_at (PySem.W.mg_of X G a__law_cell_at)
  have d__law_group : DefO P w K mg base 2 "_law_group" 3 c__law_group := ok__law_group hB F__law_group (PySem.W.mg_of X G a__law_group)
  have d__law_atom : Def P w K mg base 2 "_law_atom" 1 c__law_atom := ok__law_atom hB F__law_atom (PySem.W.mg_of X G a__law_atom)
  have d__law_condition : Def P w K mg base 3 "_law_condition" 2 c__law_condition := ok__law_condition hB F__law_condition (PySem.W.mg_of X G a__law_condition) d__law_group d__law_atom
  have d__law_edges : Def P w K mg base 22 "_law_edges" 1 (c__law_edges 20) := ok__law_edges hB F__law_edges (PySem.W.mg_of X G a__law_edges) 20
  have d__law_near : Def P w K mg base 2 "_law_near" 2 c__law_near := ok__law_near hB F__law_near (PySem.W.mg_of X G a__law_near)
  have d_made : Def P w K mg base 23 "made" 1 (c_made 20) := ok_made hB F_made (PySem.W.mg_of X G a_made) dI_RestOf dI_SelfOf dI_NotOf dI_AllOf dI_GroupOf 20
  have dM_holds : MDef P w K mg base 22 "holds" 2 [1243961318528275541870, 90595682176870, 91695075446630, 336877342566, 20110546383687526, 280991911782] (t_holds 20) := okm_holds hB hF_low hF_by hF_high hF_against hF_inner F_Condition_holds F_RestOf_holds F_SelfOf_holds F_NotOf_holds F_GroupOf_holds F_AllOf_holds hC_Condition cl_Condition ⟨mt_Condition_holds, i_Condition_holds, k_Condition_holds⟩ hC_RestOf cl_RestOf ⟨mt_RestOf_holds, i_RestOf_holds, k_RestOf_holds⟩ hC_SelfOf cl_SelfOf ⟨mt_SelfOf_holds, i_SelfOf_holds, k_SelfOf_holds⟩ hC_NotOf cl_NotOf ⟨mt_NotOf_holds, i_NotOf_holds, k_NotOf_holds⟩ hC_GroupOf cl_GroupOf ⟨mt_GroupOf_holds, i_GroupOf_holds, k_GroupOf_holds⟩ hC_AllOf cl_AllOf ⟨mt_AllOf_holds, i_AllOf_holds, k_AllOf_holds⟩ 20
  have d_holds : Def P w K mg base 24 "holds" 2 c_holds := ok_holds hB F_holds (PySem.W.mg_of X G a_holds) d_made dM_holds
  have d__law_holds : Def P w K mg base 22 "_law_holds" 2 (c__law_holds 20) := ok__law_holds hB F__law_holds (PySem.W.mg_of X G a__law_holds) 20
  exact law_imp hc (ok_law hB F_law d__law_cell_at d__law_condition d__law_edges d__law_near d_holds d__law_holds)
end M

namespace M
open PySem PySem.Spec PyProof.Rows L2 DL
theorem wAO_ne (t : Bool) : wAO t ≠ w_rest ∧ wAO t ≠ w_self ∧ wAO t ≠ w_not := by cases t <;> decide
theorem made_ok : ∀ (k : Nat) (c : Cd), c.ok → c.dep < k → ∀ st, c_made k [c.d] st = .ok c.o [] st
  | 0, _, _, h, _ => by omega
  | k + 1, .rest m a b, _, _, st => by simp (disch := first | omega | (simp; done) | (simp; omega)) [c_made, runB_a, b_made, Cd.d, Cd.o]
  | k + 1, .self a b, _, _, st => by simp (disch := first | omega | (simp; done) | (simp; omega)) [c_made, runB_a, b_made, Cd.d, Cd.o]
  | k + 1, .not c, ho, h, st => by
    have e := made_ok k c (by simpa [Cd.ok] using ho) (by rw [Cd.dep] at h; omega) st
    simp (disch := first | omega | (simp; done) | (simp; omega)) [c_made, runB_a, b_made, Cd.d, Cd.o, e]
  | k + 1, .grp t cs, ho, h, st => by
    rw [Cd.ok] at ho
    rw [Cd.dep] at h
    obtain ⟨hl, ho⟩ := ho
    obtain ⟨n1, n2, n3⟩ := wAO_ne t
    have key := lcL_mapF (g := gV 3) (own := [3]) (f := E_made_1 (c_made k)) (S := [.d (Cd.grp t cs).d, .d (.str (wAO t)), .no, .no]) (st := st) Cd.d Cd.o cs (fun c hc => by
      have e := made_ok k c (Cd.oks_mem ho c hc) (by have := Cd.dep_le hc; omega) st
      exact ⟨_, _, rfl, by simp [E_made_1, e] <;> rfl, by simp⟩)
    rw [Cd.d, Cd.ds_eq] at key ⊢
    rw [Cd.o, Cd.os_eq]
    have hl2 : cs.length ≤ 16777216 := by omega
    cases t with
    | true =>
      simp only [wAO, if_true] at key n1 n2 n3 ⊢
      simp (disch := first | omega | (simp; done) | (simp; omega)) [c_made, runB_a, b_made, key, hl2]
    | false =>
      simp only [wAO, Bool.false_eq_true, if_false] at key n1 n2 n3 ⊢
      simp (disch := first | omega | (simp; done) | (simp; omega)) [c_made, runB_a, b_made, key, hl2]
theorem cls_in (c : Cd) : clsN c = 90595682176870 ∨ clsN c = 91695075446630 ∨ clsN c = 336877342566 ∨ clsN c = 20110546383687526 ∨ clsN c = 280991911782 := by
  cases c with
  | grp t _ => cases t <;> simp [clsN]
  | _ => simp [clsN]
/-- an object of the class, without a field of that name -/
theorem obj_form (c : Cd) : ∃ es, c.o = .obj (clsN c) es ∧ es.lookup 448545973363 = none := by
  cases c with
  | grp t cs => cases t <;> exact ⟨_, rfl, by simp⟩
  | rest m a b => exact ⟨_, rfl, by simp⟩
  | self a b => exact ⟨_, rfl, by simp⟩
  | not c => exact ⟨_, rfl, by simp⟩
theorem mc_holds {S : Sls} {st : Store} {tab : Nat → CallT} {fo : Ev D} {fa : Ev (List Opd)} {c : Cd} (h : fo S st = .ok c.o S st) : mcE [1243961318528275541870, 90595682176870, 91695075446630, 336877342566, 20110546383687526, 280991911782] 448545973363 tab fo fa S st = (fa S st).bind fun a S st => match vds S a with
      | some ds => match tab (clsN c) (c.o :: ds) st with
        | .ok d _ st => .ok d S st
        | .exc x _ st => .exc x S st
        | .stuck => .stuck
      | none => .stuck := by
  obtain ⟨es, e, hl⟩ := obj_form c
  rw [mcE_a, h, Res.bind_ok, e]
  simp only []
  rw [if_pos ⟨by rcases cls_in c with z | z | z | z | z <;> rw [z] <;> simp, hl⟩]
  try rfl
theorem holdsM_ok : ∀ (k : Nat) (c : Cd), c.ok → c.dep < k → ∀ (n : Int) (st : Store), t_holds k (clsN c) [c.o, .int n] st = .ok (.bl (c.hd n)) [] st
  | 0, _, _, h, _, _ => by omega
  | k + 1, .rest m a b, ho, _, n, st => by
    rw [Cd.ok] at ho
    rw [clsN, t_holds_RestOf]
    by_cases h1 : a ≤ n % m
    · simp (disch := first | omega | (simp; done) | (simp; omega)) [runB_a, b_RestOf_holds, Cd.o, Cd.hd, h1]
    · simp (disch := first | omega | (simp; done) | (simp; omega)) [runB_a, b_RestOf_holds, Cd.o, Cd.hd, h1]
  | k + 1, .self a b, ho, _, n, st => by
    rw [clsN, t_holds_SelfOf]
    by_cases h1 : a ≤ n
    · cases b with
      | none => simp (disch := first | omega | (simp; done) | (simp; omega)) [runB_a, b_SelfOf_holds, Cd.o, Cd.hd, h1, optD]
      | some b => simp (disch := first | omega | (simp; done) | (simp; omega)) [runB_a, b_SelfOf_holds, Cd.o, Cd.hd, h1, optD]
    · simp (disch := first | omega | (simp; done) | (simp; omega)) [runB_a, b_SelfOf_holds, Cd.o, Cd.hd, h1]
  | k + 1, .not c, ho, h, n, st => by
    have e := holdsM_ok k c (by simpa [Cd.ok] using ho) (by rw [Cd.dep] at h; omega) n st
    rw [clsN, t_holds_NotOf, runB_a, b_NotOf_holds, sR_a, eN_a, mc_holds (c := c) (by simp [Cd.o])]
    simp (disch := first | omega | (simp; done) | (simp; omega)) [e, Cd.hd]
  | k + 1, .grp t cs, ho, h, n, st => by
    rw [Cd.ok] at ho
    rw [Cd.dep] at h
    obtain ⟨hl, ho⟩ := ho
    have hl2 : cs.length ≤ 16777216 := by omega
    cases t with
    | true =>
      have key := lcL_mapF (g := gV 2) (own := [2]) (f := E_AllOf_holds_1 (t_holds k)) (S := [.d (Cd.grp true cs).o, .d (.int n), .no]) (st := st) Cd.o (fun c => .bl (c.hd n)) cs (fun c hc => by
        have e := holdsM_ok k c (Cd.oks_mem ho c hc) (by have := Cd.dep_le hc; omega) n st
        exact ⟨_, _, rfl, by rw [E_AllOf_holds_1, mc_holds (c := c) (by simp)]; simp [e] <;> rfl, by simp⟩)
      rw [show cs.map (fun c => D.bl (c.hd n)) = (cs.map fun c => c.hd n).map D.bl by simp [Function.comp_def]] at key
      rw [show clsN (.grp true cs) = 280991911782 from rfl, t_holds_AllOf, show (Cd.grp true cs).hd n = cs.all (fun c => c.hd n) by rw [Cd.hd, if_pos rfl, Cd.hall_eq]]
      rw [Cd.o, Cd.os_eq] at key ⊢
      simp only [if_true] at key ⊢
      simp (disch := first | omega | (simp; done) | (simp; omega)) [runB_a, b_AllOf_holds, key, hl2, -List.map_map]
    | false =>
      have key := lcL_mapF (g := gV 2) (own := [2]) (f := E_GroupOf_holds_1 (t_holds k)) (S := [.d (Cd.grp false cs).o, .d (.int n), .no]) (st := st) Cd.o (fun c => .bl (c.hd n)) cs (fun c hc => by
        have e := holdsM_ok k c (Cd.oks_mem ho c hc) (by have := Cd.dep_le hc; omega) n st
        exact ⟨_, _, rfl, by rw [E_GroupOf_holds_1, mc_holds (c := c) (by simp)]; simp [e] <;> rfl, by simp⟩)
      rw [show cs.map (fun c => D.bl (c.hd n)) = (cs.map fun c => c.hd n).map D.bl by simp [Function.comp_def]] at key
      rw [show clsN (.grp false cs) = 20110546383687526 from rfl, t_holds_GroupOf, show (Cd.grp false cs).hd n = cs.any (fun c => c.hd n) by rw [Cd.hd, if_neg (by decide), Cd.hany_eq]]
      rw [Cd.o, Cd.os_eq] at key ⊢
      simp only [Bool.false_eq_true, if_false] at key ⊢
      simp (disch := first | omega | (simp; done) | (simp; omega)) [runB_a, b_GroupOf_holds, key, hl2, -List.map_map]
theorem holds_ok (c : Cd) (ho : c.ok) (hd : c.dep < 20) (n : Int) (st : Store) : c_holds [c.d, .int n] st = .ok (.bl (c.hd n)) [] st := by
  have e1 := made_ok 20 c ho hd st
  have e2 := holdsM_ok 20 c ho hd n st
  rw [c_holds, runB_a, b_holds, sR_a]
  obtain ⟨es, e, hl⟩ := obj_form c
  rw [e] at e1 e2
  simp [e1]
  rw [if_pos ⟨by rcases cls_in c with z | z | z | z | z <;> rw [z] <;> simp, hl⟩]
  simp [e2]
end M

namespace M
open PySem PySem.Spec PyProof.Rows L2 DL
theorem lholds_ok : ∀ (k : Nat) (c : Cd), c.ok → c.dep < k → ∀ (n : Int) (st : Store), c__law_holds k [c.d, .int n] st = .ok (.bl (c.hd n)) [] st
  | 0, _, _, h, _, _ => by omega
  | k + 1, .rest m a b, ho, _, n, st => by
    rw [Cd.ok] at ho
    by_cases h1 : a ≤ n % m
    · simp (disch := first | omega | (simp; done) | (simp; omega)) [c__law_holds, runB_a, b__law_holds, Cd.d, Cd.hd, h1]
    · simp (disch := first | omega | (simp; done) | (simp; omega)) [c__law_holds, runB_a, b__law_holds, Cd.d, Cd.hd, h1]
  | k + 1, .self a b, ho, _, n, st => by
    by_cases h1 : a ≤ n
    · cases b with
      | none => simp (disch := first | omega | (simp; done) | (simp; omega)) [c__law_holds, runB_a, b__law_holds, Cd.d, Cd.hd, h1, optD]
      | some b => simp (disch := first | omega | (simp; done) | (simp; omega)) [c__law_holds, runB_a, b__law_holds, Cd.d, Cd.hd, h1, optD]
    · simp (disch := first | omega | (simp; done) | (simp; omega)) [c__law_holds, runB_a, b__law_holds, Cd.d, Cd.hd, h1]
  | k + 1, .not c, ho, h, n, st => by
    have e := lholds_ok k c (by simpa [Cd.ok] using ho) (by rw [Cd.dep] at h; omega) n st
    simp (disch := first | omega | (simp; done) | (simp; omega)) [c__law_holds, runB_a, b__law_holds, Cd.d, Cd.hd, e]
  | k + 1, .grp t cs, ho, h, n, st => by
    rw [Cd.ok] at ho
    rw [Cd.dep] at h
    obtain ⟨hl, ho⟩ := ho
    obtain ⟨n1, n2, n3⟩ := wAO_ne t
    have hw : decide (wAO t = [111, 114]) = !t := by cases t <;> decide
    obtain ⟨f1, f2⟩ := forL_findF (g := gV 4) (body := L__law_holds_1 (c__law_holds k)) (st := st) Cd.d (fun c => c.hd n == !t) (.bl (!t)) (fun S => ∃ x, S = [.d (Cd.grp t cs).d, .d (.int n), .d (.str (wAO t)), .d (.bl (!t)), x]) cs [.d (Cd.grp t cs).d, .d (.int n), .d (.str (wAO t)), .d (.bl (!t)), .no] (fun c hc S ⟨x, e⟩ => by
      subst e
      have e := lholds_ok k c (Cd.oks_mem ho c hc) (by have := Cd.dep_le hc; omega) n st
      refine ⟨_, rfl, fun z => ⟨_, by simp (disch := first | omega | (simp; done) | (simp; omega)) [L__law_holds_1, e, beq_iff_eq.mp z] <;> rfl⟩, fun z => ⟨[.d (Cd.grp t cs).d, .d (.int n), .d (.str (wAO t)), .d (.bl (!t)), .d c.d], ?_, .d c.d, rfl⟩⟩
      have z' : ¬ c.hd n = !t := by simpa using z
      simp (disch := first | omega | (simp; done) | (simp; omega)) [L__law_holds_1, e, z']) ⟨.no, rfl⟩
    have hv : (Cd.grp t cs).hd n = if cs.any (fun c => c.hd n == !t) = true then !t else t := by
      cases t with
      | true =>
        rw [Cd.hd, if_pos rfl, Cd.hall_eq]
        cases hx : cs.all (fun c => c.hd n) with
        | true =>
          have : cs.any (fun c => c.hd n == !true) = false := by
            rw [List.any_eq_false]; rw [List.all_eq_true] at hx
            intro c hc; simp [hx c hc]
          rw [this]; rfl
        | false =>
          have : cs.any (fun c => c.hd n == !true) = true := by
            rw [List.all_eq_false] at hx
            obtain ⟨c, hc, h⟩ := hx
            rw [List.any_eq_true]
            exact ⟨c, hc, by simpa using h⟩
          rw [this]; rfl
      | false =>
        rw [Cd.hd, if_neg (by decide), Cd.hany_eq]
        have : cs.any (fun c => c.hd n == !false) = cs.any (fun c => c.hd n) := by simp
        rw [this]; cases cs.any (fun c => c.hd n) <;> rfl
    rw [hv]
    rw [Cd.d, Cd.ds_eq] at f1 f2 ⊢
    cases hany : cs.any (fun c => c.hd n == !t) with
    | true =>
      obtain ⟨S', e⟩ := f1 hany
      simp (disch := first | omega | (simp; done) | (simp; omega)) [c__law_holds, runB_a, b__law_holds, n1, n2, n3, hw, e]
    | false =>
      obtain ⟨S', e, x, hS⟩ := f2 hany
      subst hS
      simp (disch := first | omega | (simp; done) | (simp; omega)) [c__law_holds, runB_a, b__law_holds, n1, n2, n3, hw, e]
theorem edges_ok : ∀ (k : Nat) (c : Cd), c.ok → c.dep < k → c.lv ≤ 1000 → ∀ st, c__law_edges k [c.d] st = .ok (.lst (c.edg.map .int)) [] st
  | 0, _, _, h, _, _ => by omega
  | k + 1, .rest m a b, ho, _, _, st => by simp (disch := first | omega | (simp; done) | (simp; omega)) [c__law_edges, runB_a, b__law_edges, Cd.d, Cd.edg]
  | k + 1, .self a b, ho, _, _, st => by
    have hc : cut [D.str w_self, .int a, optD b] (some 2) none = [optD b] := by rw [cut_from _ (by decide)]; rfl
    cases b with
    | none => 
      have hc2 : cut [D.str w_self, .int a, .non] (some 2) none = [.non] := hc
      simp (disch := first | omega | (simp; done) | (simp; omega)) [c__law_edges, runB_a, b__law_edges, Cd.d, Cd.edg, hc2, optD, lcL_c, T__law_edges_1, E__law_edges_1]
    | some b => 
      have hc2 : cut [D.str w_self, .int a, .int b] (some 2) none = [.int b] := hc
      simp (disch := first | omega | (simp; done) | (simp; omega)) [c__law_edges, runB_a, b__law_edges, Cd.d, Cd.edg, hc2, optD, lcL_c, T__law_edges_1, E__law_edges_1]
  | k + 1, .not c, ho, h, hv, st => by
    have e := edges_ok k c (by simpa [Cd.ok] using ho) (by rw [Cd.dep] at h; omega) (by simpa [Cd.lv] using hv) st
    simp (disch := first | omega | (simp; done) | (simp; omega)) [c__law_edges, runB_a, b__law_edges, Cd.d, Cd.edg, e]
  | k + 1, .grp t cs, ho, h, hv, st => by
    rw [Cd.ok] at ho
    rw [Cd.dep] at h
    rw [Cd.lv] at hv
    obtain ⟨hl, ho⟩ := ho
    obtain ⟨n1, n2, n3⟩ := wAO_ne t
    obtain ⟨S', e, x, hS⟩ : ∃ S', forL (gV 3) (L__law_edges_1 (c__law_edges k)) (cs.map Cd.d) [.d (Cd.grp t cs).d, .no, .d (.lst []), .no] st = .nx S' st ∧ ∃ x, S' = [.d (Cd.grp t cs).d, .no, .d (.lst ((Cd.edgs cs).map .int)), x] := by
      have gen : ∀ (r : List Cd), (∀ c ∈ r, c ∈ cs) → ∀ (acc : List Int) (x : Sl), acc.length + 2 * Cd.lvs r ≤ 2000 → ∃ S', forL (gV 3) (L__law_edges_1 (c__law_edges k)) (r.map Cd.d) [.d (Cd.grp t cs).d, .no, .d (.lst (acc.map .int)), x] st = .nx S' st ∧ ∃ x, S' = [.d (Cd.grp t cs).d, .no, .d (.lst ((acc ++ Cd.edgs r).map .int)), x] := by
        intro r
        induction r with
        | nil => intro _ acc x _; exact ⟨_, rfl, x, by simp [Cd.edgs]⟩
        | cons c r ih =>
          intro hm acc x hb
          rw [Cd.lvs] at hb
          have hc := hm c (List.mem_cons_self ..)
          have hcl := Cd.edg_len c
          have e := edges_ok k c (Cd.oks_mem ho c hc) (by have := Cd.dep_le hc; omega) (by omega) st
          obtain ⟨S', e2, x2, e3⟩ := ih (fun y m => hm y (List.mem_cons_of_mem _ m)) (acc ++ c.edg) (.d c.d) (by simp; omega)
          refine ⟨S', ?_, x2, by rw [e3, Cd.edgs, List.append_assoc]⟩
          rw [List.map_cons, forL_c, gV_a]
          have hb2 : L__law_edges_1 (c__law_edges k) [.d (Cd.grp t cs).d, .no, .d (.lst (acc.map .int)), .d c.d] st = .nx [.d (Cd.grp t cs).d, .no, .d (.lst ((acc ++ c.edg).map .int)), .d c.d] st := by
            simp (disch := first | omega | (simp; done) | (simp; omega)) [L__law_edges_1, e]
          simp only [List.set_cons_succ, List.set_cons_zero]
          rw [hb2]; exact e2
      have := gen cs (fun _ h => h) [] .no (by simp; omega)
      simpa using this
    subst hS
    rw [Cd.d, Cd.ds_eq] at e ⊢
    rw [Cd.edg]
    simp (disch := first | omega | (simp; done) | (simp; omega)) [c__law_edges, runB_a, b__law_edges, n1, n2, n3, e]
end M

namespace M
open PySem PySem.Spec PyProof.Rows L2 DL
theorem cell_ok (ns : List Int) (i : Int) (h : 0 ≤ i) (st : Store) : c__law_cell_at [.scr ns, .int i] st = .ok (.int (cell ns i)) [] st := by
  by_cases hi : i < (ns.length : Int)
  · have e : atI ns i = some (cell ns i) := by
      rw [atI_nn _ h]; unfold cell
      rw [List.getElem?_eq_getElem (by omega)]; rfl
    simp [c__law_cell_at, runB_a, b__law_cell_at, hi, e]
  · have e : cell ns i = 0 := by
      unfold cell
      rw [List.getElem?_eq_none (by omega)]; rfl
    simp [c__law_cell_at, runB_a, b__law_cell_at, hi, e]
abbrev divs : List Int := [2, 3, 4, 5, 6, 10, 12, 15, 20, 25, 30, 50, 60, 75, 100, 150, 300]
theorem divs_ok : ∀ m ∈ divs, 0 < m ∧ m ≤ 300 ∧ m ∣ 300 := by decide
theorem atom_ok (n : Int) (st : Store) : ∃ c : Cd, c__law_atom [.int n] st = .ok c.d [] st ∧ c.ok ∧ c.dep = 0 ∧ c.lv = 1 := by
  by_cases h2 : n % 2 = 0
  · obtain ⟨m, hm, hmem⟩ := atI_some (xs := divs) (i := n / 2 % 17) (by omega) (by simp <;> omega)
    obtain ⟨m0, m1, m2⟩ := divs_ok m hmem
    have hm' : atI [D.int 2, .int 3, .int 4, .int 5, .int 6, .int 10, .int 12, .int 15, .int 20, .int 25, .int 30, .int 50, .int 60, .int 75, .int 100, .int 150, .int 300] (n / 2 % 17) = some (.int m) := by
      have := atI_map D.int divs (n / 2 % 17)
      rw [hm] at this; exact this
    have a0 : 0 ≤ n / 34 % m := Int.emod_nonneg _ (by omega)
    have a1 : n / 34 % m < m := Int.emod_lt_of_pos _ m0
    have b0 : 0 ≤ n / 34 / m % (m - n / 34 % m) := Int.emod_nonneg _ (by omega)
    have b1 : n / 34 / m % (m - n / 34 % m) < m - n / 34 % m := Int.emod_lt_of_pos _ (by omega)
    refine ⟨.rest m (n / 34 % m) (n / 34 % m + n / 34 / m % (m - n / 34 % m)), ?_, by rw [Cd.ok]; exact ⟨m0, m1, m2, a0, by omega, by omega⟩, rfl, rfl⟩
    have b2 : 0 < m - n / 34 % m := by omega
    simp (disch := first | omega | (simp; done) | (simp; omega)) [c__law_atom, runB_a, b__law_atom, h2, hm', Cd.d, b2]
  by_cases c0 : n / 2 % 4 = 0
  · exact ⟨.self (n / 34 % 700) none, by simp (disch := first | omega | (simp; done) | (simp; omega)) [c__law_atom, runB_a, b__law_atom, h2, c0, Cd.d, optD], by rw [Cd.ok]; exact ⟨by omega, trivial⟩, rfl, rfl⟩
  by_cases c1 : n / 2 % 4 = 1
  · exact ⟨.self (n / 34 % 10 ^ 58) (some (n / 34 % 10 ^ 58 + n / 34 / 10 ^ 58 % 10 ^ 58)), by simp (disch := first | omega | (simp; done) | (simp; omega)) [c__law_atom, runB_a, b__law_atom, h2, c0, c1, Cd.d, optD], by rw [Cd.ok]; exact ⟨by omega, by show n / 34 % 10 ^ 58 ≤ n / 34 % 10 ^ 58 + n / 34 / 10 ^ 58 % 10 ^ 58; omega⟩, rfl, rfl⟩
  by_cases c2 : n / 2 % 4 = 2
  · exact ⟨.self (n / 34 % 10 ^ 59) none, by simp (disch := first | omega | (simp; done) | (simp; omega)) [c__law_atom, runB_a, b__law_atom, h2, c0, c1, c2, Cd.d, optD], by rw [Cd.ok]; exact ⟨by omega, trivial⟩, rfl, rfl⟩
  · exact ⟨.self (n / 34 % 700) (some (n / 34 % 700 + n / 34 / 700 % 700)), by simp (disch := first | omega | (simp; done) | (simp; omega)) [c__law_atom, runB_a, b__law_atom, h2, c0, c1, c2, Cd.d, optD], by rw [Cd.ok]; exact ⟨by omega, by show n / 34 % 700 ≤ n / 34 % 700 + n / 34 / 700 % 700; omega⟩, rfl, rfl⟩
theorem dAddF_l (s t : List D) (h : s.length + t.length ≤ 16777216) : dAddF (.lst s) (.lst t) = some (.l (s ++ t)) := if_pos h
/-! ### the stack -/
def entD (p : Cd × Int) : D := .tup [p.1.d, .int p.2]
structure StOk (N : Nat) (s : List (Cd × Int)) : Prop where
  ok : ∀ p ∈ s, p.1.ok ∧ (p.1.dep : Int) ≤ p.2 ∧ 1 ≤ p.2 ∧ p.2 ≤ 14
  lv : Cd.lvs (s.map (·.1)) ≤ N
  len : s.length ≤ N
theorem mxD_le {ns : List Int} {d : Int} (h : ∀ y ∈ ns, d ≤ y) (hd : d ≤ d) : (∀ y ∈ ns, y ≤ mxD ns d) ∧ d ≤ mxD ns d := by
  cases ns with
  | nil => exact ⟨by simp, Int.le_refl _⟩
  | cons n r =>
    obtain ⟨h1, h2⟩ := foldl_max_mem r n
    exact ⟨h2, Int.le_trans (h n (List.mem_cons_self ..)) (h2 n (List.mem_cons_self ..))⟩
theorem group_ok (N : Nat) (hN : N ≤ 100) (s : List (Cd × Int)) (hs : StOk N s) (t : Bool) (m : Nat) (hm : m ≤ s.length) (st : Store) :
    ∃ s', c__law_group [.own (.l (s.map entD)), .d (.str (wAO t)), .d (.int m)] st = .ok (.l (s'.map entD)) [] st ∧ StOk (N + 1) s' := by
  have hl := hs.len
  have hc1 : cut (s.map entD) (some ((s.length : Int) - (m : Int))) none = (s.drop (s.length - m)).map entD := by
    rw [cut_map, cut_from _ (by omega)]; congr 2; omega
  have hc2 : cut (s.map entD) none (some ((s.length : Int) - (m : Int))) = (s.take (s.length - m)).map entD := by
    rw [cut_map, cut_to _ (by omega)]; congr 2; omega
  have hsub : ∀ p ∈ s.drop (s.length - m), p ∈ s := fun p h => List.mem_of_mem_drop h
  have htk : ∀ p ∈ s.take (s.length - m), p ∈ s := fun p h => List.mem_of_mem_take h
  have hlv : Cd.lvs (s.map (·.1)) = Cd.lvs ((s.take (s.length - m)).map (·.1)) + Cd.lvs ((s.drop (s.length - m)).map (·.1)) := by
    rw [← Cd.lvs_app, ← List.map_append, List.take_append_drop]
  have htl : (s.take (s.length - m)).length ≤ s.length - m := by simp
  have hdl : (s.drop (s.length - m)).length ≤ s.length := by simp
  generalize s.drop (s.length - m) = la at *
  generalize s.take (s.length - m) = fr at *
  have k1 : lcL (gT 2 (gC (gV 5) (gC (gV 4) gN))) [5, 4] tY E__law_group_1 (la.map entD) [.own (.l (s.map entD)), .d (.str (wAO t)), .d (.int m), .d (.lst (la.map entD)), .no, .no] st = .ok ((la.map (·.2)).map .int) [.own (.l (s.map entD)), .d (.str (wAO t)), .d (.int m), .d (.lst (la.map entD)), .no, .no] st := by
    have := lcL_mapF (g := gT 2 (gC (gV 5) (gC (gV 4) gN))) (own := [5, 4]) (f := E__law_group_1) (S := [.own (.l (s.map entD)), .d (.str (wAO t)), .d (.int m), .d (.lst (la.map entD)), .no, .no]) (st := st) entD (fun p => .int p.2) la (fun p hp => ⟨_, _, rfl, by simp [E__law_group_1] <;> rfl, by simp⟩)
    rw [this]; simp [Function.comp_def]
  have k2 : lcL (gT 2 (gC (gV 5) (gC (gV 4) gN))) [5, 4] tY E__law_group_2 (la.map entD) [.own (.l (s.map entD)), .d (.str (wAO t)), .d (.int m), .d (.lst (la.map entD)), .no, .no] st = .ok (la.map fun p => p.1.d) [.own (.l (s.map entD)), .d (.str (wAO t)), .d (.int m), .d (.lst (la.map entD)), .no, .no] st :=
    lcL_mapF (g := gT 2 (gC (gV 5) (gC (gV 4) gN))) (own := [5, 4]) (f := E__law_group_2) (S := [.own (.l (s.map entD)), .d (.str (wAO t)), .d (.int m), .d (.lst (la.map entD)), .no, .no]) (st := st) entD (fun p => p.1.d) la (fun p hp => ⟨_, _, rfl, by simp [E__law_group_2] <;> rfl, by simp⟩)
  have hx := dMaxD_a (la.map (·.2)) 0
  obtain ⟨g1, g2⟩ := mxD_le (ns := la.map (·.2)) (d := 0) (fun y hy => by
    obtain ⟨p, hp, rfl⟩ := List.mem_map.mp hy
    have := (hs.ok p (hsub p hp)).2.2.1
    omega) (Int.le_refl _)
  generalize mxD (la.map (·.2)) 0 = dp at *
  have hla : la.length ≤ 16777216 := by omega
  by_cases h13 : 13 < dp
  · refine ⟨s, ?_, ⟨hs.ok, by have := hs.lv; omega, by omega⟩⟩
    simp (disch := first | omega | (simp; done) | (simp; omega)) [c__law_group, runBO_a, b__law_group, hc1, k1, hx, h13, hla, -List.map_map]
  · refine ⟨fr ++ [(.grp t (la.map (·.1)), dp + 1)], ?_, ⟨fun p hp => ?_, ?_, ?_⟩⟩
    · have hfl : fr.length + 1 ≤ 16777216 := by omega
      have ed : entD (.grp t (la.map (·.1)), dp + 1) = .tup [.tup [.str (wAO t), .lst (la.map fun p => p.1.d)], .int (dp + 1)] := by
        simp [entD, Cd.d, Cd.ds_eq, Function.comp_def]
      rw [List.map_append, List.map_cons, List.map_nil, ed]
      simp (disch := first | omega | (simp; done) | (simp; omega)) [c__law_group, runBO_a, b__law_group, hc1, hc2, k1, k2, hx, h13, hla, dAddF_l, hfl, -List.map_map]
    · rcases List.mem_append.mp hp with z | z
      · exact hs.ok p (htk p z)
      · rw [List.mem_singleton.mp z]
        refine ⟨?_, ?_, by omega, by omega⟩
        · rw [Cd.ok]
          refine ⟨by simp; omega, Cd.oks_of fun c hc => ?_⟩
          obtain ⟨q, hq, rfl⟩ := List.mem_map.mp hc
          exact (hs.ok q (hsub q hq)).1
        · show (((Cd.deps (la.map (·.1))) + 1 : Nat) : Int) ≤ dp + 1
          have : Cd.deps (la.map (·.1)) ≤ dp.toNat := Cd.deps_le fun c hc => by
            obtain ⟨q, hq, rfl⟩ := List.mem_map.mp hc
            have h1 := (hs.ok q (hsub q hq)).2.1
            have h2 := g1 q.2 (List.mem_map.mpr ⟨q, hq, rfl⟩)
            omega
          omega
    · rw [List.map_append, Cd.lvs_app]
      have := hs.lv
      simp only [List.map_cons, List.map_nil, Cd.lvs, Cd.lv]
      omega
    · simp; omega
end M

namespace M
open PySem PySem.Spec PyProof.Rows L2 DL
theorem sSet_a (i : Nat) (fv fj : Ev D) (S : Sls) (st : Store) : sSet i fv fj S st = (fv S st).out fun d S st => match S[i]? with
  | some (.own (.l _)) => (fj S st).out fun j S st => match j, S[i]? with
    | .int k, some (.own (.l ds)) => match ixN ds.length k with
      | some j => .nx (S.set i (.own (.l (ds.set j d)))) st
      | none => .stuck
    | _, _ => .stuck
  | _ => .stuck := rfl
theorem pureDs_of {n : Nat} : ∀ {ds : List D}, (∀ d ∈ ds, pureD d = true ∧ depD d ≤ n) → pureDs ds = true ∧ depDs ds ≤ n
  | [], _ => by simp [pureDs, depDs]
  | d :: r, h => by
    obtain ⟨a, b⟩ := h d (List.mem_cons_self ..)
    obtain ⟨a', b'⟩ := pureDs_of fun x m => h x (List.mem_cons_of_mem _ m)
    simp [pureDs, depDs, a, a']
    omega
theorem st_eqOk {N : Nat} {s : List (Cd × Int)} (hs : StOk N s) : eqOk (.lst (s.map entD)) = true := by
  obtain ⟨a, b⟩ := pureDs_of (n := 40) (ds := s.map entD) (fun d hd => by
    obtain ⟨p, hp, rfl⟩ := List.mem_map.mp hd
    obtain ⟨h1, h2⟩ := Cd.pure p.1
    have := hs.ok p hp
    simp [entD, pureD, pureDs, depD, depDs, h1]
    omega)
  have hp : pureD (.lst (s.map entD)) = true := by simpa [pureD] using a
  have hd : depD (.lst (s.map entD)) ≤ 60 := by simp [depD]; omega
  unfold DL.eqOk
  rw [hp, decide_eq_true hd]; rfl
theorem step_ok (cells : D) (w : List Nat) (N : Nat) (hN : N ≤ 60) (s : List (Cd × Int)) (hs : StOk N s) (n : Int) (x3 x4 : Sl) (st : Store) :
    ∃ s' x4', L__law_condition_1 [.d cells, .d (.str w), .own (.l (s.map entD)), .d (.int n), x4, .no, .no] st = .nx [.d cells, .d (.str w), .own (.l (s'.map entD)), .d (.int n), x4', .no, .no] st ∧ StOk (N + 1) s' := by
  have hl := hs.len
  by_cases c4 : n % 8 = 4 ∧ ∃ r p, s = r ++ [p] ∧ p.2 < 14
  · obtain ⟨c4, r, p, rfl, hp⟩ := c4
    have e1 : atI ((r ++ [p]).map entD) (-1) = some (entD p) := by rw [DL.atI_last]; simp
    have e2 : deq (.lst ((r ++ [p]).map entD)) (.lst []) = false := by
      rw [deq_lst]
      cases h : (r ++ [p]).map entD with
      | nil => simp at h
      | cons a b => simp
    have e3 : ixN ((r ++ [p]).map entD).length (-1) = some r.length := by
      unfold ixN
      rw [if_neg (by decide), if_pos (by simp; omega)]
      simp; omega
    have e4 : ((r ++ [p]).map entD).set r.length (entD (Cd.not p.1, p.2 + 1)) = r.map entD ++ [entD (Cd.not p.1, p.2 + 1)] := by
      rw [List.map_append, List.set_append_right _ _ (by simp)]; simp
    have hq := hs.ok p (by simp)
    have e6 : entD p = .tup [p.1.d, .int p.2] := rfl
    have e7 : entD (Cd.not p.1, p.2 + 1) = .tup [.tup [.str w_not, p.1.d], .int (p.2 + 1)] := rfl
    have ep := st_eqOk hs
    refine ⟨r ++ [(Cd.not p.1, p.2 + 1)], .d (.int 4), ?_, ⟨fun q hq' => ?_, ?_, by have := hs.len; simp at this ⊢; omega⟩⟩
    · have e8 : (r ++ [(Cd.not p.1, p.2 + 1)]).map entD = ((r ++ [p]).map entD).set r.length (entD (Cd.not p.1, p.2 + 1)) := by rw [e4]; simp
      rw [e8, e7]
      rw [e6] at e1
      generalize (r ++ [p]).map entD = L at *
      simp (disch := first | omega | (simp; done) | (simp; omega)) [L__law_condition_1, c4, e1, e2, e3, hp, ep, sSet_a]
    · rcases List.mem_append.mp hq' with z | z
      · exact hs.ok q (by simp [z])
      · rw [List.mem_singleton.mp z]
        refine ⟨by rw [Cd.ok]; exact hq.1, ?_, by show 1 ≤ p.2 + 1; omega, by show p.2 + 1 ≤ 14; omega⟩
        show ((p.1.dep + 1 : Nat) : Int) ≤ p.2 + 1
        omega
    · have := hs.lv
      rw [List.map_append, Cd.lvs_app] at this ⊢
      simp only [List.map_cons, List.map_nil, Cd.lvs, Cd.lv] at this ⊢
      omega
  · have ep := st_eqOk hs
    by_cases c5 : n % 8 = 5 ∨ n % 8 = 6
    · -- a group
      have hmin : ∃ m : Nat, (if (s.length : Int) < n / 8 % 5 then (s.length : Int) else n / 8 % 5) = (m : Int) ∧ m ≤ s.length := by
        by_cases h : (s.length : Int) < n / 8 % 5
        · exact ⟨s.length, by rw [if_pos h], Nat.le_refl _⟩
        · exact ⟨(n / 8 % 5).toNat, by rw [if_neg h]; omega, by omega⟩
      obtain ⟨m, em, hm⟩ := hmin
      rcases c5 with c5 | c5
      · obtain ⟨s', e, h'⟩ := group_ok N (by omega) s hs true m hm st
        simp only [wAO, if_true] at e
        exact ⟨s', .d (.int 5), by simp (disch := first | omega | (simp; done) | (simp; omega)) [L__law_condition_1, c5, em, e], h'⟩
      · obtain ⟨s', e, h'⟩ := group_ok N (by omega) s hs false m hm st
        simp only [wAO, Bool.false_eq_true, if_false] at e
        exact ⟨s', .d (.int 6), by simp (disch := first | omega | (simp; done) | (simp; omega)) [L__law_condition_1, c5, em, e], h'⟩
    · have c50 : ¬ n % 8 = 5 := fun z => c5 (.inl z)
      have c60 : ¬ n % 8 = 6 := fun z => c5 (.inr z)
      obtain ⟨c, e, o1, o2, o3⟩ := atom_ok (n / 8) st
      refine ⟨s ++ [(c, 1)], .d (.int (n % 8)), ?_, ⟨fun q hq => ?_, ?_, by simp; omega⟩⟩
      · have ee : (s ++ [(c, (1 : Int))]).map entD = s.map entD ++ [.tup [c.d, .int 1]] := by simp [entD]
        rw [ee]
        have hsl : s.length < 16777216 := by omega
        by_cases c40 : n % 8 = 4
        · rcases List.eq_nil_or_concat s with z | ⟨r, p, z⟩
          · subst z
            simp (disch := first | omega | (simp; done) | (simp; omega)) [L__law_condition_1, c40, deq_lst, e]
          · have hp : ¬ p.2 < 14 := fun y => c4 ⟨c40, r, p, by rw [z, List.concat_eq_append], y⟩
            rw [List.concat_eq_append] at z
            have e1 : atI (s.map entD) (-1) = some (.tup [p.1.d, .int p.2]) := by rw [DL.atI_last, z]; simp [entD]
            have e2 : deq (.lst (s.map entD)) (.lst []) = false := by
              rw [deq_lst, z]
              cases h : (r ++ [p]).map entD with
              | nil => simp at h
              | cons a b => simp
            simp (disch := first | omega | (simp; done) | (simp; omega)) [L__law_condition_1, c40, e1, e2, hp, ep, e, hsl]
        · simp (disch := first | omega | (simp; done) | (simp; omega)) [L__law_condition_1, c40, c50, c60, e, hsl]
      · rcases List.mem_append.mp hq with z | z
        · exact hs.ok q z
        · rw [List.mem_singleton.mp z]
          exact ⟨o1, by rw [o2]; show ((0 : Nat) : Int) ≤ 1; decide, by show (1 : Int) ≤ 1; decide, by show (1 : Int) ≤ 14; decide⟩
      · rw [List.map_append, Cd.lvs_app]
        have := hs.lv
        simp only [List.map_cons, List.map_nil, Cd.lvs, o3]
        omega
theorem cond_ok (ms : List Int) (hm : ms.length ≤ 40) (t : Bool) (st : Store) : ∃ c : Cd, c__law_condition [.lst (ms.map .int), .str (wAO t)] st = .ok c.d [] st ∧ c.ok ∧ c.dep ≤ 15 ∧ c.lv ≤ 40 := by
  have loop : ∀ (r : List Int) (N : Nat) (s : List (Cd × Int)) (x3 x4 : Sl), N + r.length ≤ 40 → StOk N s → ∃ s' x3' x4', forL (gV 3) L__law_condition_1 (r.map .int) [.d (.lst (ms.map .int)), .d (.str (wAO t)), .own (.l (s.map entD)), x3, x4, .no, .no] st = .nx [.d (.lst (ms.map .int)), .d (.str (wAO t)), .own (.l (s'.map entD)), x3', x4', .no, .no] st ∧ StOk (N + r.length) s' := by
    intro r
    induction r with
    | nil => intro N s x3 x4 _ hs; exact ⟨s, x3, x4, rfl, hs⟩
    | cons n r ih =>
      intro N s x3 x4 hN hs
      simp at hN
      obtain ⟨s1, x4', e1, h1⟩ := step_ok (.lst (ms.map .int)) (wAO t) N (by omega) s hs n x3 x4 st
      obtain ⟨s2, x3'', x4'', e2, h2⟩ := ih (N + 1) s1 (.d (.int n)) x4' (by omega) h1
      refine ⟨s2, x3'', x4'', ?_, by simpa [Nat.add_comm, Nat.add_left_comm, Nat.add_assoc] using h2⟩
      rw [List.map_cons, forL_c, gV_a]
      simp only [List.set_cons_succ, List.set_cons_zero]
      rw [e1]; exact e2
  obtain ⟨s, x3, x4, e, hs⟩ := loop ms 0 [] .no .no (by omega) ⟨by simp, by simp [Cd.lvs], by simp⟩
  have hl := hs.len
  have hlv := hs.lv
  have key := lcL_mapF (g := gT 2 (gC (gV 5) (gC (gV 6) gN))) (own := [5, 6]) (f := E__law_condition_1) (S := [.d (.lst (ms.map .int)), .d (.str (wAO t)), .d (.lst (s.map entD)), x3, x4, .no, .no]) (st := st) entD (fun p => p.1.d) s (fun p hp => ⟨_, _, rfl, by simp [E__law_condition_1] <;> rfl, by simp⟩)
  have hsl : s.length ≤ 16777216 := by omega
  refine ⟨.grp t (s.map (·.1)), ?_, ?_, ?_, ?_⟩
  · rw [Cd.d, Cd.ds_eq, List.map_map]
    simp only [List.map_nil] at e
    simp (disch := first | omega | (simp; done) | (simp; omega)) [c__law_condition, runB_a, b__law_condition, e, key, hsl]
  · rw [Cd.ok]
    refine ⟨by simp; omega, Cd.oks_of fun c hc => ?_⟩
    obtain ⟨q, hq, rfl⟩ := List.mem_map.mp hc
    exact (hs.ok q hq).1
  · show Cd.deps (s.map (·.1)) + 1 ≤ 15
    have : Cd.deps (s.map (·.1)) ≤ 14 := Cd.deps_le fun c hc => by
      obtain ⟨q, hq, rfl⟩ := List.mem_map.mp hc
      have := hs.ok q hq
      omega
    omega
  · show Cd.lvs (s.map (·.1)) ≤ 40
    omega
end M

namespace M
open PySem PySem.Spec PyProof.Rows L2 DL
theorem near_ok (es : List Int) (he : es.length ≤ 100) (n : Int) (st : Store) : ∃ m : Int, c__law_near [.lst (es.map .int), .int n] st = .ok (.int m) [] st := by
  by_cases c0 : n % 4 = 0
  · exact ⟨_, by simp (disch := first | omega | (simp; done) | (simp; omega)) [c__law_near, runB_a, b__law_near, c0] <;> rfl⟩
  by_cases c1 : n % 4 = 1
  · exact ⟨_, by simp (disch := first | omega | (simp; done) | (simp; omega)) [c__law_near, runB_a, b__law_near, c0, c1] <;> rfl⟩
  have p0 : (0 : Int) < (es.length : Int) + 1 := by omega
  obtain ⟨x, hx, _⟩ := atI_some (xs := 0 :: es) (i := n / 4 % ((es.length : Int) + 1)) (Int.emod_nonneg _ (by omega)) (by simp; exact Int.emod_lt_of_pos _ p0)
  have hx' : atI (D.int 0 :: es.map D.int) (n / 4 % ((es.length : Int) + 1)) = some (.int x) := by
    have := atI_map D.int (0 :: es) (n / 4 % ((es.length : Int) + 1))
    rw [hx] at this; exact this
  have hl : es.length + 1 ≤ 16777216 := by omega
  have p1 : (es.length : Int) + 1 ≤ 10 ^ 200 := by omega
  exact ⟨_, by simp (disch := first | omega | (simp; done) | (simp; omega)) [c__law_near, runB_a, b__law_near, c0, c1, hx', p0, p1] <;> rfl⟩
theorem lawOk : LawOk c_law := fun ns hl hb => by
  have h0 := cell_ok ns 0 (by decide) []
  have h1 := cell_ok ns 1 (by decide) []
  have h2 := cell_ok ns 2 (by decide) []
  have hcut : cut (ns.map D.int) (some 3) (some 43) = ((ns.take 43).drop 3).map D.int := by rw [cut_map, cut_mid _ (by decide) (by decide)]; rfl
  have hms : ((ns.take 43).drop 3).length ≤ 40 := by simp; omega
  generalize (ns.take 43).drop 3 = ms at *
  obtain ⟨t, ht⟩ : ∃ t : Bool, atI [D.str [97, 110, 100], .str [111, 114]] (cell ns 0 % 2) = some (.str (wAO t)) := by
    have : cell ns 0 % 2 = 0 ∨ cell ns 0 % 2 = 1 := by omega
    rcases this with z | z
    · exact ⟨true, by rw [z]; rfl⟩
    · exact ⟨false, by rw [z]; rfl⟩
  obtain ⟨c, hc, c1, c2, c3⟩ := cond_ok ms hms t []
  have hE := edges_ok 20 c c1 (by omega) (by omega) []
  have hel : c.edg.length ≤ 80 := by have := Cd.edg_len c; omega
  have hH := holds_ok c c1 (by omega)
  have hL := lholds_ok 20 c c1 (by omega)
  have heq := Cd.deq_self c
  have hok := Cd.eqOk c (by omega)
  generalize c.edg = es at *
  obtain ⟨m1, hm1⟩ := near_ok es (by omega) (cell ns 1) []
  obtain ⟨m2, hm2⟩ := near_ok es (by omega) (cell ns 2) []
  have p0 : (0 : Int) < (es.length : Int) + 1 := by omega
  have p1 : (es.length : Int) + 1 ≤ 10 ^ 200 := by omega
  have q0 : 0 ≤ cell ns 0 / 2 % ((es.length : Int) + 1) := Int.emod_nonneg _ (by omega)
  generalize hf : cell ns 0 / 2 % ((es.length : Int) + 1) = f at *
  have hc1 : cut (es.map D.int) (some f) none = (es.drop f.toNat).map D.int := by rw [cut_map, cut_from _ q0]
  have hc2 : cut (es.map D.int) none (some f) = (es.take f.toNat).map D.int := by rw [cut_map, cut_to _ q0]
  have l1 : (es.drop f.toNat).length ≤ 80 := by simp; omega
  have l2 : (es.take f.toNat).length ≤ 80 := by simp; omega
  generalize es.drop f.toNat = e1 at *
  generalize es.take f.toNat = e2 at *
  have hc3 : cut (e1.map D.int ++ e2.map D.int) none (some 8) = ((e1 ++ e2).take 8).map D.int := by rw [← List.map_append, cut_map, cut_to _ (by decide)]; rfl
  have l3 : ((e1 ++ e2).take 8).length ≤ 8 := by simp; omega
  generalize (e1 ++ e2).take 8 = e3 at *
  -- the numbers
  have loop1 : ∀ (r : List Int) (nums : List Int) (x7 : Sl), nums.length + 3 * r.length ≤ 1000 → ∃ (nums' : List Int) (x7' : Sl), forL (gV 7) L_law_1 (r.map .int) [.d (.scr ns), .d (.str (wAO t)), .d c.d, .d c.d, .d (.lst (es.map .int)), .d (.lst (nums.map .int)), .d (.int f), x7, .no, .no] [] =
      .nx [.d (.scr ns), .d (.str (wAO t)), .d c.d, .d c.d, .d (.lst (es.map .int)), .d (.lst (nums'.map .int)), .d (.int f), x7', .no, .no] [] ∧ nums'.length ≤ 1000 := by
    intro r
    induction r with
    | nil => intro nums x7 h; exact ⟨nums, x7, rfl, by simpa using h⟩
    | cons n r ih =>
      intro nums x7 h
      simp at h
      obtain ⟨n2, x7', e, hn⟩ := ih (nums ++ [n, (if n - 1 > 0 then n - 1 else 0), n + 300]) (.d (.int n)) (by simp; omega)
      refine ⟨n2, x7', ?_, hn⟩
      rw [List.map_cons, forL_c, gV_a]
      have hb2 : L_law_1 [.d (.scr ns), .d (.str (wAO t)), .d c.d, .d c.d, .d (.lst (es.map .int)), .d (.lst (nums.map .int)), .d (.int f), .d (.int n), .no, .no] [] = .nx [.d (.scr ns), .d (.str (wAO t)), .d c.d, .d c.d, .d (.lst (es.map .int)), .d (.lst ((nums ++ [n, (if n - 1 > 0 then n - 1 else 0), n + 300]).map .int)), .d (.int f), .d (.int n), .no, .no] [] := by
        have hq : nums.length + 3 ≤ 16777216 := by omega
        simp (disch := first | omega | (simp; done) | (simp; omega)) [L_law_1, hq]
      simp only [List.set_cons_succ, List.set_cons_zero]
      rw [hb2]; exact e
  obtain ⟨nums, x7, f1, hn⟩ := loop1 e3 [m1, m2] .no (by simp; omega)
  obtain ⟨S', f2, x8, x9, hS⟩ := forL_accF (α := Unit) (g := gV 8) (body := L_law_2) (st := []) D.int (fun _ S => ∃ x8 x9, S = [.d (.scr ns), .d (.str (wAO t)), .d c.d, .d c.d, .d (.lst (es.map .int)), .d (.lst (nums.map .int)), .d (.int f), x7, x8, x9]) (fun a _ => a) nums () _ (fun n _ _ S ⟨x8, x9, e⟩ => by
    subst e
    exact ⟨_, [.d (.scr ns), .d (.str (wAO t)), .d c.d, .d c.d, .d (.lst (es.map .int)), .d (.lst (nums.map .int)), .d (.int f), x7, .d (.int n), .d (.bl (c.hd n))], rfl, by simp (disch := first | omega | (simp; done) | (simp; omega)) [L_law_2, hH n [], hL n []], _, _, rfl⟩) ⟨.no, .no, rfl⟩
  subst hS
  have l4 : e1.length + e2.length ≤ 16777216 := by omega
  simp only [List.map_cons, List.map_nil] at f1
  refine ⟨[], ?_⟩
  simp (disch := first | omega | (simp; done) | (simp; omega)) [c_law, runB_a, b_law, h0, h1, h2, hcut, ht, hc, hE, hm1, hm2, p0, p1, hf, hc1, hc2, hc3, l4, f1, f2, heq, hok]
end M

open PySem PySem.W PyProof.Rows
set_option maxRecDepth 100000 in
set_option maxHeartbeats 0 in
theorem PySem.Challenge.cw_saywell_k21_a_condition_holds_holds : PySem.Challenge.rw_saywell_k21_a_condition_holds.Holds := by
  w_on; o_law; k_head; (case hw => w_witness2)
  k_fill
  refine L2.walk_ofB (l := PySem.Challenge.rw_saywell_k21_a_condition_holds) (n := 63) (k := 25) (x := "_law_script") (CX := fun w => L2.CX PySem.Challenge.rw_saywell_k21_a_condition_holds.prog w) (sp := fun w => DL.spLaw _) rfl (by decide) rfl ⟨rfl, by decide, by decide⟩ (fun w h Y => PySem.W.kIn_of Y) ?F (fun _ _ a ns hl hb _ hS => ⟨a, ns, rfl, hS, hl, hb, fun _ => rfl⟩) (fun _ _ _ _ _ h => by obtain ⟨_, _, _, _, _, _, _, _, _, _, _, _, z⟩ := h; exact z.elim)
  case F =>
    intro w mg fa h KX G hmg
    refine' M.all_mk M.lawOk KX G hmg ?a__law_cell_at ?l__law_cell_at ?q__law_cell_at ?k__law_cell_at ?a__law_group ?l__law_group ?q__law_group ?k__law_group ?a__law_atom ?l__law_atom ?q__law_atom ?k__law_atom ?a__law_condition ?l__law_condition ?q__law_condition ?k__law_condition ?a__law_edges ?l__law_edges ?q__law_edges ?k__law_edges ?a__law_near ?l__law_near ?q__law_near ?k__law_near ?a_made ?l_made ?q_made ?k_made ?a_holds ?l_holds ?q_holds ?k_holds ?a__law_holds ?l__law_holds ?q__law_holds ?k__law_holds ?a_law ?l_law ?q_law ?k_law ?aC_AllOf ?pg_AllOf ?hd_AllOf ?po_AllOf ?sa_AllOf ?nf_AllOf_inner ?mt_AllOf_holds ?mk_AllOf ?in_AllOf ?kc_AllOf ?aC_Condition ?pg_Condition ?hd_Condition ?po_Condition ?sa_Condition ?mt_Condition_holds ?aC_GroupOf ?pg_GroupOf ?hd_GroupOf ?po_GroupOf ?sa_GroupOf ?nf_GroupOf_inner ?mt_GroupOf_holds ?mk_GroupOf ?in_GroupOf ?kc_GroupOf ?aC_NotOf ?pg_NotOf ?hd_NotOf ?po_NotOf ?sa_NotOf ?nf_NotOf_against ?mt_NotOf_holds ?mk_NotOf ?in_NotOf ?kc_NotOf ?aC_RestOf ?pg_RestOf ?hd_RestOf ?po_RestOf ?sa_RestOf ?nf_RestOf_by ?nf_RestOf_high ?nf_RestOf_low ?mt_RestOf_holds ?mk_RestOf ?in_RestOf ?kc_RestOf ?aC_SelfOf ?pg_SelfOf ?hd_SelfOf ?po_SelfOf ?sa_SelfOf ?nf_SelfOf_high ?nf_SelfOf_low ?mt_SelfOf_holds ?mk_SelfOf ?in_SelfOf ?kc_SelfOf ?i_Condition_holds ?l_Condition_holds ?q_Condition_holds ?k_Condition_holds ?i_RestOf_holds ?l_RestOf_holds ?q_RestOf_holds ?k_RestOf_holds ?i_SelfOf_holds ?l_SelfOf_holds ?q_SelfOf_holds ?k_SelfOf_holds ?i_NotOf_holds ?l_NotOf_holds ?q_NotOf_holds ?k_NotOf_holds ?i_GroupOf_holds ?l_GroupOf_holds ?q_GroupOf_holds ?k_GroupOf_holds ?i_AllOf_holds ?l_AllOf_holds ?q_AllOf_holds ?k_AllOf_holds ?i_GroupOf___init__ ?l_GroupOf___init__ ?q_GroupOf___init__ ?k_GroupOf___init__ ?i_NotOf___init__ ?l_NotOf___init__ ?q_NotOf___init__ ?k_NotOf___init__ ?i_RestOf___init__ ?l_RestOf___init__ ?q_RestOf___init__ ?k_RestOf___init__ ?i_SelfOf___init__ ?l_SelfOf___init__ ?q_SelfOf___init__ ?k_SelfOf___init__ ?z_len ?z_isinstance ?z_str ?z_int ?z_bool ?z_list ?z_tuple ?z_dict ?z_set ?z_range ?z_enumerate ?z_zip ?z_reversed ?z_sorted ?z_sum ?z_all ?z_any ?z_abs ?z_max ?z_min ?z_ord ?z_divmod ?z_repr
    (case a__law_cell_at => k_is)
    (case l__law_cell_at => k_is)
    (case q__law_cell_at => k_is)
    (case k__law_cell_at => k_is)
    (case a__law_group => k_is)
    (case l__law_group => k_is)
    (case q__law_group => k_is)
    (case k__law_group => k_is)
    (case a__law_atom => k_is)
    (case l__law_atom => k_is)
    (case q__law_atom => k_is)
    (case k__law_atom => k_is)
    (case a__law_condition => k_is)
    (case l__law_condition => k_is)
    (case q__law_condition => k_is)
    (case k__law_condition => k_is)
    (case a__law_edges => k_is)
    (case l__law_edges => k_is)
    (case q__law_edges => k_is)
    (case k__law_edges => k_is)
    (case a__law_near => k_is)
    (case l__law_near => k_is)
    (case q__law_near => k_is)
    (case k__law_near => k_is)
    (case a_made => k_is)
    (case l_made => k_is)
    (case q_made => k_is)
    (case k_made => k_is)
    (case a_holds => k_is)
    (case l_holds => k_is)
    (case q_holds => k_is)
    (case k_holds => k_is)
    (case a__law_holds => k_is)
    (case l__law_holds => k_is)
    (case q__law_holds => k_is)
    (case k__law_holds => k_is)
    (case a_law => k_is)
    (case l_law => k_is)
    (case q_law => k_is)
    (case k_law => k_is)
    (case aC_AllOf => k_is)
    (case pg_AllOf => k_is)
    (case hd_AllOf => k_is)
    (case po_AllOf => k_is)
    (case sa_AllOf => k_is)
    (case nf_AllOf_inner => k_is)
    (case mt_AllOf_holds => k_is)
    (case mk_AllOf => k_is)
    (case in_AllOf => k_is)
    (case kc_AllOf => k_is)
    (case aC_Condition => k_is)
    (case pg_Condition => k_is)
    (case hd_Condition => k_is)
    (case po_Condition => k_is)
    (case sa_Condition => k_is)
    (case mt_Condition_holds => k_is)
    (case aC_GroupOf => k_is)
    (case pg_GroupOf => k_is)
    (case hd_GroupOf => k_is)
    (case po_GroupOf => k_is)
    (case sa_GroupOf => k_is)
    (case nf_GroupOf_inner => k_is)
    (case mt_GroupOf_holds => k_is)
    (case mk_GroupOf => k_is)
    (case in_GroupOf => k_is)
    (case kc_GroupOf => k_is)
    (case aC_NotOf => k_is)
    (case pg_NotOf => k_is)
    (case hd_NotOf => k_is)
    (case po_NotOf => k_is)
    (case sa_NotOf => k_is)
    (case nf_NotOf_against => k_is)
    (case mt_NotOf_holds => k_is)
    (case mk_NotOf => k_is)
    (case in_NotOf => k_is)
    (case kc_NotOf => k_is)
    (case aC_RestOf => k_is)
    (case pg_RestOf => k_is)
    (case hd_RestOf => k_is)
    (case po_RestOf => k_is)
    (case sa_RestOf => k_is)
    (case nf_RestOf_by => k_is)
    (case nf_RestOf_high => k_is)
    (case nf_RestOf_low => k_is)
    (case mt_RestOf_holds => k_is)
    (case mk_RestOf => k_is)
    (case in_RestOf => k_is)
    (case kc_RestOf => k_is)
    (case aC_SelfOf => k_is)
    (case pg_SelfOf => k_is)
    (case hd_SelfOf => k_is)
    (case po_SelfOf => k_is)
    (case sa_SelfOf => k_is)
    (case nf_SelfOf_high => k_is)
    (case nf_SelfOf_low => k_is)
    (case mt_SelfOf_holds => k_is)
    (case mk_SelfOf => k_is)
    (case in_SelfOf => k_is)
    (case kc_SelfOf => k_is)
    (case i_Condition_holds => k_is)
    (case l_Condition_holds => k_is)
    (case q_Condition_holds => k_is)
    (case k_Condition_holds => k_is)
    (case i_RestOf_holds => k_is)
    (case l_RestOf_holds => k_is)
    (case q_RestOf_holds => k_is)
    (case k_RestOf_holds => k_is)
    (case i_SelfOf_holds => k_is)
    (case l_SelfOf_holds => k_is)
    (case q_SelfOf_holds => k_is)
    (case k_SelfOf_holds => k_is)
    (case i_NotOf_holds => k_is)
    (case l_NotOf_holds => k_is)
    (case q_NotOf_holds => k_is)
    (case k_NotOf_holds => k_is)
    (case i_GroupOf_holds => k_is)
    (case l_GroupOf_holds => k_is)
    (case q_GroupOf_holds => k_is)
    (case k_GroupOf_holds => k_is)
    (case i_AllOf_holds => k_is)
    (case l_AllOf_holds => k_is)
    (case q_AllOf_holds => k_is)
    (case k_AllOf_holds => k_is)
    (case i_GroupOf___init__ => k_is)
    (case l_GroupOf___init__ => k_is)
    (case q_GroupOf___init__ => k_is)
    (case k_GroupOf___init__ => k_is)
    (case i_NotOf___init__ => k_is)
    (case l_NotOf___init__ => k_is)
    (case q_NotOf___init__ => k_is)
    (case k_NotOf___init__ => k_is)
    (case i_RestOf___init__ => k_is)
    (case l_RestOf___init__ => k_is)
    (case q_RestOf___init__ => k_is)
    (case k_RestOf___init__ => k_is)
    (case i_SelfOf___init__ => k_is)
    (case l_SelfOf___init__ => k_is)
    (case q_SelfOf___init__ => k_is)
    (case k_SelfOf___init__ => k_is)
    (case z_len => k_is)
    (case z_isinstance => k_is)
    (case z_str => k_is)
    (case z_int => k_is)
    (case z_bool => k_is)
    (case z_list => k_is)
    (case z_tuple => k_is)
    (case z_dict => k_is)
    (case z_set => k_is)
    (case z_range => k_is)
    (case z_enumerate => k_is)
    (case z_zip => k_is)
    (case z_reversed => k_is)
    (case z_sorted => k_is)
    (case z_sum => k_is)
    (case z_all => k_is)
    (case z_any => k_is)
    (case z_abs => k_is)
    (case z_max => k_is)
    (case z_min => k_is)
    (case z_ord => k_is)
    (case z_divmod => k_is)
    (case z_repr => k_is)
